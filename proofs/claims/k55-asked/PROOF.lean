import PyProof.Rows.All
import Wide.All
import OpenK.AllK
import Wide.FinOn
import HandS.ForMost
import HandS.IsInst
import HandS.Wide
import HandS.Deep
import HandS.TupAny
import HandS.Zip
import HandS.Style
import HandS.Text
import HandS.DeepEq
import HandS.More
import KE.SortData
import HandS.SortInts
import HandS.Conv
import HandS.DictTup
import HandS.SortKw
import KE.DataMinMax
import KE.DataCmp
import HandS.TupLen
import PyProof.StrOps2
import HandS.SetKeys
import HandS.DictComp
import HandS.RaiseMore
import KE.IntTextLaws
import HandS.TupMul
import HandS.NoneIn
import PySem.Challenge.RW_whyrows_k55_asked
set_option Elab.async false
set_option linter.all false
set_option maxRecDepth 100000
set_option autoImplicit false
set_option maxHeartbeats 4000000
namespace Vl
/-- an equation by definition that simp takes as a proved one (the kernel isn't made to compute it again) -/
theorem byDef {α : Sort _} {a b : α} (h : a = b) : a = b := h
open PySem PySem.Spec PyProof.Rows L2

/-! ## data -/
inductive D where
  | non | bl (b : Bool) | int (i : Int) | str (x : List Nat) | tup (ds : List D) | lst (ds : List D) | dct (ks vs : List D) | dcu (ks vs : List D) | ins (n : List Nat) (ks : List (List Nat)) (fs : List D)
  deriving Inhabited
mutual
def D.same : D → D → Bool
  | .non, .non => true
  | .bl a, .bl b => a == b
  | .int a, .int b => a == b
  | .str a, .str b => a == b
  | .tup a, .tup b => D.sames a b
  | .lst a, .lst b => D.sames a b
  | .dct a c, .dct b d => D.sames a b && D.sames c d
  | .dcu a c, .dcu b d => D.sames a b && D.sames c d
  | .ins n a c, .ins m b d => n == m && (a == b && D.sames c d)
  | _, _ => false
def D.sames : List D → List D → Bool
  | [], [] => true
  | a :: r, b :: s => D.same a b && D.sames r s
  | _, _ => false
end
mutual
theorem D.same_iff : ∀ (a b : D), D.same a b = true ↔ a = b
  | .non, b => by cases b <;> simp [D.same]
  | .bl _, b => by cases b <;> simp [D.same]
  | .int _, b => by cases b <;> simp [D.same]
  | .str _, b => by cases b <;> simp [D.same]
  | .tup a, b => by cases b <;> simp [D.same, D.sames_iff a]
  | .lst a, b => by cases b <;> simp [D.same, D.sames_iff a]
  | .dct a c, b => by cases b <;> simp [D.same, D.sames_iff a, D.sames_iff c]
  | .dcu a c, b => by cases b <;> simp [D.same, D.sames_iff a, D.sames_iff c]
  | .ins _ _ c, b => by cases b <;> simp [D.same, D.sames_iff c]
theorem D.sames_iff : ∀ (a b : List D), D.sames a b = true ↔ a = b
  | [], b => by cases b <;> simp [D.sames]
  | a :: r, b => by cases b <;> simp [D.sames, D.same_iff a, D.sames_iff r]
end
instance : DecidableEq D := fun a b => if h : D.same a b = true then .isTrue ((D.same_iff a b).mp h) else .isFalse fun e => h ((D.same_iff a b).mpr e)

/-- the contents of a list or dict object that is one's own -/
inductive M where
  | lst (ds : List D) | dct (ks vs : List D) | dcu (ks vs : List D)
  deriving DecidableEq, Inhabited
def M.d : M → D
  | .lst ds => .lst ds
  | .dct ks vs => .dct ks vs
  | .dcu ks vs => .dcu ks vs
/-- data with objects of the store in it: each by its number there -/
inductive SD where
  | fz (d : D) | lab (n : Nat) | tup (ds : List SD)
  deriving Inhabited
mutual
def SD.same : SD → SD → Bool
  | .fz a, .fz b => D.same a b
  | .lab a, .lab b => a == b
  | .tup a, .tup b => SD.sames a b
  | _, _ => false
def SD.sames : List SD → List SD → Bool
  | [], [] => true
  | a :: r, b :: s => SD.same a b && SD.sames r s
  | _, _ => false
end
mutual
theorem SD.same_iff : ∀ (a b : SD), SD.same a b = true ↔ a = b
  | .fz a, b => by cases b <;> simp [SD.same, D.same_iff]
  | .lab _, b => by cases b <;> simp [SD.same]
  | .tup a, b => by cases b <;> simp [SD.same, SD.sames_iff a]
theorem SD.sames_iff : ∀ (a b : List SD), SD.sames a b = true ↔ a = b
  | [], b => by cases b <;> simp [SD.sames]
  | a :: r, b => by cases b <;> simp [SD.sames, SD.same_iff a, SD.sames_iff r]
end
instance : DecidableEq SD := fun a b => if h : SD.same a b = true then .isTrue ((SD.same_iff a b).mp h) else .isFalse fun e => h ((SD.same_iff a b).mpr e)
/-- what a slot holds that is no data and no object of one's own: an address, a thing of the store -/
inductive Bx where
  | ad (a : Addr) | sd (s : SD)
  deriving DecidableEq, Inhabited
inductive Sl where
  | no | val (d : D) | own (m : M) | adr (b : Bx)
  deriving DecidableEq, Inhabited
/-- a value that an expression gives: frozen data; a new object; the object of an own slot, borrowed -/
inductive Val where
  | fz (d : D) | nw (m : M) | pk (i : Nat) (m : M)
  deriving DecidableEq, Inhabited
def Val.d : Val → D
  | .fz d => d
  | .nw m => m.d
  | .pk _ m => m.d
abbrev Sts := List Sl
inductive R (α : Type) where
  | ok (a : α) | exc (c : Nat) (st : Sts) | no
def R.bind {α β : Type} (x : R α) (f : α → R β) : R β := match x with
  | .ok a => f a
  | .exc c st => .exc c st
  | .no => .no
@[simp] theorem R.bind_ok {α β : Type} (a : α) (f : α → R β) : (R.ok a).bind f = f a := byDef rfl
@[simp] theorem R.bind_exc {α β : Type} (c : Nat) (st : Sts) (f : α → R β) : (R.exc c st : R α).bind f = .exc c st := byDef rfl
@[simp] theorem R.bind_no {α β : Type} (f : α → R β) : (R.no : R α).bind f = .no := byDef rfl
theorem R.bind_congr {α β : Type} {x y : R α} (f : α → R β) (h : x = y) : x.bind f = y.bind f := by rw [h]
theorem R.bind_ite {α β : Type} {c : Prop} [Decidable c] (x y : R α) (f : α → R β) : (if c then x else y).bind f = if c then x.bind f else y.bind f := by split <;> rfl
theorem R.bind_assoc {α β γ : Type} (x : R α) (f : α → R β) (g : β → R γ) : (x.bind f).bind g = x.bind fun a => (f a).bind g := by cases x <;> rfl
theorem R.bind_eq_ok {α β : Type} {x : R α} {f : α → R β} {b : β} : x.bind f = .ok b ↔ ∃ a, x = .ok a ∧ f a = .ok b := by
  cases x <;> simp
abbrev VE := Sts → R (Val × Sts)
inductive Flow where
  | nx (st : Sts) | rt (v : Val) | bk (st : Sts) | ct (st : Sts)
abbrev VS := Sts → R Flow
abbrev VT := Sts → R (Bool × Sts)
abbrev VA := Sts → R (List Val × Sts)

/-! ## data in the heap -/
abbrev tx (x : List Nat) : Str := ⟨x.toArray⟩
def TxOk (x : List Nat) : Prop := x.length ≤ sizeLine ∧ ∀ c ∈ x, c < 1114112
/-- keys that are tuples of whole numbers and texts -/
def keyB : Key → D
  | .inl i => .int i
  | .inr x => .str x.cps.toList
def tupB (k : List Key) : D := .tup (k.map keyB)
def KeyTx : Key → Prop
  | .inl _ => True
  | .inr x => TxOk x.cps.toList
def TKeys (ks : List D) (kvs : List (List Key × V)) : Prop := ks = kvs.map (fun p => tupB p.1) ∧ ∀ p ∈ kvs, ∀ κ ∈ p.1, KeyTx κ
/-- what the frozen part knows of a class of the program: its name in the main text -/
structure ClsK (K : PySem.W.Frag) (n : List Nat) (C : Addr) : Prop where
  at_ : PySem.W.nsIn K mainGlobals (tx n) = some (some (.ref C))
  cl : Cls K C
  ha : PySem.W.findIn K (.ref C) "__class__" = some (some (.builtin "object.__class__"))
  hn : PySem.W.specialIn K (.builtin "object.__class__") "__get__" = some (some (.builtin "getset_descriptor.__get__"))
  htk : PySem.W.takesIn K (.builtin "object.__class__") = some true
  hm : PySem.W.mroIn K C (.type "object") = some true
  is1 : PySem.W.kitOne K (.ref C) (.type "int") = some false
  is2 : PySem.W.kitOne K (.ref C) (.type "bool") = some false
  is3 : PySem.W.kitOne K (.ref C) (.type "str") = some false
  is4 : PySem.W.kitOne K (.ref C) (.type "tuple") = some false
  is5 : PySem.W.kitOne K (.ref C) (.type "list") = some false
  is6 : PySem.W.kitOne K (.ref C) (.type "dict") = some false
mutual
def Rep (K : PySem.W.Frag) (F : Hp) : D → V → Prop
  | .non, v => v = .non
  | .bl b, v => v = .bl b
  | .int i, v => v = .int i
  | .str x, v => v = .str (tx x) ∧ TxOk x
  | .tup ds, v => ∃ a vs, v = .ref a ∧ F a = some (.tup vs) ∧ Reps K F ds vs
  | .lst ds, v => ∃ a vs, v = .ref a ∧ SqL K F a vs ∧ Reps K F ds vs
  | .dct ks ds, v => ∃ a kvs, v = .ref a ∧ Rd F a (.dK kvs) ∧ Reps K F ks (kvs.map fun p => kV p.1) ∧ Reps K F ds (kvs.map (·.2))
  | .dcu ks ds, v => ∃ a kvs, v = .ref a ∧ F a = some (.dT kvs) ∧ TKeys ks kvs ∧ Reps K F ds (kvs.map (·.2))
  | .ins n ks ds, v => ∃ a C dx vs, v = .ref a ∧ ClsK K n C ∧ F a = some (.ins C dx ((ks.map tx).zip vs)) ∧ ks.length = ds.length ∧ Reps K F ds vs
def Reps (K : PySem.W.Frag) (F : Hp) : List D → List V → Prop
  | [], vs => vs = []
  | d :: ds, vs => ∃ v r, vs = v :: r ∧ Rep K F d v ∧ Reps K F ds r
end
theorem Same.rd {F F' : Hp} {a : Addr} {u : HO} (e : Same F F') (h : Rd F a u) : Rd F' a u := by
  rcases h with h | ⟨o, h⟩
  · exact .inl (e _ _ h)
  · exact .inr ⟨o, e _ _ h⟩
theorem Same.sqT {K : PySem.W.Frag} {F F' : Hp} {a : Addr} {xs : List V} (e : Same F F') (h : SqT K F a xs) : SqT K F' a xs := by
  rcases h with h | h
  · exact .inl (Same.rd e h)
  · exact .inr h
mutual
theorem Rep.mono {K : PySem.W.Frag} {F F' : Hp} (e : Same F F') : ∀ (d : D) (v : V), Rep K F d v → Rep K F' d v
  | .non, _, h => h
  | .bl _, _, h => h
  | .int _, _, h => h
  | .str _, _, h => h
  | .tup ds, _, ⟨a, vs, h1, h2, h3⟩ => ⟨a, vs, h1, e _ _ h2, Reps.mono e ds vs h3⟩
  | .lst ds, _, ⟨a, vs, h1, h2, h3⟩ => ⟨a, vs, h1, e.seq h2, Reps.mono e ds vs h3⟩
  | .dct ks ds, _, ⟨a, kvs, h1, h2, h3, h4⟩ => ⟨a, kvs, h1, Same.rd e h2, Reps.mono e ks _ h3, Reps.mono e ds _ h4⟩
  | .dcu ks ds, _, ⟨a, kvs, h1, h2, h3, h4⟩ => ⟨a, kvs, h1, e _ _ h2, h3, Reps.mono e ds _ h4⟩
  | .ins n ks ds, _, ⟨a, C, dx, vs, h1, h2, h3, h4, h5⟩ => ⟨a, C, dx, vs, h1, h2, e _ _ h3, h4, Reps.mono e ds _ h5⟩
theorem Reps.mono {K : PySem.W.Frag} {F F' : Hp} (e : Same F F') : ∀ (ds : List D) (vs : List V), Reps K F ds vs → Reps K F' ds vs
  | [], _, h => h
  | d :: ds, _, ⟨v, r, h1, h2, h3⟩ => ⟨v, r, h1, Rep.mono e d v h2, Reps.mono e ds r h3⟩
end
theorem Reps.length {K : PySem.W.Frag} {F : Hp} : ∀ {ds : List D} {vs : List V}, Reps K F ds vs → vs.length = ds.length
  | [], _, h => by
    have h : _ = [] := h
    subst h; rfl
  | d :: ds, _, ⟨v, r, h1, h2, h3⟩ => by subst h1; simp [Reps.length h3]
theorem Reps.get {K : PySem.W.Frag} {F : Hp} : ∀ {ds : List D} {vs : List V} {i : Nat} {d : D}, Reps K F ds vs → ds[i]? = some d → ∃ v, vs[i]? = some v ∧ Rep K F d v
  | [], _, _, _, h, e => by simp at e
  | d :: ds, _, 0, _, ⟨v, r, h1, h2, h3⟩, e => by
    subst h1
    have e' : d = _ := Option.some.inj (by simpa using e)
    subst e'
    exact ⟨v, rfl, h2⟩
  | d :: ds, _, i + 1, d', ⟨v, r, h1, h2, h3⟩, e => by
    subst h1
    obtain ⟨u, e1, e2⟩ := Reps.get (i := i) (d := d') h3 (by simpa using e)
    exact ⟨u, by simpa using e1, e2⟩
theorem Reps.getV {K : PySem.W.Frag} {F : Hp} {ds : List D} {vs : List V} {i : Nat} {v : V} (h : Reps K F ds vs) (e : vs[i]? = some v) : ∃ d, ds[i]? = some d ∧ Rep K F d v := by
  have hl := h.length
  obtain ⟨hi, _⟩ := List.getElem?_eq_some_iff.mp e
  have hi' : i < ds.length := by omega
  obtain ⟨u, e1, e2⟩ := Reps.get h (List.getElem?_eq_getElem hi')
  rw [e] at e1
  cases e1
  exact ⟨_, List.getElem?_eq_getElem hi', e2⟩
theorem Reps.append {K : PySem.W.Frag} {F : Hp} : ∀ {ds es : List D} {vs us : List V}, Reps K F ds vs → Reps K F es us → Reps K F (ds ++ es) (vs ++ us)
  | [], _, _, _, h, q => by
    have h : _ = [] := h
    subst h; exact q
  | d :: ds, _, _, _, ⟨v, r, h1, h2, h3⟩, q => by
    subst h1
    exact ⟨v, _, rfl, h2, Reps.append h3 q⟩
theorem Reps.take {K : PySem.W.Frag} {F : Hp} : ∀ {ds : List D} {vs : List V} (n : Nat), Reps K F ds vs → Reps K F (ds.take n) (vs.take n)
  | _, _, 0, h => by simp [Reps]
  | [], _, n + 1, h => by
    have h : _ = [] := h
    subst h; simp [Reps]
  | d :: ds, _, n + 1, ⟨v, r, h1, h2, h3⟩ => by
    subst h1
    exact ⟨v, _, rfl, h2, Reps.take n h3⟩
theorem Reps.drop {K : PySem.W.Frag} {F : Hp} : ∀ {ds : List D} {vs : List V} (n : Nat), Reps K F ds vs → Reps K F (ds.drop n) (vs.drop n)
  | _, _, 0, h => h
  | [], _, n + 1, h => by
    have h : _ = [] := h
    subst h; simp [Reps]
  | d :: ds, _, n + 1, ⟨v, r, h1, h2, h3⟩ => by
    subst h1
    exact Reps.drop n h3
theorem Reps.one {K : PySem.W.Frag} {F : Hp} {d : D} {v : V} (h : Rep K F d v) : Reps K F [d] [v] := ⟨v, [], rfl, h, rfl⟩
theorem Reps.one' {K : PySem.W.Frag} {F : Hp} {d : D} {vs : List V} (h : Reps K F [d] vs) : ∃ v, vs = [v] ∧ Rep K F d v := by
  obtain ⟨v, r, h1, h2, h3⟩ := h
  have h3 : r = [] := h3
  subst h3
  exact ⟨v, h1, h2⟩
theorem Reps.two' {K : PySem.W.Frag} {F : Hp} {d e : D} {vs : List V} (h : Reps K F [d, e] vs) : ∃ v u, vs = [v, u] ∧ Rep K F d v ∧ Rep K F e u := by
  obtain ⟨v, r, h1, h2, h3⟩ := h
  obtain ⟨u, e1, e2⟩ := Reps.one' h3
  subst e1
  exact ⟨v, u, h1, h2, e2⟩
/-- an own object's content -/
def MAt (K : PySem.W.Frag) (F : Hp) : M → HO → Prop
  | .lst ds, o => ∃ vs, o = .lst vs ∧ Reps K F ds vs
  | .dct ks ds, o => ∃ kvs, o = .dK kvs ∧ Reps K F ks (kvs.map fun p => kV p.1) ∧ Reps K F ds (kvs.map (·.2))
  | .dcu ks ds, o => ∃ kvs, o = .dT kvs ∧ TKeys ks kvs ∧ Reps K F ds (kvs.map (·.2))
theorem MAt.mono {K : PySem.W.Frag} {F F' : Hp} (e : Same F F') {m : M} {o : HO} (h : MAt K F m o) : MAt K F' m o := by
  cases m with
  | lst ds => obtain ⟨vs, h1, h2⟩ := h; exact ⟨vs, h1, Reps.mono e _ _ h2⟩
  | dct ks ds => obtain ⟨kvs, h1, h2, h3⟩ := h; exact ⟨kvs, h1, Reps.mono e _ _ h2, Reps.mono e _ _ h3⟩
  | dcu ks ds => obtain ⟨kvs, h1, h2, h3⟩ := h; exact ⟨kvs, h1, h2, Reps.mono e _ _ h3⟩
theorem MAt.rep {K : PySem.W.Frag} {F : Hp} {m : M} {o : HO} {a : Addr} (h : MAt K F m o) (ha : F a = some o) : Rep K F m.d (.ref a) := by
  cases m with
  | lst ds => obtain ⟨vs, rfl, h2⟩ := h; exact ⟨a, vs, rfl, SqL.of ha, h2⟩
  | dct ks ds => obtain ⟨kvs, rfl, h2, h3⟩ := h; exact ⟨a, kvs, rfl, .inl ha, h2, h3⟩
  | dcu ks ds => obtain ⟨kvs, rfl, h2, h3⟩ := h; exact ⟨a, kvs, rfl, ha, h2, h3⟩

/-! ## the state -/
/-- the entry: its heap, what was frozen there -/
structure Ent where
  H : Hp
  F : Hp
  R : SD → V → Prop := fun _ _ => False
def BR (E : Ent) : Bx → V → Prop
  | .ad a, v => v = .ref a
  | .sd s, v => E.R s v
/-- a tuple is never written: it may be frozen at any time -/
def tuO : HO → Bool
  | .tup _ => true
  | _ => false
def Fre (H : Hp) (a : Addr) (o : HO) : Prop := H a = none ∨ tuO o = true
structure Own (E : Ent) (F H : Hp) (K : PySem.W.Frag) (a : Addr) (m : M) : Prop where
  f : F a = none
  e : E.H a = none
  here : ∃ o, H a = some o ∧ MAt K F m o
structure Sim (K : PySem.W.Frag) (E : Ent) (F H : Hp) (st : Sts) (σ : L2.St) : Prop where
  sub : Same F H
  ent : Same E.H H
  fe : Same E.F F
  gr : ∀ a o, F a = some o → E.F a = some o ∨ Fre E.H a o
  len : σ.length = st.length
  val : ∀ (i : Nat) (d : D), st[i]? = some (Sl.val d) → ∃ v : V, σ[i]? = some (some v) ∧ Rep K F d v
  own : ∀ (i : Nat) (m : M), st[i]? = some (Sl.own m) → ∃ a : Addr, σ[i]? = some (some (V.ref a)) ∧ Own E F H K a m
  sep : ∀ (i j : Nat) (m m' : M) (a : Addr), i ≠ j → st[i]? = some (Sl.own m) → st[j]? = some (Sl.own m') → σ[i]? = some (some (V.ref a)) → σ[j]? = some (some (V.ref a)) → False
  adr : ∀ (i : Nat) (b : Bx), st[i]? = some (Sl.adr b) → ∃ v : V, σ[i]? = some (some v) ∧ BR E b v
/-- what a value is -/
def VRel (K : PySem.W.Frag) (E : Ent) (F H : Hp) (st : Sts) (σ : L2.St) : Val → V → Prop
  | .fz d, v => Rep K F d v
  | .nw m, v => ∃ p, v = .ref p ∧ Own E F H K p m ∧ ∀ (i : Nat) (m' : M), st[i]? = some (Sl.own m') → σ[i]? ≠ some (some (V.ref p))
  | .pk i m, v => st[i]? = some (Sl.own m) ∧ σ[i]? = some (some v)
/-- an operand: frozen, or an object that lies in the heap -/
def ORel (K : PySem.W.Frag) (F H : Hp) (d : D) (v : V) : Prop := Rep K F d v ∨ ∃ m a o, d = M.d m ∧ v = .ref a ∧ H a = some o ∧ MAt K F m o
theorem ORel.mono {K : PySem.W.Frag} {F F' H H' : Hp} {d : D} {v : V} (e : Same F F') (g : Same H H') (h : ORel K F H d v) : ORel K F' H' d v := by
  rcases h with h | ⟨m, a, o, h1, h2, h3, h4⟩
  · exact .inl (Rep.mono e _ _ h)
  · exact .inr ⟨m, a, o, h1, h2, g _ _ h3, h4.mono e⟩
/-- all of it, in the whole heap -/
theorem ORel.rep {K : PySem.W.Frag} {F H : Hp} {d : D} {v : V} (e : Same F H) (h : ORel K F H d v) : Rep K H d v := by
  rcases h with h | ⟨m, a, o, rfl, rfl, h3, h4⟩
  · exact Rep.mono e _ _ h
  · exact (h4.mono e).rep h3
theorem VRel.o {K : PySem.W.Frag} {E : Ent} {F H : Hp} {st : Sts} {σ : L2.St} {r : Val} {v : V} (S : Sim K E F H st σ) (h : VRel K E F H st σ r v) : ORel K F H r.d v := by
  cases r with
  | fz d => exact .inl h
  | nw m =>
    obtain ⟨p, h1, ow, _⟩ := h
    obtain ⟨o, e1, e2⟩ := ow.here
    exact .inr ⟨m, p, o, rfl, h1, e1, e2⟩
  | pk i m =>
    obtain ⟨h1, h2⟩ := h
    obtain ⟨a, e, ow⟩ := S.own i m h1
    rw [h2] at e
    cases e
    obtain ⟨o, e1, e2⟩ := ow.here
    exact .inr ⟨m, a, o, rfl, rfl, e1, e2⟩
theorem same_upd_of {F H : Hp} {a : Addr} {o : HO} (s : Same F H) (h : H a = some o) : Same F (upd F a o) := fun b u e => by
  by_cases hb : b = a
  · subst hb
    have := s _ _ e
    rw [h] at this
    cases this
    exact upd_same
  · rw [upd_ne hb]; exact e
theorem upd_sub {F H : Hp} {a : Addr} {o : HO} (s : Same F H) (h : H a = some o) : Same (upd F a o) H := fun b u e => by
  by_cases hb : b = a
  · subst hb
    rw [upd_same] at e
    cases e
    exact h
  · rw [upd_ne hb] at e
    exact s _ _ e
theorem same_new {H : Hp} {p : Addr} {o : HO} (h : H p = none) : Same H (upd H p o) := fun b u e => by
  rw [upd_ne (ne_of_none e h)]
  exact e
/-- an object that is no slot's is frozen -/
theorem Sim.freeze {K : PySem.W.Frag} {E : Ent} {F H : Hp} {st : Sts} {σ : L2.St} {a : Addr} {o : HO} (S : Sim K E F H st σ) (h : H a = some o) (hn : E.H a = none) (hs : ∀ (i : Nat) (m : M), st[i]? = some (Sl.own m) → σ[i]? ≠ some (some (V.ref a))) :
    Sim K E (upd F a o) H st σ where
  sub := upd_sub S.sub h
  ent := S.ent
  fe := S.fe.trans (same_upd_of S.sub h)
  gr := fun b u e => by
    by_cases hb : b = a
    · subst hb; exact .inr (.inl hn)
    · rw [upd_ne hb] at e; exact S.gr b u e
  len := S.len
  val := fun i d e => by
    obtain ⟨v, e1, e2⟩ := S.val i d e
    exact ⟨v, e1, Rep.mono (same_upd_of S.sub h) _ _ e2⟩
  own := fun i m e => by
    obtain ⟨b, e1, ow⟩ := S.own i m e
    have hb : b ≠ a := by
      rintro rfl
      exact hs i m e e1
    obtain ⟨u, h1, h2⟩ := ow.here
    exact ⟨b, e1, by rw [upd_ne hb]; exact ow.f, ow.e, u, h1, h2.mono (same_upd_of S.sub h)⟩
  sep := S.sep
  adr := S.adr
/-- a tuple of the heap is frozen -/
theorem Sim.freezeTup {K : PySem.W.Frag} {E : Ent} {F H : Hp} {st : Sts} {σ : L2.St} {a : Addr} {xs : List V} (S : Sim K E F H st σ) (h : H a = some (.tup xs)) : Sim K E (upd F a (.tup xs)) H st σ where
  sub := upd_sub S.sub h
  ent := S.ent
  fe := S.fe.trans (same_upd_of S.sub h)
  gr := fun b u e => by
    by_cases hb : b = a
    · subst hb
      rw [upd_same] at e
      cases e
      exact .inr (.inr rfl)
    · rw [upd_ne hb] at e; exact S.gr b u e
  len := S.len
  val := fun i d e => by
    obtain ⟨v, e1, e2⟩ := S.val i d e
    exact ⟨v, e1, Rep.mono (same_upd_of S.sub h) _ _ e2⟩
  own := fun i m e => by
    obtain ⟨b, e1, ow⟩ := S.own i m e
    obtain ⟨u, h1, h2⟩ := ow.here
    have hb : b ≠ a := by
      rintro rfl
      rw [h] at h1
      cases h1
      cases m with
      | lst ds => obtain ⟨vs, e, _⟩ := h2; cases e
      | dct ks ds => obtain ⟨kvs, e, _⟩ := h2; cases e
      | dcu ks ds => obtain ⟨kvs, e, _⟩ := h2; cases e
    exact ⟨b, e1, by rw [upd_ne hb]; exact ow.f, ow.e, u, h1, h2.mono (same_upd_of S.sub h)⟩
  sep := S.sep
  adr := S.adr
/-- the heap grows by what is new -/
theorem Sim.grow {K : PySem.W.Frag} {E : Ent} {F H H' : Hp} {st : Sts} {σ : L2.St} (S : Sim K E F H st σ) (g : Same H H') : Sim K E F H' st σ where
  sub := S.sub.trans g
  ent := S.ent.trans g
  fe := S.fe
  gr := S.gr
  len := S.len
  val := S.val
  own := fun i m e => by
    obtain ⟨b, e1, ow⟩ := S.own i m e
    obtain ⟨u, h1, h2⟩ := ow.here
    exact ⟨b, e1, ow.f, ow.e, u, g _ _ h1, h2⟩
  sep := S.sep
  adr := S.adr
theorem Sim.new {K : PySem.W.Frag} {E : Ent} {F H : Hp} {st : Sts} {σ : L2.St} {p : Addr} {o : HO} (S : Sim K E F H st σ) (h : H p = none) : Sim K E (upd F p o) (upd H p o) st σ := by
  refine (S.grow (same_new h)).freeze upd_same (S.ent.free h) fun i m e q => ?_
  obtain ⟨b, e1, ow⟩ := S.own i m e
  rw [q] at e1
  cases e1
  obtain ⟨u, h1, _⟩ := ow.here
  rw [h] at h1
  cases h1
theorem Sim.notOwn {K : PySem.W.Frag} {E : Ent} {F H : Hp} {st : Sts} {σ : L2.St} {p : Addr} (S : Sim K E F H st σ) (h : H p = none) : ∀ (i : Nat) (m : M), st[i]? = some (Sl.own m) → σ[i]? ≠ some (some (V.ref p)) := fun i m e q => by
  obtain ⟨b, e1, ow⟩ := S.own i m e
  rw [q] at e1
  cases e1
  obtain ⟨u, h1, _⟩ := ow.here
  rw [h] at h1
  cases h1
theorem Sim.notOwnF {K : PySem.W.Frag} {E : Ent} {F H : Hp} {st : Sts} {σ : L2.St} {p : Addr} {o : HO} (S : Sim K E F H st σ) (h : F p = some o) : ∀ (i : Nat) (m : M), st[i]? = some (Sl.own m) → σ[i]? ≠ some (some (V.ref p)) := fun i m e q => by
  obtain ⟨b, e1, ow⟩ := S.own i m e
  rw [q] at e1
  cases e1
  rw [ow.f] at h
  cases h

/-! ## the readings of values -/
abbrev Wx := Nat → L2.St → Hp → Prop
section
variable (K : PySem.W.Frag) (W : Wx) (E : Ent) (F H : Hp) (σ : L2.St)
/-- what is wanted of an expression's end -/
def EndE (res : R (Val × Sts)) (Q : VK) : Prop := match res with
  | .ok (r, st) => ∀ v F' H', Same F F' → Same H H' → Sim K E F' H' st σ → VRel K E F' H' st σ r v → Q v H'
  | .exc c st => ∀ F' H', Same F F' → Same H H' → Sim K E F' H' st σ → W c σ H'
  | .no => False
def EndT (res : R (Bool × Sts)) (Q : Bool → Hp → Prop) : Prop := match res with
  | .ok (r, st) => ∀ F' H', Same F F' → Same H H' → Sim K E F' H' st σ → Q r H'
  | .exc c st => ∀ F' H', Same F F' → Same H H' → Sim K E F' H' st σ → W c σ H'
  | .no => False
/-- an argument -/
def ARel (F H : Hp) : Val → V → Prop
  | .fz d, v => Rep K F d v
  | .nw m, v => ∃ a o, v = .ref a ∧ H a = some o ∧ MAt K F m o
  | .pk _ m, v => ∃ a o, v = .ref a ∧ H a = some o ∧ MAt K F m o
def ARels (F H : Hp) : List Val → List V → Prop
  | [], vs => vs = []
  | r :: rs, vs => ∃ v us, vs = v :: us ∧ ARel K F H r v ∧ ARels F H rs us
def EndA (res : R (List Val × Sts)) (Q : List V → Hp → Prop) : Prop := match res with
  | .ok (rs, st) => ∀ vs F' H', Same F F' → Same H H' → Sim K E F' H' st σ → ARels K F' H' rs vs → Q vs H'
  | .exc c st => ∀ F' H', Same F F' → Same H H' → Sim K E F' H' st σ → W c σ H'
  | .no => False
def EndS (res : R Flow) (D : Ends) : Prop := match res with
  | .ok (.nx st) => ∀ σ' F' H', Same F F' → Sim K E F' H' st σ' → D.nx σ' H'
  | .ok (.bk st) => ∀ σ' F' H', Same F F' → Sim K E F' H' st σ' → D.bk σ' H'
  | .ok (.ct st) => ∀ σ' F' H', Same F F' → Sim K E F' H' st σ' → D.ct σ' H'
  | .ok (.rt r) => ∀ v st σ' F' H', Same F F' → Sim K E F' H' st σ' → VRel K E F' H' st σ' r v → D.rt v H'
  | .exc c st => ∀ σ' F' H', Same F F' → Sim K E F' H' st σ' → W c σ' H'
  | .no => False
end
def up (K : PySem.W.Frag) (W : Wx) (f : VE) : TE := fun σ H Q => ∃ E F st, Sim K E F H st σ ∧ EndE K W E F H σ (f st) Q
def upT (K : PySem.W.Frag) (W : Wx) (f : VT) : TT := fun σ H Q => ∃ E F st, Sim K E F H st σ ∧ EndT K W E F H σ (f st) Q
def upA (K : PySem.W.Frag) (W : Wx) (f : VA) : TA := fun σ H Q => ∃ E F st, Sim K E F H st σ ∧ EndA K W E F H σ (f st) Q
def upS (K : PySem.W.Frag) (W : Wx) (f : VS) : TS := fun D σ H => ∃ E F st, Sim K E F H st σ ∧ EndS K W E F (f st) D
section
variable {K : PySem.W.Frag} {W : Wx} {E : Ent} {F H F' H' : Hp} {σ : L2.St}
theorem ARel.mono (e : Same F F') (g : Same H H') : ∀ {r : Val} {v : V}, ARel K F H r v → ARel K F' H' r v
  | .fz d, _, h => Rep.mono e _ _ h
  | .nw m, _, ⟨a, o, h1, h2, h3⟩ => ⟨a, o, h1, g _ _ h2, h3.mono e⟩
  | .pk _ m, _, ⟨a, o, h1, h2, h3⟩ => ⟨a, o, h1, g _ _ h2, h3.mono e⟩
theorem ARels.mono (e : Same F F') (g : Same H H') : ∀ {rs : List Val} {vs : List V}, ARels K F H rs vs → ARels K F' H' rs vs
  | [], _, h => h
  | _ :: _, _, ⟨v, us, h1, h2, h3⟩ => ⟨v, us, h1, h2.mono e g, ARels.mono e g h3⟩
theorem ARel.o : ∀ {r : Val} {v : V}, ARel K F H r v → ORel K F H r.d v
  | .fz d, _, h => .inl h
  | .nw m, _, ⟨a, o, h1, h2, h3⟩ => .inr ⟨m, a, o, rfl, h1, h2, h3⟩
  | .pk _ m, _, ⟨a, o, h1, h2, h3⟩ => .inr ⟨m, a, o, rfl, h1, h2, h3⟩
theorem VRel.a {st : Sts} {r : Val} {v : V} (S : Sim K E F H st σ) (h : VRel K E F H st σ r v) : ARel K F H r v := by
  cases r with
  | fz d => exact h
  | nw m =>
    obtain ⟨p, h1, ow, _⟩ := h
    obtain ⟨o, e1, e2⟩ := ow.here
    exact ⟨p, o, h1, e1, e2⟩
  | pk i m =>
    obtain ⟨h1, h2⟩ := h
    obtain ⟨a, e, ow⟩ := S.own i m h1
    rw [h2] at e
    cases e
    obtain ⟨o, e1, e2⟩ := ow.here
    exact ⟨a, o, rfl, e1, e2⟩
theorem EndE.mono {res : R (Val × Sts)} {Q : VK} (e : Same F F') (g : Same H H') (h : EndE K W E F H σ res Q) : EndE K W E F' H' σ res Q := by
  cases res with
  | ok p => exact fun v F2 H2 a b => h v F2 H2 (e.trans a) (g.trans b)
  | exc c st => exact fun F2 H2 a b => h F2 H2 (e.trans a) (g.trans b)
  | no => exact h
theorem EndT.mono {res : R (Bool × Sts)} {Q : Bool → Hp → Prop} (e : Same F F') (g : Same H H') (h : EndT K W E F H σ res Q) : EndT K W E F' H' σ res Q := by
  cases res with
  | ok p => exact fun F2 H2 a b => h F2 H2 (e.trans a) (g.trans b)
  | exc c st => exact fun F2 H2 a b => h F2 H2 (e.trans a) (g.trans b)
  | no => exact h
theorem EndA.mono {res : R (List Val × Sts)} {Q : List V → Hp → Prop} (e : Same F F') (g : Same H H') (h : EndA K W E F H σ res Q) : EndA K W E F' H' σ res Q := by
  cases res with
  | ok p => exact fun v F2 H2 a b => h v F2 H2 (e.trans a) (g.trans b)
  | exc c st => exact fun F2 H2 a b => h F2 H2 (e.trans a) (g.trans b)
  | no => exact h
theorem EndS.mono {res : R Flow} {D : Ends} (e : Same F F') (h : EndS K W E F res D) : EndS K W E F' res D := by
  cases res with
  | ok fl =>
    cases fl with
    | nx st => exact fun σ2 F2 H2 a => h σ2 F2 H2 (e.trans a)
    | bk st => exact fun σ2 F2 H2 a => h σ2 F2 H2 (e.trans a)
    | ct st => exact fun σ2 F2 H2 a => h σ2 F2 H2 (e.trans a)
    | rt r => exact fun v st σ2 F2 H2 a => h v st σ2 F2 H2 (e.trans a)
  | exc c st => exact fun σ2 F2 H2 a => h σ2 F2 H2 (e.trans a)
  | no => exact h
/-- an expression, then the rest -/
theorem upE_bind {f : VE} {st : Sts} {P : VK} (S : Sim K E F H st σ) (hx : ∀ c st', f st = .exc c st' → ∀ F' H', Same F F' → Same H H' → Sim K E F' H' st' σ → W c σ H') (hn : f st ≠ .no)
    (h : ∀ r st1 v F1 H1, f st = .ok (r, st1) → Same F F1 → Same H H1 → Sim K E F1 H1 st1 σ → VRel K E F1 H1 st1 σ r v → P v H1) : up K W f σ H P := by
  refine ⟨E, F, st, S, ?_⟩
  cases e : f st with
  | ok p => exact fun v F1 H1 a b S1 vr => h _ _ v F1 H1 e a b S1 vr
  | exc c st' => exact hx c st' e
  | no => exact hn e
theorem seqE {f : VE} {st : Sts} {k : Val × Sts → R (Val × Sts)} {Q P : VK} (S : Sim K E F H st σ) (h : EndE K W E F H σ ((f st).bind k) Q)
    (hk : ∀ r st1 v F1 H1, Same F F1 → Same H H1 → Sim K E F1 H1 st1 σ → VRel K E F1 H1 st1 σ r v → EndE K W E F1 H1 σ (k (r, st1)) Q → P v H1) : up K W f σ H P := by
  refine upE_bind S (fun c st' e => ?_) (fun e => ?_) fun r st1 v F1 H1 e a b S1 vr => ?_
  · rw [e] at h; exact h
  · rw [e] at h; exact h
  · rw [e] at h; exact hk r st1 v F1 H1 a b S1 vr (EndE.mono a b h)
theorem seqT {f : VE} {st : Sts} {k : Val × Sts → R (Bool × Sts)} {Q : Bool → Hp → Prop} {P : VK} (S : Sim K E F H st σ) (h : EndT K W E F H σ ((f st).bind k) Q)
    (hk : ∀ r st1 v F1 H1, Same F F1 → Same H H1 → Sim K E F1 H1 st1 σ → VRel K E F1 H1 st1 σ r v → EndT K W E F1 H1 σ (k (r, st1)) Q → P v H1) : up K W f σ H P := by
  refine upE_bind S (fun c st' e => ?_) (fun e => ?_) fun r st1 v F1 H1 e a b S1 vr => ?_
  · rw [e] at h; exact h
  · rw [e] at h; exact h
  · rw [e] at h; exact hk r st1 v F1 H1 a b S1 vr (EndT.mono a b h)
theorem seqA {f : VE} {st : Sts} {k : Val × Sts → R (List Val × Sts)} {Q : List V → Hp → Prop} {P : VK} (S : Sim K E F H st σ) (h : EndA K W E F H σ ((f st).bind k) Q)
    (hk : ∀ r st1 v F1 H1, Same F F1 → Same H H1 → Sim K E F1 H1 st1 σ → VRel K E F1 H1 st1 σ r v → EndA K W E F1 H1 σ (k (r, st1)) Q → P v H1) : up K W f σ H P := by
  refine upE_bind S (fun c st' e => ?_) (fun e => ?_) fun r st1 v F1 H1 e a b S1 vr => ?_
  · rw [e] at h; exact h
  · rw [e] at h; exact h
  · rw [e] at h; exact hk r st1 v F1 H1 a b S1 vr (EndA.mono a b h)
theorem seqS {f : VE} {st : Sts} {k : Val × Sts → R Flow} {D : Ends} {P : VK} (S : Sim K E F H st σ) (h : EndS K W E F ((f st).bind k) D)
    (hk : ∀ r st1 v F1 H1, Same F F1 → Same H H1 → Sim K E F1 H1 st1 σ → VRel K E F1 H1 st1 σ r v → EndS K W E F1 (k (r, st1)) D → P v H1) : up K W f σ H P := by
  refine upE_bind S (fun c st' e => ?_) (fun e => ?_) fun r st1 v F1 H1 e a b S1 vr => ?_
  · rw [e] at h; exact fun F' H' a _ => h σ F' H' a
  · rw [e] at h; exact h
  · rw [e] at h; exact hk r st1 v F1 H1 a b S1 vr (EndS.mono a h)
/-- a test, then the rest -/
theorem upT_bind {f : VT} {st : Sts} {P : Bool → Hp → Prop} (S : Sim K E F H st σ) (hx : ∀ c st', f st = .exc c st' → ∀ F' H', Same F F' → Same H H' → Sim K E F' H' st' σ → W c σ H') (hn : f st ≠ .no)
    (h : ∀ r st1 F1 H1, f st = .ok (r, st1) → Same F F1 → Same H H1 → Sim K E F1 H1 st1 σ → P r H1) : upT K W f σ H P := by
  refine ⟨E, F, st, S, ?_⟩
  cases e : f st with
  | ok p => exact fun F1 H1 a b S1 => h _ _ F1 H1 e a b S1
  | exc c st' => exact hx c st' e
  | no => exact hn e
theorem tseqE {f : VT} {st : Sts} {k : Bool × Sts → R (Val × Sts)} {Q : VK} {P : Bool → Hp → Prop} (S : Sim K E F H st σ) (h : EndE K W E F H σ ((f st).bind k) Q)
    (hk : ∀ r st1 F1 H1, Same F F1 → Same H H1 → Sim K E F1 H1 st1 σ → EndE K W E F1 H1 σ (k (r, st1)) Q → P r H1) : upT K W f σ H P := by
  refine upT_bind S (fun c st' e => ?_) (fun e => ?_) fun r st1 F1 H1 e a b S1 => ?_
  · rw [e] at h; exact h
  · rw [e] at h; exact h
  · rw [e] at h; exact hk r st1 F1 H1 a b S1 (EndE.mono a b h)
theorem tseqT {f : VT} {st : Sts} {k : Bool × Sts → R (Bool × Sts)} {Q : Bool → Hp → Prop} {P : Bool → Hp → Prop} (S : Sim K E F H st σ) (h : EndT K W E F H σ ((f st).bind k) Q)
    (hk : ∀ r st1 F1 H1, Same F F1 → Same H H1 → Sim K E F1 H1 st1 σ → EndT K W E F1 H1 σ (k (r, st1)) Q → P r H1) : upT K W f σ H P := by
  refine upT_bind S (fun c st' e => ?_) (fun e => ?_) fun r st1 F1 H1 e a b S1 => ?_
  · rw [e] at h; exact h
  · rw [e] at h; exact h
  · rw [e] at h; exact hk r st1 F1 H1 a b S1 (EndT.mono a b h)
theorem tseqS {f : VT} {st : Sts} {k : Bool × Sts → R Flow} {D : Ends} {P : Bool → Hp → Prop} (S : Sim K E F H st σ) (h : EndS K W E F ((f st).bind k) D)
    (hk : ∀ r st1 F1 H1, Same F F1 → Same H H1 → Sim K E F1 H1 st1 σ → EndS K W E F1 (k (r, st1)) D → P r H1) : upT K W f σ H P := by
  refine upT_bind S (fun c st' e => ?_) (fun e => ?_) fun r st1 F1 H1 e a b S1 => ?_
  · rw [e] at h; exact fun F' H' a _ => h σ F' H' a
  · rw [e] at h; exact h
  · rw [e] at h; exact hk r st1 F1 H1 a b S1 (EndS.mono a h)
/-- arguments, then the rest -/
theorem aseqE {f : VA} {st : Sts} {k : List Val × Sts → R (Val × Sts)} {Q : VK} {P : List V → Hp → Prop} (S : Sim K E F H st σ) (h : EndE K W E F H σ ((f st).bind k) Q)
    (hk : ∀ rs st1 vs F1 H1, Same F F1 → Same H H1 → Sim K E F1 H1 st1 σ → ARels K F1 H1 rs vs → EndE K W E F1 H1 σ (k (rs, st1)) Q → P vs H1) : upA K W f σ H P := by
  refine ⟨E, F, st, S, ?_⟩
  cases e : f st with
  | ok p => rw [e] at h; exact fun vs F1 H1 a b S1 vr => hk _ _ vs F1 H1 a b S1 vr (EndE.mono a b h)
  | exc c st' => rw [e] at h; exact h
  | no => rw [e] at h; exact h
theorem aseqA {f : VA} {st : Sts} {k : List Val × Sts → R (List Val × Sts)} {Q : List V → Hp → Prop} {P : List V → Hp → Prop} (S : Sim K E F H st σ) (h : EndA K W E F H σ ((f st).bind k) Q)
    (hk : ∀ rs st1 vs F1 H1, Same F F1 → Same H H1 → Sim K E F1 H1 st1 σ → ARels K F1 H1 rs vs → EndA K W E F1 H1 σ (k (rs, st1)) Q → P vs H1) : upA K W f σ H P := by
  refine ⟨E, F, st, S, ?_⟩
  cases e : f st with
  | ok p => rw [e] at h; exact fun vs F1 H1 a b S1 vr => hk _ _ vs F1 H1 a b S1 vr (EndA.mono a b h)
  | exc c st' => rw [e] at h; exact h
  | no => rw [e] at h; exact h
theorem aseqS {f : VA} {st : Sts} {k : List Val × Sts → R Flow} {D : Ends} {P : List V → Hp → Prop} (S : Sim K E F H st σ) (h : EndS K W E F ((f st).bind k) D)
    (hk : ∀ rs st1 vs F1 H1, Same F F1 → Same H H1 → Sim K E F1 H1 st1 σ → ARels K F1 H1 rs vs → EndS K W E F1 (k (rs, st1)) D → P vs H1) : upA K W f σ H P := by
  refine ⟨E, F, st, S, ?_⟩
  cases e : f st with
  | ok p => rw [e] at h; exact fun vs F1 H1 a b S1 vr => hk _ _ vs F1 H1 a b S1 vr (EndS.mono a h)
  | exc c st' => rw [e] at h; exact fun F' H' a _ => h σ F' H' a
  | no => rw [e] at h; exact h
end
/-- weaker readings -/
theorem PE.imp {X : Cx} {e : Expr} {t t' : TE} (h : PE X e t) (k : ∀ σ H Q, t' σ H Q → t σ H Q) : PE X e t' := ⟨fun pins s σ H Q I q => h.run pins s σ H Q I (k _ _ _ q)⟩
theorem PT.imp {X : Cx} {e : Expr} {t t' : TT} (h : PT X e t) (k : ∀ σ H Q, t' σ H Q → t σ H Q) : PT X e t' := ⟨fun pins s σ H Q I q => h.run pins s σ H Q I (k _ _ _ q)⟩
theorem PA.imp {X : Cx} {e : List Expr} {t t' : TA} (h : PA X e t) (k : ∀ σ H Q, t' σ H Q → t σ H Q) : PA X e t' := ⟨fun pos pins s σ H Q I q => h.run pos pins s σ H Q I (k _ _ _ q)⟩
theorem PS.imp {X : Cx} {e : Stmt} {t t' : TS} (h : PS X e t) (k : ∀ D σ H, t' D σ H → t D σ H) : PS X e t' := ⟨fun pins s σ H Q I q => h.run pins s σ H Q I (k _ _ _ q)⟩
theorem PSs.imp {X : Cx} {e : List Stmt} {t t' : TS} (h : PSs X e t) (k : ∀ D σ H, t' D σ H → t D σ H) : PSs X e t' := ⟨fun pins s σ H Q I q => h.run pins s σ H Q I (k _ _ _ q)⟩
end Vl
namespace Vl
open PySem PySem.Spec PyProof.Rows L2
abbrev DE (X : Cx) (W : Wx) (e : Expr) (f : VE) : Prop := PE X e (up X.K W f)
abbrev DT (X : Cx) (W : Wx) (e : Expr) (f : VT) : Prop := PT X e (upT X.K W f)
abbrev DA (X : Cx) (W : Wx) (es : List Expr) (f : VA) : Prop := PA X es (upA X.K W f)
abbrev DS (X : Cx) (W : Wx) (s : Stmt) (f : VS) : Prop := PS X s (upS X.K W f)
abbrev DSs (X : Cx) (W : Wx) (s : List Stmt) (f : VS) : Prop := PSs X s (upS X.K W f)

/-! ## names, constants -/
def vName (i : Nat) : VE := fun st => match st[i]? with
  | some (.val d) => .ok (.fz d, st)
  | some (.own m) => .ok (.fz m.d, st.set i (.val m.d))
  | _ => .no
def vPeek (i : Nat) : VE := fun st => match st[i]? with
  | some (.val d) => .ok (.fz d, st)
  | some (.own m) => .ok (.pk i m, st)
  | _ => .no
def vC (d : D) : VE := fun st => .ok (.fz d, st)
section
variable {K : PySem.W.Frag} {W : Wx} {E : Ent} {F H F' H' : Hp} {st : Sts} {σ : L2.St}
theorem Sim.same (S : Sim K E F H st σ) : Same F H := S.sub
theorem Sim.freezeSlot {i : Nat} {m : M} {a : Addr} {o : HO} (S : Sim K E F H st σ) (e : st[i]? = some (Sl.own m)) (ea : σ[i]? = some (some (V.ref a))) (eo : H a = some o) (em : MAt K F m o) :
    Sim K E (upd F a o) H (st.set i (.val m.d)) σ where
  sub := upd_sub S.sub eo
  ent := S.ent
  fe := S.fe.trans (same_upd_of S.sub eo)
  gr := fun b u q => by
    by_cases hb : b = a
    · subst hb
      obtain ⟨a', e1, ow⟩ := S.own i m e
      rw [ea] at e1; cases e1
      exact .inr (.inl ow.e)
    · rw [upd_ne hb] at q; exact S.gr b u q
  len := by rw [List.length_set]; exact S.len
  val := fun j d q => by
    by_cases hj : j = i
    · subst hj
      have hl : j < st.length := (List.getElem?_eq_some_iff.mp e).1
      rw [List.getElem?_set_self hl] at q
      cases q
      exact ⟨_, ea, (em.mono (same_upd_of S.sub eo)).rep upd_same⟩
    · rw [List.getElem?_set_ne (Ne.symm hj)] at q
      obtain ⟨v, e1, e2⟩ := S.val j d q
      exact ⟨v, e1, Rep.mono (same_upd_of S.sub eo) _ _ e2⟩
  own := fun j m' q => by
    by_cases hj : j = i
    · subst hj
      have hl : j < st.length := (List.getElem?_eq_some_iff.mp e).1
      rw [List.getElem?_set_self hl] at q
      cases q
    · rw [List.getElem?_set_ne (Ne.symm hj)] at q
      obtain ⟨b, e1, ow⟩ := S.own j m' q
      have hb : b ≠ a := by
        rintro rfl
        exact S.sep j i m' m b hj q e e1 ea
      obtain ⟨u, h1, h2⟩ := ow.here
      exact ⟨b, e1, by rw [upd_ne hb]; exact ow.f, ow.e, u, h1, h2.mono (same_upd_of S.sub eo)⟩
  sep := fun j k m1 m2 b hjk q1 q2 => by
    have get : ∀ (l : Nat) (mm : M), (st.set i (.val m.d))[l]? = some (Sl.own mm) → st[l]? = some (Sl.own mm) := fun l mm q => by
      by_cases hl : l = i
      · subst hl
        have hl : l < st.length := (List.getElem?_eq_some_iff.mp e).1
        rw [List.getElem?_set_self hl] at q
        cases q
      · rw [List.getElem?_set_ne (Ne.symm hl)] at q; exact q
    exact S.sep j k m1 m2 b hjk (get j m1 q1) (get k m2 q2)
  adr := fun j b q => by
    by_cases hj : j = i
    · subst hj
      have hl : j < st.length := (List.getElem?_eq_some_iff.mp e).1
      rw [List.getElem?_set_self hl] at q
      cases q
    · rw [List.getElem?_set_ne (Ne.symm hj)] at q
      exact S.adr j b q
theorem same_freeze {a : Addr} {o : HO} (S : Sim K E F H st σ) (eo : H a = some o) : Same F (upd F a o) := same_upd_of S.sub eo
end
section
variable {X : Cx} {W : Wx} {pos : Pos}
theorem de_name {i : Nat} {e : Expr} (h : PE X e (tVar i)) : DE X W e (vName i) := by
  refine PE.imp h fun σ H Q ⟨E, F, st, S, q⟩ => ?_
  unfold vName at q
  cases e : st[i]? with
  | none => rw [e] at q; exact q.elim
  | some s =>
    rw [e] at q
    cases s with
    | no => exact q.elim
    | val d =>
      obtain ⟨v, e1, r⟩ := S.val i d e
      exact ⟨v, e1, q v F H (Same.refl _) (Same.refl _) S r⟩
    | adr a => exact q.elim
    | own m =>
      obtain ⟨a, e1, ow⟩ := S.own i m e
      obtain ⟨o, eo, em⟩ := ow.here
      exact ⟨_, e1, q _ _ H (same_freeze S eo) (Same.refl _) (S.freezeSlot e e1 eo em) ((em.mono (same_freeze S eo)).rep upd_same)⟩
theorem de_peek {i : Nat} {e : Expr} (h : PE X e (tVar i)) : DE X W e (vPeek i) := by
  refine PE.imp h fun σ H Q ⟨E, F, st, S, q⟩ => ?_
  unfold vPeek at q
  cases e : st[i]? with
  | none => rw [e] at q; exact q.elim
  | some s =>
    rw [e] at q
    cases s with
    | no => exact q.elim
    | val d =>
      obtain ⟨v, e1, r⟩ := S.val i d e
      exact ⟨v, e1, q v F H (Same.refl _) (Same.refl _) S r⟩
    | adr a => exact q.elim
    | own m =>
      obtain ⟨a, e1, ow⟩ := S.own i m e
      exact ⟨_, e1, q _ F H (Same.refl _) (Same.refl _) S ⟨e, e1⟩⟩
theorem de_const {d : D} {v : V} {e : Expr} (h : PE X e (tC v)) (r : ∀ F, Rep X.K F d v) : DE X W e (vC d) := by
  refine PE.imp h fun σ H Q ⟨E, F, st, S, q⟩ => q v F H (Same.refl _) (Same.refl _) S (r F)
theorem de_int {i : Int} {j : Nat} : DE X W (.Constant (.int i) j pos) (vC (.int i)) := de_const pe_int fun _ => rfl
theorem de_bl {b : Bool} {j : Nat} : DE X W (.Constant (.bool b) j pos) (vC (.bl b)) := de_const pe_bl fun _ => rfl
theorem de_non {j : Nat} : DE X W (.Constant .none j pos) (vC .non) := de_const pe_non fun _ => rfl
theorem de_str {x : Str} {l : List Nat} {j : Nat} (h : x.cps.toList = l := by rfl) (hz : TxOk l := by exact ⟨by decide, by decide⟩) : DE X W (.Constant (.str x) j pos) (vC (.str l)) := de_const pe_str fun _ => by
  subst h
  exact ⟨by cases x; rfl, hz⟩

/-! ## settling, arguments -/
/-- a new object is frozen -/
def vSto (f : VE) : VE := fun st => (f st).bind fun p => match p with
  | (.fz d, st') => .ok (.fz d, st')
  | (.nw m, st') => .ok (.fz m.d, st')
  | (.pk _ _, _) => .no
/-- .. a borrowed one stays -/
def vArg (f : VE) : VE := fun st => (f st).bind fun p => match p with
  | (.fz d, st') => .ok (.fz d, st')
  | (.nw m, st') => .ok (.fz m.d, st')
  | (.pk i m, st') => .ok (.pk i m, st')
theorem settle {K : PySem.W.Frag} {E : Ent} {F H : Hp} {st : Sts} {σ : L2.St} {m : M} {v : V} (S : Sim K E F H st σ) (h : VRel K E F H st σ (.nw m) v) :
    ∃ F', Same F F' ∧ Sim K E F' H st σ ∧ Rep K F' m.d v := by
  obtain ⟨p, rfl, ow, hn⟩ := h
  obtain ⟨o, eo, em⟩ := ow.here
  exact ⟨upd F p o, same_upd_of S.sub eo, S.freeze eo ow.e hn, (em.mono (same_upd_of S.sub eo)).rep upd_same⟩
theorem de_sto {e : Expr} {f : VE} (h : DE X W e f) : DE X W e (vSto f) := by
  refine PE.imp h fun σ H Q ⟨E, F, st, S, q⟩ => ?_
  refine seqE S q fun r st1 v F1 H1 a b S1 vr k => ?_
  cases r with
  | fz d => exact k v F1 H1 (Same.refl _) (Same.refl _) S1 vr
  | nw m =>
    obtain ⟨F2, sF, S2, rp⟩ := settle S1 vr
    exact k v F2 H1 sF (Same.refl _) S2 rp
  | pk i m => exact k.elim
theorem de_arg {e : Expr} {f : VE} (h : DE X W e f) : DE X W e (vArg f) := by
  refine PE.imp h fun σ H Q ⟨E, F, st, S, q⟩ => ?_
  refine seqE S q fun r st1 v F1 H1 a b S1 vr k => ?_
  cases r with
  | fz d => exact k v F1 H1 (Same.refl _) (Same.refl _) S1 vr
  | nw m =>
    obtain ⟨F2, sF, S2, rp⟩ := settle S1 vr
    exact k v F2 H1 sF (Same.refl _) S2 rp
  | pk i m => exact k v F1 H1 (Same.refl _) (Same.refl _) S1 vr
def vNil : VA := fun st => .ok ([], st)
def vCons (f : VE) (g : VA) : VA := fun st => (f st).bind fun p => (g p.2).bind fun q => .ok (p.1 :: q.1, q.2)
theorem da_nil : DA X W [] vNil := PA.imp pa_nil fun σ H Q ⟨E, F, st, S, q⟩ => q [] F H (Same.refl _) (Same.refl _) S rfl
theorem da_cons {e : Expr} {es : List Expr} {f : VE} {g : VA} (he : DE X W e f) (hs : DA X W es g) (hst : starEach (e :: es) X.env = (false, eval e X.env) :: starEach es X.env := by rfl) : DA X W (e :: es) (vCons f g) := by
  refine PA.imp (pa_cons he hs hst) fun σ H Q ⟨E, F, st, S, q⟩ => ?_
  refine seqA S q fun r st1 v F1 H1 a b S1 vr k => ?_
  refine aseqA S1 k fun rs st2 vs F2 H2 a2 b2 S2 ar k2 => ?_
  exact k2 (v :: vs) F2 H2 (Same.refl _) (Same.refl _) S2 ⟨v, vs, rfl, (VRel.a S1 vr).mono a2 b2, ar⟩
end

/-! ## operations on operands -/
/-- what an operation gives -/
def Post (K : PySem.W.Frag) (E : Ent) (F H : Hp) (st : Sts) (σ : L2.St) (res : Val) (Q : VK) : Prop := ∀ v F' H', Same F F' → Same H H' → Sim K E F' H' st σ → VRel K E F' H' st σ res v → Q v H'
/-- a two-place reading does an operation on data -/
def Op2 (K : PySem.W.Frag) (r : R2) (o : D → D → Option Val) : Prop := ∀ (E : Ent) (F H : Hp) (st : Sts) (σ : L2.St) (dx dy : D) (x y : V) (res : Val) (Q : VK), Sim K E F H st σ → ORel K F H dx x → ORel K F H dy y → o dx dy = some res → Post K E F H st σ res Q → r x y H Q
def Op1 (K : PySem.W.Frag) (r : V → Hp → VK → Prop) (o : D → Option Val) : Prop := ∀ (E : Ent) (F H : Hp) (st : Sts) (σ : L2.St) (dx : D) (x : V) (res : Val) (Q : VK), Sim K E F H st σ → ORel K F H dx x → o dx = some res → Post K E F H st σ res Q → r x H Q
def ORels (K : PySem.W.Frag) (F H : Hp) : List D → List V → Prop
  | [], vs => vs = []
  | d :: ds, vs => ∃ v us, vs = v :: us ∧ ORel K F H d v ∧ ORels K F H ds us
theorem ARels.o {K : PySem.W.Frag} {F H : Hp} : ∀ {rs : List Val} {vs : List V}, ARels K F H rs vs → ORels K F H (rs.map Val.d) vs
  | [], _, h => h
  | _ :: _, _, ⟨v, us, h1, h2, h3⟩ => ⟨v, us, h1, h2.o, ARels.o h3⟩
def OpN (K : PySem.W.Frag) (r : List V → Hp → VK → Prop) (o : List D → Option Val) : Prop := ∀ (E : Ent) (F H : Hp) (st : Sts) (σ : L2.St) (ds : List D) (xs : List V) (res : Val) (Q : VK), Sim K E F H st σ → ORels K F H ds xs → o ds = some res → Post K E F H st σ res Q → r xs H Q
def give (o : Option Val) (st : Sts) : R (Val × Sts) := match o with
  | some r => .ok (r, st)
  | none => .no
@[simp] theorem give_some (r : Val) (st : Sts) : give (some r) st = .ok (r, st) := byDef rfl
@[simp] theorem give_none (st : Sts) : give none st = .no := byDef rfl
def v2 (o : D → D → Option Val) (f g : VE) : VE := fun st => (f st).bind fun p => (g p.2).bind fun q => give (o p.1.d q.1.d) q.2
def v1 (o : D → Option Val) (f : VE) : VE := fun st => (f st).bind fun p => give (o p.1.d) p.2
def vN (o : List D → Option Val) (f : VA) : VE := fun st => (f st).bind fun p => give (o (p.1.map Val.d)) p.2
section
variable {X : Cx} {W : Wx} {pos : Pos}
theorem up_v2 {K : PySem.W.Frag} {r : R2} {o : D → D → Option Val} {f g : VE} (hr : Op2 K r o) : ∀ σ H Q, up K W (v2 o f g) σ H Q → tOp r (up K W f) (up K W g) σ H Q := fun σ H Q ⟨E, F, st, S, q⟩ => by
  refine seqE S q fun r1 st1 v F1 H1 a b S1 vr k => ?_
  refine seqE S1 k fun r2 st2 u F2 H2 a2 b2 S2 vr2 k2 => ?_
  cases e : o r1.d r2.d with
  | none => rw [e] at k2; exact k2.elim
  | some res => rw [e] at k2; exact hr E F2 H2 st2 σ _ _ v u res Q S2 (ORel.mono a2 b2 (VRel.o S1 vr)) (VRel.o S2 vr2) e k2
theorem up_v1 {K : PySem.W.Frag} {r : V → Hp → VK → Prop} {o : D → Option Val} {f : VE} (hr : Op1 K r o) : ∀ σ H Q, up K W (v1 o f) σ H Q → tUn r (up K W f) σ H Q := fun σ H Q ⟨E, F, st, S, q⟩ => by
  refine seqE S q fun r1 st1 v F1 H1 a b S1 vr k => ?_
  cases e : o r1.d with
  | none => rw [e] at k; exact k.elim
  | some res => rw [e] at k; exact hr E F1 H1 st1 σ _ v res Q S1 (VRel.o S1 vr) e k
theorem up_vN {K : PySem.W.Frag} {r : List V → Hp → VK → Prop} {o : List D → Option Val} {f : VA} (hr : OpN K r o) : ∀ σ H Q, up K W (vN o f) σ H Q → tCB r (upA K W f) σ H Q := fun σ H Q ⟨E, F, st, S, q⟩ => by
  refine aseqE S q fun rs st1 vs F1 H1 a b S1 ar k => ?_
  cases e : o (rs.map Val.d) with
  | none => rw [e] at k; exact k.elim
  | some res => rw [e] at k; exact hr E F1 H1 st1 σ _ vs res Q S1 ar.o e k
theorem de_bin {a b : Expr} {op : Operator} {r : R2} {o : D → D → Option Val} {f g : VE} (ho : OpR X (binaryOp op) r) (hr : Op2 X.K r o) (ha : DE X W a f) (hb : DE X W b g) : DE X W (.BinOp a op b pos) (v2 o f g) := PE.imp (pe_op ho ha hb) (up_v2 hr)
theorem de_un {a : Expr} {op : UnaryOp} {r : V → Hp → VK → Prop} {o : D → Option Val} {f : VE} (ho : UnR X (unaryOp op) r) (hr : Op1 X.K r o) (ha : DE X W a f) : DE X W (.UnaryOp op a pos) (v1 o f) := PE.imp (pe_un ho ha) (up_v1 hr)
theorem de_cmp {a b : Expr} {op : CmpOp} {r : R2} {o : D → D → Option Val} {f g : VE} (ho : OpR X (compareOp op) r) (hr : Op2 X.K r o) (ha : DE X W a f) (hb : DE X W b g) (hm : behindInMarks op b = false := by first | exact nomark _ | rfl) : DE X W (.Compare a [op] [b] pos) (v2 o f g) := PE.imp (pe_cmpR ho ha hb hm) (up_v2 hr)
theorem de_ix {a b : Expr} {r : R2} {o : D → D → Option Val} {f g : VE} (ho : IxR X r) (hr : Op2 X.K r o) (ha : DE X W a f) (hb : DE X W b g) (hs : PlainIx b := by exact fun _ _ => rfl) : DE X W (.Subscript a b pos) (v2 o f g) := PE.imp (pe_ix ho ha hb hs) (up_v2 hr)
/-- the truth of a bool -/
def asB : Val × Sts → R (Bool × Sts)
  | (.fz (.bl b), st) => .ok (b, st)
  | _ => .no
def vTest (f : VE) : VT := fun st => (f st).bind asB
theorem up_test {K : PySem.W.Frag} {f : VE} : ∀ σ H Q, upT K W (vTest f) σ H Q → tTest (up K W f) σ H Q := fun σ H Q ⟨E, F, st, S, q⟩ => by
  refine seqT S q fun r1 st1 v F1 H1 a b S1 vr k => ?_
  cases r1 with
  | fz d =>
    cases d with
    | bl c =>
      have vr : v = .bl c := vr
      exact ⟨c, vr, k F1 H1 (Same.refl _) (Same.refl _) S1⟩
    | _ => exact k.elim
  | _ => exact k.elim
theorem dt_cmp {a b : Expr} {op : CmpOp} {r : R2} {o : D → D → Option Val} {f g : VE} (ho : OpR X (compareOp op) r) (hr : Op2 X.K r o) (ha : DE X W a f) (hb : DE X W b g) (hm : behindInMarks op b = false := by first | exact nomark _ | rfl) : DT X W (.Compare a [op] [b] pos) (vTest (v2 o f g)) :=
  PT.imp (pt_cmpR ho ha hb hm) fun σ H Q h => by
    have h2 := up_test (f := v2 o f g) σ H Q h
    exact up_v2 hr σ H _ h2
theorem dt_val {e : Expr} {f : VE} (h : DE X W e f) (he : ∀ whole, isTrue e X.env whole = (do let v ← whole; standAt e.pos; holding [v] (truthy v)) := by intro _; rfl) : DT X W e (vTest f) :=
  PT.imp (pt_val h he) up_test
def vNotT (t : VT) : VT := fun st => (t st).bind fun p => .ok (!p.1, p.2)
def vAndT (t u : VT) : VT := fun st => (t st).bind fun p => if p.1 = true then u p.2 else .ok (false, p.2)
def vOrT (t u : VT) : VT := fun st => (t st).bind fun p => if p.1 = true then .ok (true, p.2) else u p.2
theorem dt_not {a : Expr} {t : VT} (h : DT X W a t) : DT X W (.UnaryOp .Not a pos) (vNotT t) := PT.imp (pt_not h) fun σ H Q ⟨E, F, st, S, q⟩ => by
  refine tseqT S q fun r st1 F1 H1 a b S1 k => ?_
  exact k F1 H1 (Same.refl _) (Same.refl _) S1
abbrev DW (X : Cx) (W : Wx) (e : Expr) (f : VT) : Prop := PW X e (upT X.K W f)
theorem PW.imp {X : Cx} {e : Expr} {t t' : TT} (h : PW X e t) (k : ∀ σ H Q, t' σ H Q → t σ H Q) : PW X e t' := ⟨fun wh pins s σ H Q I q => h.run wh pins s σ H Q I (k _ _ _ q)⟩
theorem dw_and1 {a : Expr} {t : VT} (h : DT X W a t) : DW X W (.BoolOp .And [a] pos) t := pw_and1 h
theorem dw_or1 {a : Expr} {t : VT} (h : DT X W a t) : DW X W (.BoolOp .Or [a] pos) t := pw_or1 h
theorem dw_and {a b : Expr} {rest : List Expr} {t u : VT} (ha : DT X W a t) (hb : DW X W (.BoolOp .And (b :: rest) pos) u) : DW X W (.BoolOp .And (a :: b :: rest) pos) (vAndT t u) := PW.imp (pw_and ha hb) fun σ H Q ⟨E, F, st, S, q⟩ => by
  refine tseqT S q fun r st1 F1 H1 a b S1 k => ?_
  cases r with
  | true => rw [if_pos rfl]; exact ⟨E, F1, st1, S1, k⟩
  | false => rw [if_neg Bool.false_ne_true]; exact k F1 H1 (Same.refl _) (Same.refl _) S1
theorem dw_or {a b : Expr} {rest : List Expr} {t u : VT} (ha : DT X W a t) (hb : DW X W (.BoolOp .Or (b :: rest) pos) u) : DW X W (.BoolOp .Or (a :: b :: rest) pos) (vOrT t u) := PW.imp (pw_or ha hb) fun σ H Q ⟨E, F, st, S, q⟩ => by
  refine tseqT S q fun r st1 F1 H1 a b S1 k => ?_
  cases r with
  | true => rw [if_pos rfl]; exact k F1 H1 (Same.refl _) (Same.refl _) S1
  | false => rw [if_neg Bool.false_ne_true]; exact ⟨E, F1, st1, S1, k⟩
theorem dt_w {e : Expr} {t : VT} (h : DW X W e t) : DT X W e t := h.pt
/-- bools as values -/
def vNot (f : VE) : VE := fun st => (f st).bind fun p => (asB p).bind fun q => .ok (.fz (.bl (!q.1)), q.2)
def vAnd (f g : VE) : VE := fun st => (f st).bind fun p => (asB p).bind fun q => if q.1 = true then g q.2 else .ok (.fz (.bl false), q.2)
def vOr (f g : VE) : VE := fun st => (f st).bind fun p => (asB p).bind fun q => if q.1 = true then .ok (.fz (.bl true), q.2) else g q.2
theorem de_not {a : Expr} {f : VE} (h : DE X W a f) : DE X W (.UnaryOp .Not a pos) (vNot f) := PE.imp (pe_not h) fun σ H Q ⟨E, F, st, S, q⟩ => by
  refine seqE S q fun r st1 v F1 H1 a b S1 vr k => ?_
  cases r with
  | fz d =>
    cases d with
    | bl c =>
      have vr : v = .bl c := vr
      exact ⟨c, vr, k _ F1 H1 (Same.refl _) (Same.refl _) S1 rfl⟩
    | _ => exact k.elim
  | _ => exact k.elim
theorem de_one {a : Expr} {op : BoolOp} {f : VE} (h : DE X W a f) : DE X W (.BoolOp op [a] pos) f := pe_one h
theorem de_and {a b : Expr} {rest : List Expr} {f g : VE} (ha : DE X W a f) (hb : DE X W (.BoolOp .And (b :: rest) pos) g) : DE X W (.BoolOp .And (a :: b :: rest) pos) (vAnd f g) := PE.imp (pe_and ha hb) fun σ H Q ⟨E, F, st, S, q⟩ => by
  refine seqE S q fun r st1 v F1 H1 a b S1 vr k => ?_
  cases r with
  | fz d =>
    cases d with
    | bl c =>
      have vr : v = .bl c := vr
      refine ⟨c, vr, ?_⟩
      cases c with
      | true => rw [if_pos rfl]; exact ⟨E, F1, st1, S1, k⟩
      | false => rw [if_neg Bool.false_ne_true]; exact k _ F1 H1 (Same.refl _) (Same.refl _) S1 rfl
    | _ => exact k.elim
  | _ => exact k.elim
theorem de_or {a b : Expr} {rest : List Expr} {f g : VE} (ha : DE X W a f) (hb : DE X W (.BoolOp .Or (b :: rest) pos) g) : DE X W (.BoolOp .Or (a :: b :: rest) pos) (vOr f g) := PE.imp (pe_or ha hb) fun σ H Q ⟨E, F, st, S, q⟩ => by
  refine seqE S q fun r st1 v F1 H1 a b S1 vr k => ?_
  cases r with
  | fz d =>
    cases d with
    | bl c =>
      have vr : v = .bl c := vr
      refine ⟨c, vr, ?_⟩
      cases c with
      | true => rw [if_pos rfl]; exact k _ F1 H1 (Same.refl _) (Same.refl _) S1 rfl
      | false => rw [if_neg Bool.false_ne_true]; exact ⟨E, F1, st1, S1, k⟩
    | _ => exact k.elim
  | _ => exact k.elim
def vIfE (t : VT) (f g : VE) : VE := fun st => (t st).bind fun p => if p.1 = true then f p.2 else g p.2
theorem de_ifE {c a b : Expr} {t : VT} {f g : VE} (hc : DT X W c t) (ha : DE X W a f) (hb : DE X W b g) : DE X W (.IfExp c a b pos) (vIfE t f g) := PE.imp (pe_ifExp hc ha hb) fun σ H Q ⟨E, F, st, S, q⟩ => by
  refine tseqE S q fun r st1 F1 H1 a b S1 k => ?_
  cases r with
  | true => rw [if_pos rfl]; exact ⟨E, F1, st1, S1, k⟩
  | false => rw [if_neg Bool.false_ne_true]; exact ⟨E, F1, st1, S1, k⟩
/-! ## displays -/
def fzs : List Val → Option (List D)
  | [] => some []
  | .fz d :: rs => (fzs rs).map (d :: ·)
  | _ :: _ => none
theorem ARels.fzs {K : PySem.W.Frag} {F H : Hp} : ∀ {rs : List Val} {vs : List V} {ds : List D}, ARels K F H rs vs → fzs rs = some ds → Reps K F ds vs
  | [], _, _, h, e => by cases e; exact h
  | .fz d :: rs, _, _, ⟨v, us, h1, h2, h3⟩, e => by
    obtain ⟨es, e1, e2⟩ := Option.map_eq_some_iff.mp e
    subst e2
    exact ⟨v, us, h1, h2, ARels.fzs h3 e1⟩
  | .nw m :: rs, _, _, _, e => by cases e
  | .pk i m :: rs, _, _, _, e => by cases e
def vTup (f : VA) : VE := fun st => (f st).bind fun p => match fzs p.1 with
  | some ds => if ds.length ≤ 1000 then .ok (.fz (.tup ds), p.2) else .no
  | none => .no
def vLst (f : VA) : VE := fun st => (f st).bind fun p => match fzs p.1 with
  | some ds => if ds.length ≤ 1000 then .ok (.nw (.lst ds), p.2) else .no
  | none => .no
theorem small_size {n : Nat} (h : n ≤ 1000) : n ≤ sizeLine := Nat.le_of_lt (small1000 h)
theorem de_tup {es : List Expr} {k : Nat} {f : VA} (h : DA X W es f) : DE X W (.Tuple es k pos) (vTup f) := PE.imp (pe_tup h) fun σ H Q ⟨E, F, st, S, q⟩ => by
  refine aseqE S q fun rs st1 vs F1 H1 a b S1 ar k => ?_
  dsimp only at k
  cases e : fzs rs with
  | none => rw [e] at k; exact k.elim
  | some ds =>
    rw [e] at k
    dsimp only at k
    have rp := ARels.fzs ar e
    by_cases hl : ds.length ≤ 1000
    · rw [if_pos hl] at k
      refine ⟨by rw [rp.length]; exact small_size hl, fun p hp => ?_⟩
      exact k _ _ _ (same_new (S1.sub.free hp)) (same_new hp) (S1.new hp) ⟨p, vs, rfl, upd_same, Reps.mono (same_new (S1.sub.free hp)) _ _ rp⟩
    · rw [if_neg hl] at k; exact k.elim
theorem Sim.newOwn {K : PySem.W.Frag} {E : Ent} {F H : Hp} {st : Sts} {σ : L2.St} {m : M} {p : Addr} {o : HO} (S : Sim K E F H st σ) (hp : H p = none) (hm : MAt K F m o) : Sim K E F (upd H p o) st σ ∧ VRel K E F (upd H p o) st σ (.nw m) (.ref p) :=
  ⟨S.grow (same_new hp), p, rfl, ⟨S.sub.free hp, S.ent.free hp, o, upd_same, hm⟩, S.notOwn hp⟩
theorem de_lst {es : List Expr} {f : VA} (h : DA X W es f) : DE X W (.List es pos) (vLst f) := PE.imp (pe_lst h) fun σ H Q ⟨E, F, st, S, q⟩ => by
  refine aseqE S q fun rs st1 vs F1 H1 a b S1 ar k => ?_
  dsimp only at k
  cases e : fzs rs with
  | none => rw [e] at k; exact k.elim
  | some ds =>
    rw [e] at k
    dsimp only at k
    have rp := ARels.fzs ar e
    by_cases hl : ds.length ≤ 1000
    · rw [if_pos hl] at k
      refine ⟨by rw [rp.length]; exact small_size hl, fun p hp => ?_⟩
      obtain ⟨S2, vr⟩ := S1.newOwn (m := .lst ds) (o := .lst vs) hp ⟨vs, rfl, rp⟩
      exact k _ _ _ (Same.refl _) (same_new hp) S2 vr
    · rw [if_neg hl] at k; exact k.elim
end
end Vl
namespace Vl
open PySem PySem.Spec PyProof.Rows L2
/-! ## readings by data -/
section
variable {K : PySem.W.Frag} {E : Ent} {F H : Hp} {st : Sts} {σ : L2.St} {v : V}
theorem ORel.non (h : ORel K F H .non v) : v = .non := by
  rcases h with h | ⟨m, a, o, e, _⟩
  · exact h
  · cases m <;> cases e
theorem ORel.bl {b : Bool} (h : ORel K F H (.bl b) v) : v = .bl b := by
  rcases h with h | ⟨m, a, o, e, _⟩
  · exact h
  · cases m <;> cases e
theorem ORel.int {i : Int} (h : ORel K F H (.int i) v) : v = .int i := by
  rcases h with h | ⟨m, a, o, e, _⟩
  · exact h
  · cases m <;> cases e
theorem ORel.str {x : List Nat} (h : ORel K F H (.str x) v) : v = .str (tx x) ∧ TxOk x := by
  rcases h with h | ⟨m, a, o, e, _⟩
  · exact h
  · cases m <;> cases e
theorem ORel.tup {ds : List D} (s : Same F H) (h : ORel K F H (.tup ds) v) : ∃ a vs, v = .ref a ∧ SqT K H a vs ∧ Reps K F ds vs := by
  rcases h with ⟨a, vs, h1, h2, h3⟩ | ⟨m, a, o, e, _⟩
  · exact ⟨a, vs, h1, SqT.of (s _ _ h2), h3⟩
  · cases m <;> cases e
theorem ORel.lst {ds : List D} (s : Same F H) (h : ORel K F H (.lst ds) v) : ∃ a vs, v = .ref a ∧ SqL K H a vs ∧ Reps K F ds vs := by
  rcases h with ⟨a, vs, h1, h2, h3⟩ | ⟨m, a, o, e, h1, h2, h3⟩
  · exact ⟨a, vs, h1, s.seq h2, h3⟩
  · cases m with
    | lst es =>
      cases e
      obtain ⟨vs, e1, e2⟩ := h3
      subst e1
      exact ⟨a, vs, h1, SqL.of h2, e2⟩
    | dct ks vs => cases e
    | dcu ks vs => cases e
/-- an operation's reading by data -/
def rD (K : PySem.W.Frag) (o : D → D → Option Val) : R2 := fun x y H Q => ∃ (E : Ent) (F : Hp) (st : Sts) (σ : L2.St) (dx dy : D) (res : Val), Sim K E F H st σ ∧ ORel K F H dx x ∧ ORel K F H dy y ∧ o dx dy = some res ∧ Post K E F H st σ res Q
theorem op2_rD {o : D → D → Option Val} : Op2 K (rD K o) o := fun E F H st σ dx dy x y res Q S h1 h2 e p => ⟨E, F, st, σ, dx, dy, res, S, h1, h2, e, p⟩
def rD1 (K : PySem.W.Frag) (o : D → Option Val) : V → Hp → VK → Prop := fun x H Q => ∃ (E : Ent) (F : Hp) (st : Sts) (σ : L2.St) (dx : D) (res : Val), Sim K E F H st σ ∧ ORel K F H dx x ∧ o dx = some res ∧ Post K E F H st σ res Q
theorem op1_rD {o : D → Option Val} : Op1 K (rD1 K o) o := fun E F H st σ dx x res Q S h1 e p => ⟨E, F, st, σ, dx, res, S, h1, e, p⟩
def rDN (K : PySem.W.Frag) (o : List D → Option Val) : List V → Hp → VK → Prop := fun xs H Q => ∃ (E : Ent) (F : Hp) (st : Sts) (σ : L2.St) (ds : List D) (res : Val), Sim K E F H st σ ∧ ORels K F H ds xs ∧ o ds = some res ∧ Post K E F H st σ res Q
theorem opN_rD {o : List D → Option Val} : OpN K (rDN K o) o := fun E F H st σ ds xs res Q S h1 e p => ⟨E, F, st, σ, ds, res, S, h1, e, p⟩
/-- the ends -/
theorem Post.fz {d : D} {Q : VK} (S : Sim K E F H st σ) (p : Post K E F H st σ (.fz d) Q) (r : Rep K F d v) : Q v H := p v F H (Same.refl _) (Same.refl _) S r
theorem Post.newL {ds : List D} {vs : List V} {Q : VK} (S : Sim K E F H st σ) (p : Post K E F H st σ (.nw (.lst ds)) Q) (r : Reps K F ds vs) (a : Addr) (ha : H a = none) : Q (.ref a) (upd H a (.lst vs)) := by
  obtain ⟨S2, vr⟩ := S.newOwn (m := .lst ds) (o := .lst vs) ha ⟨vs, rfl, r⟩
  exact p _ _ _ (Same.refl _) (same_new ha) S2 vr
theorem Post.newT {ds : List D} {vs : List V} {Q : VK} (S : Sim K E F H st σ) (p : Post K E F H st σ (.fz (.tup ds)) Q) (r : Reps K F ds vs) (a : Addr) (ha : H a = none) : Q (.ref a) (upd H a (.tup vs)) :=
  p _ _ _ (same_new (S.sub.free ha)) (same_new ha) (S.new ha) ⟨a, vs, rfl, upd_same, Reps.mono (same_new (S.sub.free ha)) _ _ r⟩
end
/-! ## arithmetic -/
def smallI (i : Int) : Bool := decide (-(2 ^ 64) < i) && decide (i < 2 ^ 64)
def mulOk (i j : Int) : Bool := smallI j || smallI i || decide (i.natAbs.log2 + j.natAbs.log2 < 1000000)
theorem mulOk_ok {i j : Int} (h : mulOk i j = true) : IntMulOk i j := by
  unfold mulOk smallI at h
  rw [Bool.or_eq_true, Bool.or_eq_true, Bool.and_eq_true, Bool.and_eq_true] at h
  rcases h with (⟨h1, h2⟩ | ⟨h1, h2⟩) | h
  · exact .of_right (intBits_le_64 (of_decide_eq_true h1) (of_decide_eq_true h2))
  · exact .of_left (intBits_le_64 (of_decide_eq_true h1) (of_decide_eq_true h2))
  · exact CMulW.ok (show i.natAbs.log2 + j.natAbs.log2 < 1000000 from of_decide_eq_true h)
def sizeOkB (n : Nat) : Bool := decide (n ≤ 16777216)
theorem sizeOkB_ok {n : Nat} (h : sizeOkB n = true) : n ≤ sizeLine := by rw [sizeLine_eq]; exact of_decide_eq_true h
def oAdd : D → D → Option Val
  | .int i, .int j => some (.fz (.int (i + j)))
  | .str a, .str b => if sizeOkB (a.length + b.length) then some (.fz (.str (a ++ b))) else none
  | .lst a, .lst b => if sizeOkB (a.length + b.length) then some (.nw (.lst (a ++ b))) else none
  | .tup a, .tup b => if sizeOkB (a.length + b.length) then some (.fz (.tup (a ++ b))) else none
  | _, _ => none
def oSub : D → D → Option Val
  | .int i, .int j => some (.fz (.int (i - j)))
  | _, _ => none
def oMul : D → D → Option Val
  | .int i, .int j => if mulOk i j then some (.fz (.int (i * j))) else none
  | _, _ => none
def divOk (j : Int) : Bool := decide (0 < j) && decide (j.natAbs.log2 < 9000)
theorem divOk_lit {j : Int} (h : 0 < j) (h2 : j < 18446744073709551616) : divOk j = true := by
  unfold divOk
  rw [decide_eq_true h, Bool.true_and, decide_eq_true_eq]
  have : j.natAbs < 2 ^ 64 := by omega
  have := PySem.Flt.log2_lt_of (by decide : 0 < 64) this
  omega
theorem mulOk_right {i j : Int} (h : -18446744073709551616 < j) (h2 : j < 18446744073709551616) : mulOk i j = true := by
  unfold mulOk smallI
  rw [decide_eq_true (show -(2 ^ 64) < j from h), decide_eq_true (show j < 2 ^ 64 from h2)]
  simp
theorem mulOk_left {i j : Int} (h : -18446744073709551616 < i) (h2 : i < 18446744073709551616) : mulOk i j = true := by
  unfold mulOk smallI
  rw [decide_eq_true (show -(2 ^ 64) < i from h), decide_eq_true (show i < 2 ^ 64 from h2)]
  simp
/-- a positive divisor -/
def oDiv : D → D → Option Val
  | .int i, .int j => if divOk j then some (.fz (.int (i / j))) else none
  | _, _ => none
def oMod : D → D → Option Val
  | .int i, .int j => if decide (0 < j) then some (.fz (.int (i % j))) else none
  | _, _ => none
def powOk (i j : Int) : Bool := decide (0 ≤ j) && decide (j ≤ 1000000) && decide (i.natAbs < 2 ^ 64)
theorem powOk_lit {i j : Int} (h : 0 ≤ j) (h2 : j ≤ 1000000) (h3 : -18446744073709551616 < i) (h4 : i < 18446744073709551616) : powOk i j = true := by
  unfold powOk
  rw [decide_eq_true h, decide_eq_true h2, decide_eq_true (show i.natAbs < 2 ^ 64 by omega)]; rfl
theorem powPos {i : Int} {n : Nat} (h : 0 < i) : (0 < i ^ n) = True := eq_true (Int.pow_pos h)
def oPow : D → D → Option Val
  | .int i, .int j => if powOk i j then some (.fz (.int (i ^ j.toNat))) else none
  | _, _ => none
def oNeg : D → Option Val
  | .int i => some (.fz (.int (-i)))
  | _ => none
section
variable {X : Cx}
theorem TxOk.append {a b : List Nat} (ha : TxOk a) (hb : TxOk b) (h : a.length + b.length ≤ sizeLine) : TxOk (a ++ b) :=
  ⟨by rw [List.length_append]; exact h, fun c hc => (List.mem_append.mp hc).elim (ha.2 c) (hb.2 c)⟩
theorem tx_append (a b : List Nat) : tx a ++ tx b = tx (a ++ b) := by
  show Str.append _ _ = _
  unfold Str.append tx
  simp
theorem tx_length (a : List Nat) : (tx a).length = a.length := by
  show (a.toArray).size = _
  simp
/-- () + u gives u -/
theorem cat_tup0 {prog : Program} {w : World} {A : Around} {E : Value → Shared → Prop} {s : Shared} {t b : Addr} {ws : List Value} {Q : Value → Shared → Prop} (ht : IsTup s.heap t ([] : List Value).toArray) (hb : IsTup s.heap b ws.toArray) (h : Q (.ref b) s) :
    wpAny (model prog w) A (binaryOp .Add (.ref t) (.ref b)) Q E s := by
  obtain ⟨⟨cls, dd, data, sl⟩, ho, hc, n, hd⟩ := id ht
  obtain ⟨⟨cls2, dd2, data2, sl2⟩, ho2, hc2, n2, hd2⟩ := id hb
  simp only at hc hd hc2 hd2
  subst hc hd hc2 hd2
  exact concat_meets ⟨_, ho, rfl⟩ ⟨_, ho2, rfl⟩ noFill_tuple_add seq_tuple_add PySem.F.slot_tuple_add PySem.F.entry_tuple_add (PySem.F.args_tuple_add_2 _ _)
      (tuple_addW0 t b _ ws.toArray n n2 dd dd2 sl sl2 (by simp)) ⟨ho, ho2, h⟩
theorem opAdd : OpR X (binaryOp .Add) (rD X.K oAdd) := by
  intro pins s σ H x y v u Q I rx ry ⟨E, F, st, σ', dx, dy, res, S, hx, hy, e, p⟩
  cases dx with
  | int i =>
    cases dy with
    | int j =>
      have e1 := hx.int
      have e2 := hy.int
      subst e1 e2
      cases e
      exact op_add pins s σ H _ _ v u Q I rx ry ⟨i, j, rfl, rfl, p.fz S rfl⟩
    | _ => cases e
  | str a =>
    cases dy with
    | str b =>
      obtain ⟨e1, ha⟩ := hx.str
      obtain ⟨e2, hb⟩ := hy.str
      subst e1 e2
      dsimp only [oAdd] at e
      by_cases hl : sizeOkB (a.length + b.length) = true
      · rw [if_pos hl] at e
        cases e
        have hl' := sizeOkB_ok hl
        exact op_add_str pins s σ H _ _ v u Q I rx ry ⟨_, _, rfl, rfl, by rw [tx_length, tx_length]; exact hl', p.fz S ⟨by rw [tx_append], ha.append hb hl'⟩⟩
      · rw [if_neg hl] at e; cases e
    | _ => cases e
  | lst a =>
    cases dy with
    | lst b =>
      obtain ⟨l1, vs, e1, h1, r1⟩ := hx.lst S.sub
      obtain ⟨l2, us, e2, h2, r2⟩ := hy.lst S.sub
      subst e1 e2
      dsimp only [oAdd] at e
      by_cases hl : sizeOkB (a.length + b.length) = true
      · rw [if_pos hl] at e
        cases e
        have hl' := sizeOkB_ok hl
        cases rx
        cases ry
        obtain ⟨its1, w1, ⟨⟨cls1, dd1, data1, sl1⟩, n1, g1, hc1, hd1, ht1⟩, z1⟩ := I.list h1
        obtain ⟨its2, w2, ⟨⟨cls2, dd2, data2, sl2⟩, n2, g2, hc2, hd2, ht2⟩, z2⟩ := I.list h2
        simp only at hc1 hd1 ht1 hc2 hd2 ht2
        subst hc1 hd1 ht1 hc2 hd2 ht2
        have hz : its1.length + its2.length ≤ sizeLine := by
          rw [← w1.length, ← w2.length, r1.length, r2.length]; exact hl'
        refine concat_meets ⟨_, g1, rfl⟩ ⟨_, g2, rfl⟩ noFill_list_add seq_list_add PySem.F.slot_list_add PySem.F.entry_list_add (PySem.F.args_list_add_2 _ _) (list_addW l1 l2 its1.toArray its2.toArray n1 n2 none none sl1 sl2 (by rw [List.size_toArray, List.size_toArray]; exact hz)) ⟨g1, g2, ?_⟩
        have ea : its1.toArray ++ its2.toArray = (its1 ++ its2).toArray := by simp
        rw [ea]
        refine ⟨.ref _, _, I.lnew (t' := s.toks) (w1.append w2) ?_, rfl, p.newL S (r1.append r2) _ I.fresh⟩
        rw [List.length_append, w1.length, w2.length]; exact hz
      · rw [if_neg hl] at e; cases e
    | _ => cases e
  | tup a =>
    cases dy with
    | tup b =>
      obtain ⟨l1, vs, e1, h1, r1⟩ := hx.tup S.sub
      obtain ⟨l2, us, e2, h2, r2⟩ := hy.tup S.sub
      subst e1 e2
      dsimp only [oAdd] at e
      by_cases hl : sizeOkB (a.length + b.length) = true
      · rw [if_pos hl] at e
        cases e
        have hl' := sizeOkB_ok hl
        cases a with
        | nil =>
          have e0 : vs = [] := r1
          subst e0
          cases rx
          cases ry
          obtain ⟨its1, w1, p1, _⟩ := I.tuple h1
          obtain ⟨its2, w2, p2, _⟩ := I.tuple h2
          cases w1
          rw [List.nil_append] at p
          rcases hy with hy | ⟨m, _, _, e, _⟩
          · exact cat_tup0 p1 p2 ⟨.ref l2, H, I, rfl, p.fz S hy⟩
          · cases m <;> cases e
        | cons d ds =>
          have hvs : vs ≠ [] := by
            obtain ⟨w, r, e0, _⟩ := r1
            rw [e0]; exact List.cons_ne_nil _ _
          refine op_catT pins s σ H _ _ v u Q I rx ry ⟨l1, l2, vs, us, rfl, rfl, h1, h2, hvs, by rw [r1.length, r2.length]; exact hl', fun z => ?_, fun z q hq => ?_⟩
          · have hb : b = [] := by
              have := r2.length
              rw [z] at this
              exact List.length_eq_zero_iff.mp (by simpa using this.symm)
            subst hb
            rw [List.append_nil] at p
            rcases hx with hx | ⟨m, _, _, e, _⟩
            · exact p.fz S hx
            · cases m <;> cases e
          · exact p.newT S (r1.append r2) q hq
      · rw [if_neg hl] at e; cases e
    | _ => cases e
  | _ => cases e
theorem opSub : OpR X (binaryOp .Sub) (rD X.K oSub) := by
  intro pins s σ H x y v u Q I rx ry ⟨E, F, st, σ', dx, dy, res, S, hx, hy, e, p⟩
  cases dx with
  | int i =>
    cases dy with
    | int j =>
      have e1 := hx.int
      have e2 := hy.int
      subst e1 e2
      cases e
      exact op_sub pins s σ H _ _ v u Q I rx ry ⟨i, j, rfl, rfl, p.fz S rfl⟩
    | _ => cases e
  | _ => cases e
theorem opMul : OpR X (binaryOp .Mult) (rD X.K oMul) := by
  intro pins s σ H x y v u Q I rx ry ⟨E, F, st, σ', dx, dy, res, S, hx, hy, e, p⟩
  cases dx with
  | int i =>
    cases dy with
    | int j =>
      have e1 := hx.int
      have e2 := hy.int
      subst e1 e2
      dsimp only [oMul] at e
      by_cases hl : mulOk i j = true
      · rw [if_pos hl] at e
        cases e
        exact (opI (C := IntMulOk) (g := fun i j => i * j) fun _ _ _ _ _ _ _ hc q => mul_int q hc) pins s σ H _ _ v u Q I rx ry ⟨i, j, rfl, rfl, mulOk_ok hl, p.fz S rfl⟩
      · rw [if_neg hl] at e; cases e
    | _ => cases e
  | _ => cases e
theorem opDiv : OpR X (binaryOp .FloorDiv) (rD X.K oDiv) := by
  intro pins s σ H x y v u Q I rx ry ⟨E, F, st, σ', dx, dy, res, S, hx, hy, e, p⟩
  cases dx with
  | int i =>
    cases dy with
    | int j =>
      have e1 := hx.int
      have e2 := hy.int
      subst e1 e2
      dsimp only [oDiv] at e
      by_cases hl : divOk j = true
      · rw [if_pos hl] at e
        cases e
        unfold divOk at hl
        rw [Bool.and_eq_true] at hl
        exact op_fdivW pins s σ H _ _ v u Q I rx ry ⟨i, j, rfl, rfl, ⟨of_decide_eq_true hl.1, of_decide_eq_true hl.2⟩, p.fz S rfl⟩
      · rw [if_neg hl] at e; cases e
    | _ => cases e
  | _ => cases e
theorem opMod : OpR X (binaryOp .Mod) (rD X.K oMod) := by
  intro pins s σ H x y v u Q I rx ry ⟨E, F, st, σ', dx, dy, res, S, hx, hy, e, p⟩
  cases dx with
  | int i =>
    cases dy with
    | int j =>
      have e1 := hx.int
      have e2 := hy.int
      subst e1 e2
      dsimp only [oMod] at e
      by_cases hl : decide (0 < j) = true
      · rw [if_pos hl] at e
        cases e
        exact op_mod pins s σ H _ _ v u Q I rx ry ⟨i, j, rfl, rfl, of_decide_eq_true hl, p.fz S rfl⟩
      · rw [if_neg hl] at e; cases e
    | _ => cases e
  | _ => cases e
theorem opPow : OpR X (binaryOp .Pow) (rD X.K oPow) := by
  intro pins s σ H x y v u Q I rx ry ⟨E, F, st, σ', dx, dy, res, S, hx, hy, e, p⟩
  cases dx with
  | int i =>
    cases dy with
    | int j =>
      have e1 := hx.int
      have e2 := hy.int
      subst e1 e2
      dsimp only [oPow] at e
      by_cases hl : powOk i j = true
      · rw [if_pos hl] at e
        cases e
        unfold powOk at hl
        rw [Bool.and_eq_true, Bool.and_eq_true] at hl
        exact op_pow pins s σ H _ _ v u Q I rx ry ⟨i, j, rfl, rfl, ⟨of_decide_eq_true hl.1.1, of_decide_eq_true hl.1.2, of_decide_eq_true hl.2⟩, p.fz S rfl⟩
      · rw [if_neg hl] at e; cases e
    | _ => cases e
  | _ => cases e
theorem opNeg : UnR X (unaryOp .USub) (rD1 X.K oNeg) := by
  intro pins s σ H x v Q I rx ⟨E, F, st, σ', dx, res, S, hx, e, p⟩
  cases dx with
  | int i =>
    have e1 := hx.int
    subst e1
    cases e
    exact un_neg pins s σ H _ v Q I rx ⟨i, rfl, p.fz S rfl⟩
  | _ => cases e
/-! ## comparisons -/
def oLt : D → D → Option Val
  | .int i, .int j => some (.fz (.bl (decide (i < j))))
  | .str a, .str b => some (.fz (.bl (decide (a < b))))
  | _, _ => none
def oLe : D → D → Option Val
  | .int i, .int j => some (.fz (.bl (decide (i ≤ j))))
  | _, _ => none
def oGt : D → D → Option Val
  | .int i, .int j => some (.fz (.bl (decide (j < i))))
  | _, _ => none
def oGe : D → D → Option Val
  | .int i, .int j => some (.fz (.bl (decide (j ≤ i))))
  | _, _ => none
def oIsN : D → D → Option Val
  | d, .non => some (.fz (.bl (match d with | .non => true | _ => false)))
  | _, _ => none
def oNotN : D → D → Option Val
  | d, .non => some (.fz (.bl (match d with | .non => false | _ => true)))
  | _, _ => none
theorem opLt : OpR X (compareOp .Lt) (rD X.K oLt) := by
  intro pins s σ H x y v u Q I rx ry ⟨E, F, st, σ', dx, dy, res, S, hx, hy, e, p⟩
  cases dx with
  | int i =>
    cases dy with
    | int j =>
      have e1 := hx.int
      have e2 := hy.int
      subst e1 e2
      cases e
      exact op_lt pins s σ H _ _ v u Q I rx ry ⟨i, j, rfl, rfl, p.fz S rfl⟩
    | _ => cases e
  | str a =>
    cases dy with
    | str b =>
      obtain ⟨e1, _⟩ := hx.str
      obtain ⟨e2, _⟩ := hy.str
      subst e1 e2
      cases e
      exact op_lt_str pins s σ H _ _ v u Q I rx ry ⟨_, _, rfl, rfl, p.fz S rfl⟩
    | _ => cases e
  | _ => cases e
theorem opLe : OpR X (compareOp .LtE) (rD X.K oLe) := by
  intro pins s σ H x y v u Q I rx ry ⟨E, F, st, σ', dx, dy, res, S, hx, hy, e, p⟩
  cases dx with
  | int i =>
    cases dy with
    | int j =>
      have e1 := hx.int
      have e2 := hy.int
      subst e1 e2
      cases e
      exact op_le pins s σ H _ _ v u Q I rx ry ⟨i, j, rfl, rfl, p.fz S rfl⟩
    | _ => cases e
  | _ => cases e
theorem opGt : OpR X (compareOp .Gt) (rD X.K oGt) := by
  intro pins s σ H x y v u Q I rx ry ⟨E, F, st, σ', dx, dy, res, S, hx, hy, e, p⟩
  cases dx with
  | int i =>
    cases dy with
    | int j =>
      have e1 := hx.int
      have e2 := hy.int
      subst e1 e2
      cases e
      exact op_gt pins s σ H _ _ v u Q I rx ry ⟨i, j, rfl, rfl, p.fz S rfl⟩
    | _ => cases e
  | _ => cases e
theorem opGe : OpR X (compareOp .GtE) (rD X.K oGe) := by
  intro pins s σ H x y v u Q I rx ry ⟨E, F, st, σ', dx, dy, res, S, hx, hy, e, p⟩
  cases dx with
  | int i =>
    cases dy with
    | int j =>
      have e1 := hx.int
      have e2 := hy.int
      subst e1 e2
      cases e
      exact op_ge pins s σ H _ _ v u Q I rx ry ⟨i, j, rfl, rfl, p.fz S rfl⟩
    | _ => cases e
  | _ => cases e
theorem ORel.isNon {K : PySem.W.Frag} {F H : Hp} : ∀ {d : D} {v : V}, ORel K F H d v → decide (v = .non) = (match d with | .non => true | _ => false)
  | .non, v, h => by rw [h.non]; rfl
  | .bl b, v, h => by rw [h.bl]; rfl
  | .int b, v, h => by rw [h.int]; rfl
  | .str b, v, h => by rw [h.str.1]; rfl
  | .tup b, v, h => by
    rcases h with ⟨a, vs, h1, h2, h3⟩ | ⟨m, a, o, e, h1, _⟩ <;> rw [h1] <;> rfl
  | .lst b, v, h => by
    rcases h with ⟨a, vs, h1, h2, h3⟩ | ⟨m, a, o, e, h1, _⟩ <;> rw [h1] <;> rfl
  | .dct b c, v, h => by
    rcases h with ⟨a, vs, h1, h2, h3⟩ | ⟨m, a, o, e, h1, _⟩ <;> rw [h1] <;> rfl
  | .dcu b c, v, h => by
    rcases h with ⟨a, vs, h1, h2, h3⟩ | ⟨m, a, o, e, h1, _⟩ <;> rw [h1] <;> rfl
  | .ins n b c, v, h => by
    rcases h with ⟨a, C, dx, vs, h1, _⟩ | ⟨m, a, o, e, h1, _⟩ <;> rw [h1] <;> rfl
theorem opIsN : OpR X (compareOp .Is) (rD X.K oIsN) := by
  intro pins s σ H x y v u Q I rx ry ⟨E, F, st, σ', dx, dy, res, S, hx, hy, e, p⟩
  cases dy with
  | non =>
    have e2 := hy.non
    subst e2
    cases e
    exact op_isN pins s σ H _ _ v u Q I rx ry ⟨rfl, p.fz S (by rw [hx.isNon]; rfl)⟩
  | _ => cases e
theorem opNotN : OpR X (compareOp .IsNot) (rD X.K oNotN) := by
  intro pins s σ H x y v u Q I rx ry ⟨E, F, st, σ', dx, dy, res, S, hx, hy, e, p⟩
  cases dy with
  | non =>
    have e2 := hy.non
    subst e2
    cases e
    exact op_notN pins s σ H _ _ v u Q I rx ry ⟨rfl, p.fz S (by rw [hx.isNon]; cases dx <;> rfl)⟩
  | _ => cases e
/-! ## == at any depth -/
mutual
def D.py : D → PyData
  | .non => .none
  | .bl b => .bool b
  | .int i => .int i
  | .str x => .str (tx x)
  | .tup ds => .tuple (D.pys ds)
  | .lst ds => .list (D.pys ds)
  | .dct _ _ => .none
  | .dcu _ _ => .none
  | .ins _ _ _ => .none
def D.pys : List D → List PyData
  | [] => []
  | d :: ds => d.py :: D.pys ds
end
mutual
/-- no dict, at most so deep -/
def D.lay : Nat → D → Bool
  | _, .non => true
  | _, .bl _ => true
  | _, .int _ => true
  | _, .str _ => true
  | 0, .tup _ => false
  | n + 1, .tup ds => D.lays n ds
  | 0, .lst _ => false
  | n + 1, .lst ds => D.lays n ds
  | _, .dct _ _ => false
  | _, .dcu _ _ => false
  | _, .ins _ _ _ => false
def D.lays : Nat → List D → Bool
  | _, [] => true
  | n, d :: ds => D.lay n d && D.lays n ds
end
mutual
def D.eqv : D → D → Bool
  | .non, .non => true
  | .bl a, .bl b => a == b
  | .bl a, .int j => (if a then 1 else 0) == j
  | .int i, .bl b => i == (if b then 1 else 0)
  | .int a, .int b => a == b
  | .str a, .str b => a == b
  | .tup a, .tup b => D.eqvs a b
  | .lst a, .lst b => D.eqvs a b
  | _, _ => false
def D.eqvs : List D → List D → Bool
  | [], [] => true
  | a :: r, b :: s => D.eqv a b && D.eqvs r s
  | _, _ => false
end
theorem tx_beq (a b : List Nat) : (tx a == tx b) = (a == b) := by
  rw [Bool.eq_iff_iff]
  simp [tx]
mutual
theorem D.eqv_py : ∀ (n : Nat) (a b : D), a.lay n = true → b.lay n = true → PyData.eqv a.py b.py = D.eqv a b
  | n, .non, b, _, hb => by cases b <;> first | rfl | (cases n <;> simp [D.lay] at hb)
  | n, .bl _, b, _, hb => by cases b <;> first | rfl | (cases n <;> simp [D.lay] at hb)
  | n, .int _, b, _, hb => by cases b <;> first | rfl | (cases n <;> simp [D.lay] at hb)
  | n, .str _, b, _, hb => by cases b <;> first | rfl | exact tx_beq _ _ | (cases n <;> simp [D.lay] at hb)
  | 0, .tup _, b, ha, _ => by simp [D.lay] at ha
  | n + 1, .tup ds, b, ha, hb => by
    cases b with
    | tup es => exact D.eqvs_py n ds es (by simpa [D.lay] using ha) (by simpa [D.lay] using hb)
    | dct ks vs => simp [D.lay] at hb
    | dcu ks vs => simp [D.lay] at hb
    | ins n ks vs => simp [D.lay] at hb
    | _ => rfl
  | 0, .lst _, b, ha, _ => by simp [D.lay] at ha
  | n + 1, .lst ds, b, ha, hb => by
    cases b with
    | lst es => exact D.eqvs_py n ds es (by simpa [D.lay] using ha) (by simpa [D.lay] using hb)
    | dct ks vs => simp [D.lay] at hb
    | dcu ks vs => simp [D.lay] at hb
    | ins n ks vs => simp [D.lay] at hb
    | _ => rfl
  | n, .dct _ _, b, ha, _ => by cases n <;> simp [D.lay] at ha
  | n, .dcu _ _, b, ha, _ => by cases n <;> simp [D.lay] at ha
  | n, .ins _ _ _, b, ha, _ => by cases n <;> simp [D.lay] at ha
theorem D.eqvs_py : ∀ (n : Nat) (a b : List D), D.lays n a = true → D.lays n b = true → PyData.eqvAll (D.pys a) (D.pys b) = D.eqvs a b
  | n, [], b, _, _ => by cases b <;> rfl
  | n, a :: r, b, ha, hb => by
    cases b with
    | nil => rfl
    | cons c s =>
      simp only [D.lays, Bool.and_eq_true] at ha hb
      show (PyData.eqv a.py c.py && PyData.eqvAll (D.pys r) (D.pys s)) = (D.eqv a c && D.eqvs r s)
      rw [D.eqv_py n a c ha.1 hb.1, D.eqvs_py n r s ha.2 hb.2]
end
mutual
theorem Rep.dp {K : PySem.W.Frag} {H : Hp} : ∀ (n : Nat) (d : D) (v : V), d.lay n = true → Rep K H d v → Dp K H v d.py
  | _, .non, _, _, h => by rw [show _ = V.non from h]; exact .non
  | _, .bl _, _, _, h => by rw [show _ = V.bl _ from h]; exact .bl _
  | _, .int _, _, _, h => by rw [show _ = V.int _ from h]; exact .int _
  | _, .str _, _, _, h => by rw [h.1]; exact .str _
  | 0, .tup _, _, l, _ => by simp [D.lay] at l
  | n + 1, .tup ds, _, l, ⟨a, vs, h1, h2, h3⟩ => by rw [h1]; exact .tup (SqT.of h2) (Reps.dps n ds vs (by simpa [D.lay] using l) h3)
  | 0, .lst _, _, l, _ => by simp [D.lay] at l
  | n + 1, .lst ds, _, l, ⟨a, vs, h1, h2, h3⟩ => by rw [h1]; exact .lst h2 (Reps.dps n ds vs (by simpa [D.lay] using l) h3)
  | n, .dct _ _, _, l, _ => by cases n <;> simp [D.lay] at l
  | n, .dcu _ _, _, l, _ => by cases n <;> simp [D.lay] at l
  | n, .ins _ _ _, _, l, _ => by cases n <;> simp [D.lay] at l
theorem Reps.dps {K : PySem.W.Frag} {H : Hp} : ∀ (n : Nat) (ds : List D) (vs : List V), D.lays n ds = true → Reps K H ds vs → DpAll K H vs (D.pys ds)
  | _, [], _, _, h => by rw [show _ = [] from h]; exact .nil
  | n, d :: ds, _, l, ⟨v, r, h1, h2, h3⟩ => by
    simp only [D.lays, Bool.and_eq_true] at l
    rw [h1]
    exact .cons (Rep.dp n d v l.1 h2) (Reps.dps n ds r l.2 h3)
end
mutual
theorem D.depth_lay {K : PySem.W.Frag} {H : Hp} : ∀ (n : Nat) (d : D) (v : V), d.lay n = true → Rep K H d v → PyData.depth d.py ≤ n ∧ PyData.canLay0 d.py = true
  | _, .non, _, _, _ => ⟨Nat.zero_le _, rfl⟩
  | _, .bl _, _, _, _ => ⟨Nat.zero_le _, rfl⟩
  | _, .int _, _, _, _ => ⟨Nat.zero_le _, rfl⟩
  | _, .str x, _, _, h => ⟨Nat.zero_le _, by
    show PyData.strOk (tx x) = true
    unfold PyData.strOk tx
    rw [Array.all_eq_true']
    intro c hc
    exact decide_eq_true (h.2.2 c (by simpa using hc))⟩
  | 0, .tup _, _, l, _ => by simp [D.lay] at l
  | n + 1, .tup ds, _, l, ⟨a, vs, h1, h2, h3⟩ => by
    obtain ⟨q1, q2⟩ := D.depths_lay n ds vs (by simpa [D.lay] using l) h3
    exact ⟨Nat.succ_le_succ q1, q2⟩
  | 0, .lst _, _, l, _ => by simp [D.lay] at l
  | n + 1, .lst ds, _, l, ⟨a, vs, h1, h2, h3⟩ => by
    obtain ⟨q1, q2⟩ := D.depths_lay n ds vs (by simpa [D.lay] using l) h3
    exact ⟨Nat.succ_le_succ q1, q2⟩
  | n, .dct _ _, _, l, _ => by cases n <;> simp [D.lay] at l
  | n, .dcu _ _, _, l, _ => by cases n <;> simp [D.lay] at l
  | n, .ins _ _ _, _, l, _ => by cases n <;> simp [D.lay] at l
theorem D.depths_lay {K : PySem.W.Frag} {H : Hp} : ∀ (n : Nat) (ds : List D) (vs : List V), D.lays n ds = true → Reps K H ds vs → PyData.depthAll (D.pys ds) ≤ n ∧ PyData.canLayAll0 (D.pys ds) = true
  | _, [], _, _, _ => ⟨Nat.zero_le _, rfl⟩
  | n, d :: ds, _, l, ⟨v, r, h1, h2, h3⟩ => by
    simp only [D.lays, Bool.and_eq_true] at l
    obtain ⟨q1, q2⟩ := D.depth_lay n d v l.1 h2
    obtain ⟨q3, q4⟩ := D.depths_lay n ds r l.2 h3
    refine ⟨?_, ?_⟩
    · show max _ _ ≤ n
      omega
    · show (PyData.canLay0 d.py && PyData.canLayAll0 (D.pys ds)) = true
      rw [q2, q4]; rfl
end
theorem D.shaped {K : PySem.W.Frag} {H : Hp} {d : D} {v : V} (l : d.lay 64 = true) (h : Rep K H d v) : SeqAt.shaped d.py = true := by
  obtain ⟨q1, q2⟩ := D.depth_lay 64 d v l h
  unfold SeqAt.shaped
  rw [q2, decide_eq_true q1]; rfl
def oEq (a b : D) : Option Val := if a.lay 64 && b.lay 64 then some (.fz (.bl (D.eqv a b))) else none
def oNe (a b : D) : Option Val := if a.lay 64 && b.lay 64 then some (.fz (.bl (!D.eqv a b))) else none
theorem opEq (hu : X.A.units + 64 < cLine) : OpR X (compareOp .Eq) (rD X.K oEq) := by
  intro pins s σ H x y v u Q I rx ry ⟨E, F, st, σ', dx, dy, res, S, hx, hy, e, p⟩
  unfold oEq at e
  by_cases hl : (dx.lay 64 && dy.lay 64) = true
  · rw [if_pos hl] at e
    cases e
    rw [Bool.and_eq_true] at hl
    have r1 := hx.rep S.sub
    have r2 := hy.rep S.sub
    exact op_eqD hu pins s σ H _ _ v u Q I rx ry ⟨_, _, Rep.dp 64 _ _ hl.1 r1, Rep.dp 64 _ _ hl.2 r2, D.shaped hl.1 r1, D.shaped hl.2 r2, p.fz S (by rw [D.eqv_py 64 _ _ hl.1 hl.2]; rfl)⟩
  · rw [if_neg hl] at e; cases e
theorem opNe (hu : X.A.units + 64 < cLine) : OpR X (compareOp .NotEq) (rD X.K oNe) := by
  intro pins s σ H x y v u Q I rx ry ⟨E, F, st, σ', dx, dy, res, S, hx, hy, e, p⟩
  unfold oNe at e
  by_cases hl : (dx.lay 64 && dy.lay 64) = true
  · rw [if_pos hl] at e
    cases e
    rw [Bool.and_eq_true] at hl
    have r1 := hx.rep S.sub
    have r2 := hy.rep S.sub
    exact op_neD hu pins s σ H _ _ v u Q I rx ry ⟨_, _, Rep.dp 64 _ _ hl.1 r1, Rep.dp 64 _ _ hl.2 r2, D.shaped hl.1 r1, D.shaped hl.2 r2, p.fz S (by rw [D.eqv_py 64 _ _ hl.1 hl.2]; rfl)⟩
  · rw [if_neg hl] at e; cases e
end
end Vl
namespace Vl
open PySem PySem.Spec PyProof.Rows L2
/-! ## places, slices -/
def oIx : D → D → Option Val
  | .lst ds, .int i => (atI ds i).map .fz
  | .tup ds, .int i => (atI ds i).map .fz
  | .str x, .int i => (atI x i).map fun c => .fz (.str [c])
  | _, _ => none
def cut {α : Type} (xs : List α) (lo hi : Option Int) : List α := (xs.drop (HT.sIx xs.length 0 lo)).take (HT.sIx xs.length xs.length hi - HT.sIx xs.length 0 lo)
theorem cut_mem {α : Type} {xs : List α} {lo hi : Option Int} {c : α} (h : c ∈ cut xs lo hi) : c ∈ xs := List.mem_of_mem_drop (List.mem_of_mem_take h)
theorem cut_length_le {α : Type} (xs : List α) (lo hi : Option Int) : (cut xs lo hi).length ≤ xs.length := by
  unfold cut
  rw [List.length_take, List.length_drop]
  omega
def oSl (d : D) (lo hi : Option Int) : Option Val := match d with
  | .lst ds => some (.nw (.lst (cut ds lo hi)))
  | .str x => some (.fz (.str (cut x lo hi)))
  | .tup ds => some (.fz (.tup (cut ds lo hi)))
  | _ => none
theorem atI_reps {K : PySem.W.Frag} {F : Hp} {ds : List D} {vs : List V} {i : Int} {d : D} (h : Reps K F ds vs) (e : atI ds i = some d) : ∃ v, atI vs i = some v ∧ Rep K F d v := by
  unfold atI at e ⊢
  rw [h.length]
  cases q : ixN ds.length i with
  | none => rw [q] at e; cases e
  | some j =>
    rw [q] at e
    exact Reps.get (i := j) h e
theorem Reps.cut {K : PySem.W.Frag} {F : Hp} {ds : List D} {vs : List V} (lo hi : Option Int) (h : Reps K F ds vs) : Reps K F (cut ds lo hi) (cutV vs lo hi) := by
  unfold Vl.cut cutV
  rw [h.length]
  exact Reps.take _ (Reps.drop _ h)
section
variable {X : Cx} {W : Wx} {pos : Pos}
theorem opIx : IxR X (rD X.K oIx) := by
  intro value slice pins s σ H x y v u Q I rx ry ⟨E, F, st, σ', dx, dy, res, S, hx, hy, e, p⟩ hs
  cases dy with
  | int i =>
    have e2 := hy.int
    subst e2
    cases dx with
    | lst ds =>
      obtain ⟨a, vs, e1, h1, r1⟩ := hx.lst S.sub
      subst e1
      obtain ⟨d, e3, rfl⟩ := Option.map_eq_some_iff.mp e
      obtain ⟨w, e4, rw'⟩ := atI_reps r1 e3
      exact ix_list value slice pins s σ H _ _ v u Q I rx ry ⟨a, vs, i, w, rfl, rfl, h1, e4, p.fz S rw'⟩ hs
    | tup ds =>
      obtain ⟨a, vs, e1, h1, r1⟩ := hx.tup S.sub
      subst e1
      obtain ⟨d, e3, rfl⟩ := Option.map_eq_some_iff.mp e
      obtain ⟨w, e4, rw'⟩ := atI_reps r1 e3
      exact ix_tup value slice pins s σ H _ _ v u Q I rx ry ⟨a, vs, i, w, rfl, rfl, h1, e4, p.fz S rw'⟩ hs
    | str z =>
      obtain ⟨e1, ok⟩ := hx.str
      subst e1
      obtain ⟨c, e3, rfl⟩ := Option.map_eq_some_iff.mp e
      refine ix_str value slice pins s σ H _ _ v u Q I rx ry ⟨_, i, c, rfl, rfl, by rw [tx_length]; exact ok.1, ?_, p.fz S ⟨rfl, by show 1 ≤ sizeLine; decide, ?_⟩⟩ hs
      · show atI (z.toArray.toList) i = some c
        simpa using e3
      · intro c' hc
        have hc' : c' = c := by simpa using hc
        subst hc'
        obtain ⟨j, _, hj, _⟩ := atI_get e3
        exact ok.2 _ (List.mem_of_getElem? hj)
    | _ => cases e
  | _ => cases dx <;> cases e
abbrev VO := Sts → R (Option Int × Sts)
def vNoPart : VO := fun st => .ok (none, st)
def vPart (f : VE) : VO := fun st => (f st).bind fun p => match p with
  | (.fz (.int i), st') => .ok (some i, st')
  | _ => .no
def upO (K : PySem.W.Frag) (W : Wx) (f : VO) : TO := fun σ H Q => ∃ E F st, Sim K E F H st σ ∧ match f st with
  | .ok (r, st') => ∀ F' H', Same F F' → Same H H' → Sim K E F' H' st' σ → Q r H'
  | .exc c st' => ∀ F' H', Same F F' → Same H H' → Sim K E F' H' st' σ → W c σ H'
  | .no => False
abbrev DO (X : Cx) (W : Wx) (e : Option Expr) (f : VO) : Prop := PO X e (upO X.K W f)
theorem PO.imp {X : Cx} {e : Option Expr} {t t' : TO} (h : PO X e t) (k : ∀ σ H Q, t' σ H Q → t σ H Q) : PO X e t' := ⟨fun pins s σ H Q I q => h.run pins s σ H Q I (k _ _ _ q)⟩
theorem do_none : DO X W none vNoPart := PO.imp po_none fun σ H Q ⟨E, F, st, S, q⟩ => q F H (Same.refl _) (Same.refl _) S
theorem do_some {e : Expr} {f : VE} (h : DE X W e f) : DO X W (some e) (vPart f) := PO.imp (po_some h) fun σ H Q ⟨E, F, st, S, q⟩ => by
  refine upE_bind S (fun c st' e => ?_) (fun e => ?_) fun r st1 v F1 H1 e a b S1 vr => ?_
  · simp only [vPart, e, R.bind_exc] at q; exact q
  · simp only [vPart, e, R.bind_no] at q
  · simp only [vPart, e, R.bind_ok] at q
    cases r with
    | fz d =>
      cases d with
      | int i =>
        have vr : v = .int i := vr
        exact ⟨i, vr, q F1 H1 a b S1⟩
      | _ => exact q.elim
    | _ => exact q.elim
def vSl (f : VE) (l h : VO) : VE := fun st => (f st).bind fun p => (l p.2).bind fun q => (h q.2).bind fun r => give (oSl p.1.d q.1 r.1) r.2
def rDS (K : PySem.W.Frag) : V → Option Int → Option Int → Hp → VK → Prop := fun x lo hi H Q => ∃ (E : Ent) (F : Hp) (st : Sts) (σ : L2.St) (dx : D) (res : Val), Sim K E F H st σ ∧ ORel K F H dx x ∧ oSl dx lo hi = some res ∧ Post K E F H st σ res Q
theorem opSl : SlR X (rDS X.K) := by
  intro pins s σ H x v vl vu lo hi sl Q I rx hs pl pu ⟨E, F, st, σ', dx, res, S, hx, e, p⟩
  cases dx with
  | lst ds =>
    obtain ⟨a, vs, e1, h1, r1⟩ := hx.lst S.sub
    subst e1
    cases e
    exact sl_list pins s σ H _ v vl vu lo hi sl Q I rx hs pl pu ⟨a, vs, rfl, h1, fun q hq => p.newL S (r1.cut lo hi) q hq⟩
  | tup ds =>
    have hx2 := hx
    obtain ⟨a, vs, e1, h1, r1⟩ := hx2.tup S.sub
    subst e1
    cases e
    refine sl_tupA pins s σ H _ v vl vu lo hi sl Q I rx hs pl pu ⟨a, vs, rfl, h1, fun hw => ?_, fun hw q hq => p.newT S (r1.cut lo hi) q hq⟩
    rw [r1.length] at hw
    have ec : cut ds lo hi = ds := by
      unfold cut
      rw [hw.1, hw.2, List.drop_zero, Nat.sub_zero, List.take_length]
    rw [ec] at p
    rcases hx with h | ⟨m, _, _, e, _⟩
    · exact p.fz S h
    · cases m <;> cases e
  | str z =>
    obtain ⟨e1, ok⟩ := hx.str
    subst e1
    cases e
    refine sl_str pins s σ H _ v vl vu lo hi sl Q I rx hs pl pu ⟨_, rfl, by rw [tx_length]; exact ok.1, p.fz S ⟨?_, Nat.le_trans (cut_length_le _ _ _) ok.1, fun c hc => ok.2 c (cut_mem hc)⟩⟩
    show V.str (cutS (tx z) lo hi) = V.str (tx (cut z lo hi))
    unfold cutS cut
    rw [tx_length]
  | _ => cases e
theorem de_sl {e : Expr} {lo hi : Option Expr} {f : VE} {l h : VO} {p2 : Pos} (he : DE X W e f) (hl : DO X W lo l) (hh : DO X W hi h) : DE X W (.Subscript e (.Slice lo hi none p2) pos) (vSl f l h) := PE.imp (pe_slice opSl he hl hh) fun σ H Q ⟨E, F, st, S, q⟩ => by
  refine seqE S q fun r1 st1 v F1 H1 a b S1 vr k => ?_
  refine ⟨E, F1, st1, S1, ?_⟩
  dsimp only at k
  cases e1 : l st1 with
  | no => rw [e1] at k; exact k
  | exc c st' => rw [e1] at k; exact k
  | ok pr =>
    rw [e1, R.bind_ok] at k
    intro F2 H2 a2 b2 S2
    refine ⟨E, F2, pr.2, S2, ?_⟩
    cases e2 : h pr.2 with
    | no => rw [e2] at k; exact k
    | exc c st' =>
      rw [e2] at k
      exact fun F3 H3 a3 b3 => k F3 H3 (a2.trans a3) (b2.trans b3)
    | ok pr2 =>
      rw [e2, R.bind_ok] at k
      intro F3 H3 a3 b3 S3
      cases e3 : oSl r1.d pr.1 pr2.1 with
      | none => rw [e3] at k; exact k.elim
      | some res =>
        rw [e3] at k
        exact ⟨E, F3, pr2.2, σ, r1.d, res, S3, ORel.mono (a2.trans a3) (b2.trans b3) (VRel.o S1 vr), e3, fun w F4 H4 a4 b4 => k w F4 H4 ((a2.trans a3).trans a4) ((b2.trans b3).trans b4)⟩

/-! ## in -/
def inStr (a b : List Nat) : Bool := match a with
  | [c] => decide (c ∈ b)
  | _ => !(Builtin.Str.occurrences (tx b) (tx a) 0 (tx b).length 1).isEmpty
def D.flat1 : D → Bool
  | .non => true | .bl _ => true | .int _ => true | .str _ => true | _ => false
def inSeq (x : D) (ds : List D) : Bool := ds.any fun y => D.eqv y x
def oIn : D → D → Option Val
  | .str a, .str b => some (.fz (.bl (inStr a b)))
  | x, .lst ds => if x.lay 64 && D.lays 63 ds then some (.fz (.bl (inSeq x ds))) else none
  | x, .tup ds => if x.flat1 && ds.all D.flat1 then some (.fz (.bl (inSeq x ds))) else none
  | _, _ => none
def oNotIn : D → D → Option Val
  | .str a, .str b => some (.fz (.bl (!inStr a b)))
  | x, .lst ds => if x.lay 64 && D.lays 63 ds then some (.fz (.bl (!inSeq x ds))) else none
  | x, .tup ds => if x.flat1 && ds.all D.flat1 then some (.fz (.bl (!inSeq x ds))) else none
  | _, _ => none
theorem pys_any (x : D) (hx : x.lay 64 = true) : ∀ ds : List D, D.lays 63 ds = true → ((D.pys ds).any fun z => PyData.eqv z x.py) = inSeq x ds
  | [], _ => rfl
  | d :: ds, h => by
    simp only [D.lays, Bool.and_eq_true] at h
    have hd : d.lay 64 = true := by
      have mono : ∀ (n : Nat) (d : D), d.lay n = true → d.lay (n + 1) = true := by
        intro n d
        revert n
        refine D.rec (motive_1 := fun d => ∀ n, d.lay n = true → d.lay (n + 1) = true) (motive_2 := fun ds => ∀ n, D.lays n ds = true → D.lays (n + 1) ds = true) ?_ ?_ ?_ ?_ ?_ ?_ ?_ ?_ ?_ ?_ ?_ d
        · intro n _; simp [D.lay]
        · intro b n _; simp [D.lay]
        · intro b n _; simp [D.lay]
        · intro b n _; simp [D.lay]
        · intro ds ih n h
          cases n with
          | zero => simp [D.lay] at h
          | succ n => simp only [D.lay] at h ⊢; exact ih n h
        · intro ds ih n h
          cases n with
          | zero => simp [D.lay] at h
          | succ n => simp only [D.lay] at h ⊢; exact ih n h
        · intro ks vs _ _ n h
          cases n <;> simp [D.lay] at h
        · intro ks vs _ _ n h
          cases n <;> simp [D.lay] at h
        · intro c ks vs _ n h
          cases n <;> simp [D.lay] at h
        · intro n _; rfl
        · intro d ds ih1 ih2 n h
          simp only [D.lays, Bool.and_eq_true] at h ⊢
          exact ⟨ih1 n h.1, ih2 n h.2⟩
      exact mono 63 d h.1
    show (PyData.eqv d.py x.py || (D.pys ds).any fun z => PyData.eqv z x.py) = (D.eqv d x || inSeq x ds)
    rw [D.eqv_py 64 d x hd hx, pys_any x hx ds h.2]
theorem flat_eqV {K : PySem.W.Frag} {H : Hp} : ∀ {d e : D} {v w : V}, d.flat1 = true → e.flat1 = true → Rep K H d v → Rep K H e w → eqV v w = D.eqv d e ∧ flatV v = true := by
  intro d e v w hd he rd re
  cases d <;> first | cases hd | skip
  all_goals cases e <;> first | cases he | skip
  all_goals
    first | (have rd := show _ = _ from rd; subst rd) | (obtain ⟨rd, _⟩ := rd; subst rd)
    first | (have re := show _ = _ from re; subst re) | (obtain ⟨re, _⟩ := re; subst re)
    first
    | exact ⟨rfl, rfl⟩
    | exact ⟨tx_beq _ _, rfl⟩
theorem flat_in {K : PySem.W.Frag} {H : Hp} {x : D} {v : V} (hx : x.flat1 = true) (rx : Rep K H x v) : ∀ {ds : List D} {vs : List V}, ds.all D.flat1 = true → Reps K H ds vs → inV v vs = inSeq x ds ∧ vs.all flatV = true
  | [], _, _, h => by rw [show _ = [] from h]; exact ⟨rfl, rfl⟩
  | d :: ds, _, hd, ⟨w, r, h1, h2, h3⟩ => by
    rw [List.all_cons, Bool.and_eq_true] at hd
    obtain ⟨q1, q2⟩ := flat_in hx rx hd.2 h3
    obtain ⟨q3, q4⟩ := flat_eqV hd.1 hx h2 rx
    subst h1
    refine ⟨?_, by rw [List.all_cons, q4, q2]; rfl⟩
    show (eqV w v || inV v r) = (D.eqv d x || inSeq x ds)
    rw [q3, q1]
theorem D.lay_lst {ds : List D} (h : D.lays 63 ds = true) : (D.lst ds).lay 64 = true := h
theorem inStr_one {K : PySem.W.Frag} : True := trivial
theorem opIn (hu : X.A.units + 65 < cLine) : OpR X (compareOp .In) (rD X.K oIn) := by
  intro pins s σ H x y v u Q I rx ry ⟨E, F, st, σ', dx, dy, res, S, hx, hy, e, p⟩
  cases dy with
  | str b =>
    cases dx with
    | str a =>
      obtain ⟨e1, _⟩ := hx.str
      obtain ⟨e2, _⟩ := hy.str
      subst e1 e2
      cases e
      match a with
      | [c] => exact op_in_sign pins s σ H _ _ v u Q I rx ry ⟨c, _, rfl, rfl, p.fz S (by show V.bl _ = V.bl _; simp [inStr])⟩
      | [] => exact op_in_str pins s σ H _ _ v u Q I rx ry ⟨_, _, rfl, rfl, p.fz S rfl⟩
      | c :: c' :: r => exact op_in_str pins s σ H _ _ v u Q I rx ry ⟨_, _, rfl, rfl, p.fz S rfl⟩
    | _ => cases e
  | lst ds =>
    have e' : (if dx.lay 64 && D.lays 63 ds then some (Val.fz (.bl (inSeq dx ds))) else none) = some res := by cases dx <;> exact e
    by_cases hl : (dx.lay 64 && D.lays 63 ds) = true
    · rw [if_pos hl] at e'
      cases e'
      rw [Bool.and_eq_true] at hl
      have r1 := hx.rep S.sub
      have r2 := hy.rep S.sub
      exact op_inD hu pins s σ H _ _ v u Q I rx ry ⟨_, _, Rep.dp 64 _ _ hl.1 r1, Rep.dp 64 _ _ (D.lay_lst hl.2) r2, D.shaped hl.1 r1, D.shaped (D.lay_lst hl.2) r2, p.fz S (by rw [pys_any dx hl.1 ds hl.2]; rfl)⟩
    · rw [if_neg hl] at e'; cases e'
  | tup ds =>
    have e' : (if dx.flat1 && ds.all D.flat1 then some (Val.fz (.bl (inSeq dx ds))) else none) = some res := by cases dx <;> exact e
    by_cases hl : (dx.flat1 && ds.all D.flat1) = true
    · rw [if_pos hl] at e'
      cases e'
      rw [Bool.and_eq_true] at hl
      have r1 := hx.rep S.sub
      obtain ⟨a, vs, e2, h2, r2⟩ := hy.tup S.sub
      obtain ⟨q1, q2⟩ := flat_in hl.1 r1 hl.2 (Reps.mono S.sub _ _ r2)
      subst e2
      have q3 : flatV x = true := (flat_eqV hl.1 (e := .non) rfl r1 (show V.non = V.non from rfl)).2
      exact op_in_seq pins s σ H _ _ v u Q I rx ry ⟨a, vs, rfl, .inr h2, q3, q2, p.fz S (by rw [if_neg Bool.false_ne_true, q1]; rfl)⟩
    · rw [if_neg hl] at e'; cases e'
  | _ => cases dx <;> cases e
theorem opNotIn (hu : X.A.units + 65 < cLine) : OpR X (compareOp .NotIn) (rD X.K oNotIn) := by
  intro pins s σ H x y v u Q I rx ry ⟨E, F, st, σ', dx, dy, res, S, hx, hy, e, p⟩
  cases dy with
  | str b =>
    cases dx with
    | str a =>
      obtain ⟨e1, _⟩ := hx.str
      obtain ⟨e2, _⟩ := hy.str
      subst e1 e2
      cases e
      match a with
      | [c] => exact op_notIn_sign pins s σ H _ _ v u Q I rx ry ⟨c, _, rfl, rfl, p.fz S (by show V.bl _ = V.bl _; simp [inStr])⟩
      | [] => exact L2.op_notIn_str pins s σ H _ _ v u Q I rx ry ⟨_, _, rfl, rfl, p.fz S rfl⟩
      | c :: c' :: r => exact L2.op_notIn_str pins s σ H _ _ v u Q I rx ry ⟨_, _, rfl, rfl, p.fz S rfl⟩
    | _ => cases e
  | lst ds =>
    have e' : (if dx.lay 64 && D.lays 63 ds then some (Val.fz (.bl (!inSeq dx ds))) else none) = some res := by cases dx <;> exact e
    by_cases hl : (dx.lay 64 && D.lays 63 ds) = true
    · rw [if_pos hl] at e'
      cases e'
      rw [Bool.and_eq_true] at hl
      have r1 := hx.rep S.sub
      have r2 := hy.rep S.sub
      exact op_notInD hu pins s σ H _ _ v u Q I rx ry ⟨_, _, Rep.dp 64 _ _ hl.1 r1, Rep.dp 64 _ _ (D.lay_lst hl.2) r2, D.shaped hl.1 r1, D.shaped (D.lay_lst hl.2) r2, p.fz S (by rw [pys_any dx hl.1 ds hl.2]; rfl)⟩
    · rw [if_neg hl] at e'; cases e'
  | tup ds =>
    have e' : (if dx.flat1 && ds.all D.flat1 then some (Val.fz (.bl (!inSeq dx ds))) else none) = some res := by cases dx <;> exact e
    by_cases hl : (dx.flat1 && ds.all D.flat1) = true
    · rw [if_pos hl] at e'
      cases e'
      rw [Bool.and_eq_true] at hl
      have r1 := hx.rep S.sub
      obtain ⟨a, vs, e2, h2, r2⟩ := hy.tup S.sub
      obtain ⟨q1, q2⟩ := flat_in hl.1 r1 hl.2 (Reps.mono S.sub _ _ r2)
      subst e2
      have q3 : flatV x = true := (flat_eqV hl.1 (e := .non) rfl r1 (show V.non = V.non from rfl)).2
      exact op_notIn_seq pins s σ H _ _ v u Q I rx ry ⟨a, vs, rfl, .inr h2, q3, q2, p.fz S (by rw [if_pos rfl, q1]; rfl)⟩
    · rw [if_neg hl] at e'; cases e'
  | _ => cases dx <;> cases e
/-! ## built-ins -/
def oLen : List D → Option Val
  | [.lst ds] => some (.fz (.int ds.length))
  | [.tup ds] => some (.fz (.int ds.length))
  | [.str x] => some (.fz (.int x.length))
  | _ => none
theorem ORels.one {K : PySem.W.Frag} {F H : Hp} {d : D} {vs : List V} (h : ORels K F H [d] vs) : ∃ v, vs = [v] ∧ ORel K F H d v := by
  obtain ⟨v, us, h1, h2, h3⟩ := h
  rw [show us = [] from h3] at h1
  exact ⟨v, h1, h2⟩
theorem ORels.two {K : PySem.W.Frag} {F H : Hp} {d e : D} {vs : List V} (h : ORels K F H [d, e] vs) : ∃ v w, vs = [v, w] ∧ ORel K F H d v ∧ ORel K F H e w := by
  obtain ⟨v, us, h1, h2, h3⟩ := h
  obtain ⟨w, e1, e2⟩ := h3.one
  rw [e1] at h1
  exact ⟨v, w, h1, h2, e2⟩
theorem callLen : CallR X (.builtin "len") (rDN X.K oLen) := by
  intro pins s σ H xs us Q I r ⟨E, F, st, σ', ds, res, S, hx, e, p⟩
  match ds, e with
  | [.lst es], e =>
    obtain ⟨v, rfl, h⟩ := hx.one
    obtain ⟨a, vs, rfl, h1, r1⟩ := h.lst S.sub
    cases e
    exact call_len pins s σ H _ us Q I r ⟨_, es.length, rfl, .inl ⟨vs, h1, r1.length.symm⟩, p.fz S rfl⟩
  | [.tup es], e =>
    obtain ⟨v, rfl, h⟩ := hx.one
    obtain ⟨a, vs, rfl, h1, r1⟩ := h.tup S.sub
    cases e
    exact call_len pins s σ H _ us Q I r ⟨_, es.length, rfl, .inr ⟨vs, h1, r1.length.symm⟩, p.fz S rfl⟩
  | [.str z], e =>
    obtain ⟨v, rfl, h⟩ := hx.one
    obtain ⟨rfl, ok⟩ := h.str
    cases e
    exact call_len pins s σ H _ us Q I r ⟨_, z.length, rfl, ⟨by rw [tx_length]; exact ok.1, (tx_length z).symm⟩, p.fz S rfl⟩
def oInt : List D → Option Val
  | [.int i] => some (.fz (.int i))
  | [.bl b] => some (.fz (.int (if b then 1 else 0)))
  | _ => none
theorem callInt : CallR X (.type "int") (rDN X.K oInt) := by
  intro pins s σ H xs us Q I r ⟨E, F, st, σ', ds, res, S, hx, e, p⟩
  match ds, e with
  | [.int i], e =>
    obtain ⟨v, rfl, h⟩ := hx.one
    have h := h.int
    subst h
    cases e
    exact call_int1 pins s σ H _ us Q I r (.inl ⟨i, rfl, p.fz S rfl⟩)
  | [.bl b], e =>
    obtain ⟨v, rfl, h⟩ := hx.one
    have h := h.bl
    subst h
    cases e
    exact call_int1 pins s σ H _ us Q I r (.inr ⟨b, rfl, p.fz S rfl⟩)
def oTuple : List D → Option Val
  | [.lst ds] => some (.fz (.tup ds))
  | [.tup ds] => some (.fz (.tup ds))
  | _ => none
theorem callTuple : CallR X (.type "tuple") (rDN X.K oTuple) := by
  intro pins s σ H xs us Q I r ⟨E, F, st, σ', ds, res, S, hx, e, p⟩
  match ds, e with
  | [.lst es], e =>
    obtain ⟨v, rfl, h⟩ := hx.one
    obtain ⟨a, vs, rfl, h1, r1⟩ := h.lst S.sub
    cases e
    exact call_tuple_of pins s σ H _ us Q I r ⟨a, vs, rfl, .inl ⟨h1, fun q hq => p.newT S r1 q hq⟩⟩
  | [.tup es], e =>
    obtain ⟨v, rfl, h⟩ := hx.one
    have h' := h
    obtain ⟨a, vs, rfl, h1, r1⟩ := h'.tup S.sub
    cases e
    rcases h with h | ⟨m, _, _, e, _⟩
    · exact call_tuple_of pins s σ H _ us Q I r ⟨a, vs, rfl, .inr ⟨h1, p.fz S h⟩⟩
    · cases m <;> cases e
def oList : List D → Option Val
  | [.lst ds] => some (.nw (.lst ds))
  | [.tup ds] => some (.nw (.lst ds))
  | _ => none
theorem callList : CallR X (.type "list") (rDN X.K oList) := by
  intro pins s σ H xs us Q I r ⟨E, F, st, σ', ds, res, S, hx, e, p⟩
  match ds, e with
  | [.lst es], e =>
    obtain ⟨v, rfl, h⟩ := hx.one
    obtain ⟨a, vs, rfl, h1, r1⟩ := h.lst S.sub
    cases e
    exact call_list_of pins s σ H _ us Q I r ⟨a, vs, rfl, .inl h1, fun q hq => p.newL S r1 q hq⟩
  | [.tup es], e =>
    obtain ⟨v, rfl, h⟩ := hx.one
    obtain ⟨a, vs, rfl, h1, r1⟩ := h.tup S.sub
    cases e
    exact call_list_of pins s σ H _ us Q I r ⟨a, vs, rfl, .inr h1, fun q hq => p.newL S r1 q hq⟩
theorem de_callB {x : Str} {p pos : Pos} {e : Expr} {es : List Expr} {id : String} {o : List D → Option Val} {f : VA} (hc : CallR X (.builtin id) (rDN X.K o)) (hg : Gl X x) (hm : X.mg x = none) (hv : bootBuiltins x = some (.builtin id)) (ha : DA X W (e :: es) f)
    (hn : x ≠ "__name__" := by decide) (hdb : (x == ("__debug__" : Str)) = false := by decide) (he : starEach (e :: es) X.env = (false, eval e X.env) :: starEach es X.env := by rfl) (hpl : (backTo pos (starEach es X.env)).any (·.1) = false := by rfl) :
    DE X W (.Call (.Name x p) (e :: es) [] pos) (vN o f) := PE.imp (pe_callB hc hg hm hv ha hn hdb he hpl) (up_vN opN_rD)
theorem de_callTy {x : Str} {p pos : Pos} {e : Expr} {es : List Expr} {id : String} {o : List D → Option Val} {f : VA} (hc : CallR X (.type id) (rDN X.K o)) (hg : Gl X x) (hm : X.mg x = none) (hv : bootBuiltins x = some (.type id)) (ha : DA X W (e :: es) f)
    (hn : x ≠ "__name__" := by decide) (hdb : (x == ("__debug__" : Str)) = false := by decide) (he : starEach (e :: es) X.env = (false, eval e X.env) :: starEach es X.env := by rfl) (hpl : (backTo pos (starEach es X.env)).any (·.1) = false := by rfl) :
    DE X W (.Call (.Name x p) (e :: es) [] pos) (vN o f) := PE.imp (pe_callTy hc hg hm hv ha hn hdb he hpl) (up_vN opN_rD)
/-- isinstance -/
inductive Ty where
  | int | bool | str | tuple | list | dict
  deriving DecidableEq
def Ty.n : Ty → String
  | .int => "int" | .bool => "bool" | .str => "str" | .tuple => "tuple" | .list => "list" | .dict => "dict"
def isT : Ty → D → Bool
  | .int, .int _ => true
  | .int, .bl _ => true
  | .bool, .bl _ => true
  | .str, .str _ => true
  | .tuple, .tup _ => true
  | .list, .lst _ => true
  | .dict, .dct _ _ => true
  | .dict, .dcu _ _ => true
  | _, _ => false
def vIsi (T : Ty) (f : VE) : VE := fun st => (f st).bind fun p => .ok (.fz (.bl (isT T p.1.d)), p.2)
def tyD : D → String
  | .non => "NoneType" | .bl _ => "bool" | .int _ => "int" | .str _ => "str" | .tup _ => "tuple" | .lst _ => "list" | .dct _ _ => "dict" | .dcu _ _ => "dict" | .ins _ _ _ => ""
def D.isIns : D → Bool
  | .ins _ _ _ => true
  | _ => false
theorem kit_isT0 (T : Ty) (d : D) (h : d.isIns = false) : kitB (tyD d) T.n = some (isT T d) := by
  cases T <;> cases d <;> first | (cases h; done) | (dsimp only [tyD, Ty.n, isT]; decide +kernel)
/-- the type of a thing answers as isT says -/
def TyIs (K : PySem.W.Frag) (d : D) (t : Value) : Prop := ∀ T : Ty, PySem.W.kitOne K t (.type T.n) = some (isT T d)
theorem TyIs.of {K : PySem.W.Frag} {d : D} (h : d.isIns = false) : TyIs K d (.type (tyD d)) := fun T => kit_ty (kit_isT0 T d h)
theorem ORel.ty0 {K : PySem.W.Frag} {F H : Hp} (s : Same F H) : ∀ {d : D} {v : V}, d.isIns = false → ORel K F H d v → TyX K H v (.type (tyD d))
  | .ins _ _ _, v, hi, h => by cases hi
  | .non, v, _, h => by rw [h.non]; exact .base .non
  | .bl b, v, _, h => by rw [h.bl]; exact .base (.bl b)
  | .int b, v, _, h => by rw [h.int]; exact .base (.int b)
  | .str b, v, _, h => by rw [h.str.1]; exact .base (.str _)
  | .tup b, v, _, h => by
    obtain ⟨a, vs, rfl, h1, _⟩ := h.tup s
    rcases h1 with (h1 | ⟨o, h1⟩) | ⟨o, its, n, hk, hc, _⟩
    · exact .base (.tup h1)
    · exact .fTuple h1
    · exact .kTuple hk hc
  | .lst b, v, _, h => by
    obtain ⟨a, vs, rfl, h1, _⟩ := h.lst s
    rcases h1 with (h1 | ⟨o, h1⟩) | ⟨o, its, n, hk, hc, _⟩
    · exact .base (.lst h1)
    · exact .base (.frz h1)
    · exact .kList hk hc
  | .dct b c, v, _, h => by
    rcases h with ⟨a, kvs, rfl, h1, _⟩ | ⟨m, a, o, e, rfl, h1, h2⟩
    · rcases Same.rd s h1 with h1 | ⟨o, h1⟩
      · exact .base (.dK h1)
      · exact .fDict h1
    · cases m with
      | lst ds => cases e
      | dcu ks vs => cases e
      | dct ks vs =>
        obtain ⟨kvs, rfl, _⟩ := h2
        exact .base (.dK h1)
  | .dcu b c, v, _, h => by
    rcases h with ⟨a, kvs, rfl, h1, _⟩ | ⟨m, a, o, e, rfl, h1, h2⟩
    · exact .base (.dT (s _ _ h1))
    · cases m with
      | lst ds => cases e
      | dct ks vs => cases e
      | dcu ks vs =>
        obtain ⟨kvs, rfl, _⟩ := h2
        exact .base (.dT h1)
theorem ORel.ty {K : PySem.W.Frag} {F H : Hp} (s : Same F H) {d : D} {v : V} (h : ORel K F H d v) : ∃ t, TyX K H v t ∧ TyIs K d t := by
  cases hi : d.isIns with
  | false => exact ⟨_, h.ty0 s hi, TyIs.of hi⟩
  | true =>
    cases d with
    | ins n ks fs =>
      rcases h with ⟨a, C, dx, vs, rfl, h1, h2, _⟩ | ⟨m, a, o, e, _⟩
      · refine ⟨.ref C, .base (.ins (s _ _ h2) h1.cl h1.ha h1.hn h1.htk h1.hm), fun T => ?_⟩
        cases T
        · exact h1.is1
        · exact h1.is2
        · exact h1.is3
        · exact h1.is4
        · exact h1.is5
        · exact h1.is6
      · cases m <;> cases e
    | _ => cases hi
def rIsT (K : PySem.W.Frag) (T : Ty) : List V → Hp → VK → Prop := fun xs H Q => ∃ (E : Ent) (F : Hp) (st : Sts) (σ : L2.St) (d : D) (v : V), xs = [v, .ty T.n] ∧ Sim K E F H st σ ∧ ORel K F H d v ∧ Q (.bl (isT T d)) H
theorem callIsT (T : Ty) : CallR X (.builtin "isinstance") (rIsT X.K T) := by
  intro pins s σ H xs us Q I r ⟨E, F, st, σ', d, v, e, S, h, q⟩
  obtain ⟨t, ty, is⟩ := h.ty S.sub
  exact call_isi pins s σ H xs us Q I r ⟨v, .ty T.n, t, .type T.n, isT T d, e, .ty _, ty, is T, q⟩
theorem de_isi {e : Expr} {f : VE} {x : Str} {p p2 pos : Pos} (T : Ty) (hg : Gl X "isinstance") (hm : X.mg "isinstance" = none) (hg2 : Gl X x) (hm2 : X.mg x = none) (hv : bootBuiltins x = some (.type T.n)) (he : DE X W e f)
    (hn : x ≠ "__name__" := by decide) (hdb : (x == ("__debug__" : Str)) = false := by decide) (hst : starEach [e, .Name x p2] X.env = (false, eval e X.env) :: starEach [.Name x p2] X.env := by rfl) :
    DE X W (.Call (.Name "isinstance" p) [e, .Name x p2] [] pos) (vIsi T f) := by
  refine PE.imp (pe_callB (callIsT T) hg hm boot_isinstance (pa_cons he (pa_cons (pe_bltn (v := .ty T.n) hg2 hm2 hv rfl hn hdb) pa_nil) hst) (by decide) (by decide) hst rfl) fun σ H Q ⟨E, F, st, S, q⟩ => ?_
  refine seqE S q fun r st1 v F1 H1 a b S1 vr k => ?_
  exact ⟨E, F1, st1, σ, r.d, v, rfl, S1, VRel.o S1 vr, k _ F1 H1 (Same.refl _) (Same.refl _) S1 rfl⟩
end
end Vl
namespace Vl
open PySem PySem.Spec PyProof.Rows L2
/-! ## calls of defs -/
mutual
/-- no list and no dict within -/
def D.noL : D → Bool
  | .non => true
  | .bl _ => true
  | .int _ => true
  | .str _ => true
  | .tup ds => D.noLs ds
  | .lst _ => false
  | .dct _ _ => false
  | .dcu _ _ => false
  | .ins _ _ _ => false
def D.noLs : List D → Bool
  | [] => true
  | d :: ds => d.noL && D.noLs ds
end
def M.noL : M → Bool
  | .lst ds => D.noLs ds
  | .dct ks vs => D.noLs ks && D.noLs vs
  | .dcu _ vs => D.noLs vs
def Val.flat : Val → Bool
  | .fz d => d.noL
  | .nw m => m.noL
  | .pk _ _ => false
def Val.isPk : Val → Bool
  | .pk _ _ => true
  | _ => false
def Val.isNw : Val → Bool
  | .nw _ => true
  | _ => false
abbrev Fn := List D → R Val
def RRel (K : PySem.W.Frag) (H F' H' : Hp) : Val → V → Prop
  | .fz d, v => Rep K F' d v
  | .nw m, v => ∃ p o, v = .ref p ∧ F' p = none ∧ H p = none ∧ H' p = some o ∧ MAt K F' m o
  | .pk _ _, _ => False
/-- what a def promises: on data it does run -/
def spF (K : PySem.W.Frag) (cls : Nat → Value) (run : Fn) : Sp := fun vs H Q E => ∃ F ds, Same F H ∧ Reps K F ds vs ∧ match run ds with
  | .ok r => ∀ v F' H', Same F F' → Same H H' → Same F' H' → (∀ a o, F' a = some o → F a = some o ∨ Fre H a o) → RRel K H F' H' r v → Q v H'
  | .exc c _ => ∀ H', Same H H' → E (cls c) none H'
  | .no => False
def callEnd (res : R Val) (rs : List Val) (st : Sts) : R (Val × Sts) := if rs.any Val.isNw then .no else match res with
  | .ok r => if rs.any Val.isPk && !r.flat then .no else .ok (r, st)
  | _ => .no
def vCall (run : Fn) (f : VA) : VE := fun st => (f st).bind fun p => callEnd (run (p.1.map Val.d)) p.1 p.2
def lent : List Val → List V → Addr → Bool
  | .pk _ _ :: rs, .ref a :: vs, b => decide (b = a) || lent rs vs b
  | _ :: rs, _ :: vs, b => lent rs vs b
  | _, _, _ => false
section
variable {K : PySem.W.Frag} {F F1 H : Hp}
theorem lent_at : ∀ {rs : List Val} {vs : List V} {b : Addr}, ARels K F H rs vs → lent rs vs b = true → ∃ o m, H b = some o ∧ MAt K F m o
  | [], _, _, _, h => by cases h
  | .fz d :: rs, _, b, ⟨v, us, e, h1, h2⟩, h => by subst e; exact lent_at h2 (by simpa [lent] using h)
  | .nw m :: rs, _, b, ⟨v, us, e, h1, h2⟩, h => by subst e; exact lent_at h2 (by simpa [lent] using h)
  | .pk i m :: rs, _, b, ⟨v, us, e, ⟨a, o, e1, e2, e3⟩, h2⟩, h => by
    subst e e1
    simp only [lent, Bool.or_eq_true, decide_eq_true_eq] at h
    rcases h with h | h
    · subst h; exact ⟨o, m, e2, e3⟩
    · exact lent_at h2 h
theorem lent_reps (s : Same F F1) : ∀ {rs : List Val} {vs : List V}, ARels K F H rs vs → rs.any Val.isNw = false → (∀ b, lent rs vs b = true → F1 b = H b) → Reps K F1 (rs.map Val.d) vs
  | [], _, h, _, _ => h
  | .fz d :: rs, _, ⟨v, us, e, h1, h2⟩, hn, hl => by
    subst e
    exact ⟨v, us, rfl, Rep.mono s _ _ h1, lent_reps s h2 (by simpa [Val.isNw] using hn) fun b hb => hl b (by simpa [lent] using hb)⟩
  | .nw m :: rs, _, _, hn, _ => by simp [Val.isNw] at hn
  | .pk i m :: rs, _, ⟨v, us, e, ⟨a, o, e1, e2, e3⟩, h2⟩, hn, hl => by
    subst e e1
    refine ⟨_, us, rfl, (e3.mono s).rep (by rw [hl a (by simp [lent])]; exact e2), lent_reps s h2 (by simpa [Val.isNw] using hn) fun b hb => hl b (by simp [lent, hb])⟩
theorem lent_none : ∀ {rs : List Val} {vs : List V} {b : Addr}, rs.any Val.isPk = false → lent rs vs b = false
  | [], [], _, _ => rfl
  | [], _ :: _, _, _ => rfl
  | .fz d :: rs, [], _, _ => rfl
  | .nw d :: rs, [], _, _ => rfl
  | .pk d _ :: rs, [], _, h => by simp [Val.isPk] at h
  | .fz d :: rs, v :: vs, b, h => by
    have : lent (.fz d :: rs) (v :: vs) b = lent rs vs b := by cases v <;> rfl
    rw [this]; exact lent_none (by simpa [Val.isPk] using h)
  | .nw d :: rs, v :: vs, b, h => by
    have : lent (.nw d :: rs) (v :: vs) b = lent rs vs b := by cases v <;> rfl
    rw [this]; exact lent_none (by simpa [Val.isPk] using h)
  | .pk d _ :: rs, _ :: _, _, h => by simp [Val.isPk] at h
/-- flat data leans on tuples alone -/
theorem Rep.flat {F2 F3 : Hp} (s : ∀ (b : Addr) (xs : List V), F2 b = some (.tup xs) → F3 b = some (.tup xs)) : ∀ (d : D) (v : V), d.noL = true → Rep K F2 d v → Rep K F3 d v := by
  intro d
  refine D.rec (motive_1 := fun d => ∀ v, d.noL = true → Rep K F2 d v → Rep K F3 d v) (motive_2 := fun ds => ∀ vs, D.noLs ds = true → Reps K F2 ds vs → Reps K F3 ds vs) ?_ ?_ ?_ ?_ ?_ ?_ ?_ ?_ ?_ ?_ ?_ d
  · exact fun _ _ h => h
  · exact fun _ _ _ h => h
  · exact fun _ _ _ h => h
  · exact fun _ _ _ h => h
  · exact fun ds ih v l ⟨a, vs, h1, h2, h3⟩ => ⟨a, vs, h1, s _ _ h2, ih vs l h3⟩
  · intro ds ih v l; cases l
  · intro ks vs _ _ v l; cases l
  · intro ks vs _ _ v l; cases l
  · intro n ks vs _ v l; cases l
  · exact fun _ _ h => h
  · intro d ds ih1 ih2 vs l ⟨v, r, h1, h2, h3⟩
    have l' : (d.noL && D.noLs ds) = true := l
    rw [Bool.and_eq_true] at l'
    exact ⟨v, r, h1, ih1 v l'.1 h2, ih2 r l'.2 h3⟩
theorem Reps.flat {F2 F3 : Hp} (s : ∀ (b : Addr) (xs : List V), F2 b = some (.tup xs) → F3 b = some (.tup xs)) : ∀ (ds : List D) (vs : List V), D.noLs ds = true → Reps K F2 ds vs → Reps K F3 ds vs
  | [], _, _, h => h
  | d :: ds, _, l, ⟨v, r, h1, h2, h3⟩ => by
    have l' : (d.noL && D.noLs ds) = true := l
    rw [Bool.and_eq_true] at l'
    exact ⟨v, r, h1, Rep.flat s d v l'.1 h2, Reps.flat s ds r l'.2 h3⟩
theorem MAt.flat {F2 F3 : Hp} (s : ∀ (b : Addr) (xs : List V), F2 b = some (.tup xs) → F3 b = some (.tup xs)) {m : M} {o : HO} (l : m.noL = true) (h : MAt K F2 m o) : MAt K F3 m o := by
  cases m with
  | lst ds => obtain ⟨vs, h1, h2⟩ := h; exact ⟨vs, h1, Reps.flat s _ _ l h2⟩
  | dcu ks ds => obtain ⟨kvs, h1, h2, h3⟩ := h; exact ⟨kvs, h1, h2, Reps.flat s _ _ l h3⟩
  | dct ks ds =>
    obtain ⟨kvs, h1, h2, h3⟩ := h
    have l' : (D.noLs ks && D.noLs ds) = true := l
    rw [Bool.and_eq_true] at l'
    exact ⟨kvs, h1, Reps.flat s _ _ l'.1 h2, Reps.flat s _ _ l'.2 h3⟩
end
section
variable {X : Cx} {W : Wx} {pos p : Pos}
/-- behind a call: what was lent comes back -/
theorem call_back {K : PySem.W.Frag} {E : Ent} {F1 H1 F2 H2 : Hp} {st : Sts} {σ : L2.St} {rs : List Val} {vs : List V} {r : Val} {v : V} (S1 : Sim K E F1 H1 st σ) (ar : ARels K F1 H1 rs vs)
    (hfl : rs.any Val.isPk = false ∨ r.flat = true) (sF : Same (fun b => match F1 b with | some o => some o | none => if lent rs vs b then H1 b else none) F2) (sH : Same H1 H2) (s2 : Same F2 H2)
    (gr : ∀ a o, F2 a = some o → (fun b => match F1 b with | some o => some o | none => if lent rs vs b then H1 b else none) a = some o ∨ Fre H1 a o) (rr : RRel K H1 F2 H2 r v) :
    ∃ F3, Same F1 F3 ∧ Sim K E F3 H2 st σ ∧ VRel K E F3 H2 st σ r v := by
  have s12 : Same F1 F2 := fun b o e => sF b o (by show (match F1 b with | some o => some o | none => _) = _; rw [e])
  let F3 : Hp := fun b => match F1 b with | some o => F2 b | none => match H1 b with | some w => if tuO w = true then F2 b else none | none => F2 b
  have f3s : ∀ b o, F1 b = some o → F3 b = F2 b := fun b o e => by show (match F1 b with | some o => F2 b | none => _) = _; rw [e]
  have f3n : ∀ b, F1 b = none → H1 b = none → F3 b = F2 b := fun b e e2 => by show (match F1 b with | some o => F2 b | none => match H1 b with | some w => if tuO w = true then F2 b else none | none => F2 b) = _; rw [e, e2]
  have f3t : ∀ b o, F1 b = none → H1 b = some o → tuO o = true → F3 b = F2 b := fun b o e e2 e3 => by show (match F1 b with | some o => F2 b | none => match H1 b with | some w => if tuO w = true then F2 b else none | none => F2 b) = _; rw [e, e2]; show (if tuO o = true then F2 b else none) = _; rw [if_pos e3]
  have f3d : ∀ b o, F1 b = none → H1 b = some o → tuO o = false → F3 b = none := fun b o e e2 e3 => by show (match F1 b with | some o => F2 b | none => match H1 b with | some w => if tuO w = true then F2 b else none | none => F2 b) = _; rw [e, e2]; show (if tuO o = true then F2 b else none) = _; rw [e3]; rfl
  have f3le : ∀ (b : Addr) (o : HO), F3 b = some o → F2 b = some o := fun b o e => by
    cases q : F1 b with
    | some u => rw [f3s b u q] at e; exact e
    | none =>
      cases q2 : H1 b with
      | some u =>
        cases q3 : tuO u with
        | true => rw [f3t b u q q2 q3] at e; exact e
        | false => rw [f3d b u q q2 q3] at e; cases e
      | none => rw [f3n b q q2] at e; exact e
  have mt : ∀ {m : M} {o : HO} {F : Hp}, MAt K F m o → tuO o = false := fun {m o F} h => by
    cases m with
    | lst ds => obtain ⟨vs, e, _⟩ := h; rw [e]; rfl
    | dct ks ds => obtain ⟨kvs, e, _⟩ := h; rw [e]; rfl
    | dcu ks ds => obtain ⟨kvs, e, _⟩ := h; rw [e]; rfl
  have s13 : Same F1 F3 := fun b o e => by rw [f3s b o e]; exact s12 b o e
  have S3 : Sim K E F3 H2 st σ := {
    sub := fun b o e => s2 b o (f3le b o e)
    ent := S1.ent.trans sH
    fe := S1.fe.trans s13
    gr := fun b o e => by
      cases q : F1 b with
      | some u =>
        have e2 := f3le b o e
        rw [s12 b u q] at e2
        cases e2
        exact S1.gr b _ q
      | none =>
        cases q2 : H1 b with
        | some u =>
          cases q3 : tuO u with
          | false => rw [f3d b u q q2 q3] at e; cases e
          | true =>
            have e1 := s2 b o (f3le b o e)
            rw [sH b u q2] at e1
            cases e1
            exact .inr (.inr q3)
        | none => exact .inr (.inl (S1.ent.free q2))
    len := S1.len
    val := fun i d e => by
      obtain ⟨w, e1, e2⟩ := S1.val i d e
      exact ⟨w, e1, Rep.mono s13 _ _ e2⟩
    own := fun i m e => by
      obtain ⟨a, e1, ow⟩ := S1.own i m e
      obtain ⟨o, e2, e3⟩ := ow.here
      exact ⟨a, e1, f3d a o ow.f e2 (mt e3), ow.e, o, sH _ _ e2, e3.mono s13⟩
    sep := S1.sep
    adr := S1.adr }
  have tup : ∀ (b : Addr) (xs : List V), F2 b = some (.tup xs) → F3 b = some (.tup xs) := fun b xs h => by
    have keep : ∀ u : HO, (∀ m, ¬ MAt K F1 m u) → F2 b = some u → F3 b = some u := fun u hu e => by
      cases q : F1 b with
      | some w => rw [f3s b w q]; exact e
      | none =>
        cases q2 : H1 b with
        | none => rw [f3n b q q2]; exact e
        | some w =>
          cases q3 : tuO w with
          | true => rw [f3t b w q q2 q3]; exact e
          | false =>
          rcases gr b u e with g | g | g
          · have g' : (match F1 b with | some o => some o | none => if lent rs vs b then H1 b else none) = some u := g
            rw [q] at g'
            by_cases hl : lent rs vs b = true
            · simp only [hl, if_true] at g'
              obtain ⟨o, m, e1, e2⟩ := lent_at ar hl
              rw [g'] at e1
              cases e1
              exact absurd e2 (hu m)
            · simp only [Bool.not_eq_true] at hl
              simp [hl] at g'
          · rw [q2] at g; cases g
          · have e1 := s2 b u e
            rw [sH b w q2] at e1
            cases e1
            rw [q3] at g; cases g
    refine keep _ (fun m hm => ?_) h
    cases m with
    | lst ds => obtain ⟨vs, e, _⟩ := hm; cases e
    | dct ks ds => obtain ⟨kvs, e, _⟩ := hm; cases e
    | dcu ks ds => obtain ⟨kvs, e, _⟩ := hm; cases e
  have nopk : rs.any Val.isPk = false → F3 = F2 := fun hp => by
    funext b
    cases q : F1 b with
    | some w => exact f3s b w q
    | none =>
      cases q2 : H1 b with
      | none => exact f3n b q q2
      | some w =>
        cases q4 : tuO w with
        | true => exact f3t b w q q2 q4
        | false =>
        rw [f3d b w q q2 q4]
        cases q3 : F2 b with
        | none => rfl
        | some u =>
          rcases gr b u q3 with g | g | g
          · have g' : (match F1 b with | some o => some o | none => if lent rs vs b then H1 b else none) = some u := g
            rw [q, lent_none hp] at g'
            simp at g'
          · rw [q2] at g; cases g
          · have e1 := s2 b u q3
            rw [sH b w q2] at e1
            cases e1
            rw [q4] at g; cases g
  refine ⟨F3, s13, S3, ?_⟩
  cases r with
  | fz d =>
    rcases hfl with hp | hf
    · rw [nopk hp]; exact rr
    · exact Rep.flat tup d v hf rr
  | nw m =>
    obtain ⟨q, o, e1, e2, e3, e4, e5⟩ := rr
    refine ⟨q, e1, ⟨?_, S1.ent.free e3, o, e4, ?_⟩, S1.notOwn e3⟩
    · cases q3 : F3 q with
      | none => rfl
      | some u => rw [f3le q u q3] at e2; cases e2
    · rcases hfl with hp | hf
      · rw [nopk hp]; exact e5
      · exact MAt.flat tup hf e5
  | pk i m => exact rr.elim
theorem call_spec {K : PySem.W.Frag} {cls : Nat → Value} {run : Fn} {En : Ent} {F1 H1 : Hp} {st1 : Sts} {σ : L2.St} {rs : List Val} {vs : List V} {Q : VK} {E : XK} (S1 : Sim K En F1 H1 st1 σ) (ar : ARels K F1 H1 rs vs) (hn : rs.any Val.isNw = false)
    (h : match run (rs.map Val.d) with
      | .ok r => (rs.any Val.isPk = false ∨ r.flat = true) ∧ EndE K W En F1 H1 σ (.ok (r, st1)) Q
      | .exc c _ => ∀ H', Same H1 H' → E (cls c) none H'
      | .no => False) : spF K cls run vs H1 Q E := by
  refine ⟨fun b => match F1 b with | some o => some o | none => if lent rs vs b then H1 b else none, rs.map Val.d, fun b o e => ?_, lent_reps (fun b o e => ?_) ar hn (fun b hb => ?_), ?_⟩
  · have e' : (match F1 b with | some o => some o | none => if lent rs vs b then H1 b else none) = some o := e
    cases q : F1 b with
    | some u => rw [q] at e'; cases e'; exact S1.sub b _ q
    | none =>
      rw [q] at e'
      by_cases hl : lent rs vs b = true
      · simpa [hl] using e'
      · simp [hl] at e'
  · show (match F1 b with | some o => some o | none => _) = _
    rw [e]
  · show (match F1 b with | some o => some o | none => if lent rs vs b then H1 b else none) = H1 b
    cases q : F1 b with
    | some u => exact (S1.sub b u q).symm
    | none => simp [hb]
  · cases hr : run (rs.map Val.d) with
    | no => rw [hr] at h; exact h
    | exc c s' => rw [hr] at h; exact h
    | ok r =>
      rw [hr] at h
      obtain ⟨hfl, k⟩ := h
      intro v F2 H2 sF sH s2 gr rr
      obtain ⟨F3, s13, S3, vr⟩ := call_back S1 ar hfl sF sH s2 gr rr
      exact k v F3 H2 s13 sH S3 vr
theorem up_call {cls : Nat → Value} {run : Fn} {f : VA} : ∀ σ H Q, up X.K W (vCall run f) σ H Q → tCall (spF X.K cls run) [] E0 (upA X.K W f) σ H Q := fun σ H Q ⟨En, F, st, S, q⟩ => by
  refine aseqE S q fun rs st1 vs F1 H1 a b S1 ar k => ?_
  dsimp only at k
  rw [List.append_nil]
  unfold callEnd at k
  by_cases hn : rs.any Val.isNw = true
  · rw [if_pos hn] at k; exact k.elim
  · rw [if_neg hn] at k
    refine call_spec (W := W) S1 ar (by simpa using hn) ?_
    cases hr : run (rs.map Val.d) with
    | no => rw [hr] at k; exact k.elim
    | exc c s' => rw [hr] at k; exact k.elim
    | ok r =>
      rw [hr] at k
      dsimp only at k ⊢
      by_cases hp : (rs.any Val.isPk && !r.flat) = true
      · rw [if_pos hp] at k; exact k.elim
      · rw [if_neg hp] at k
        refine ⟨?_, k⟩
        cases q1 : rs.any Val.isPk with
        | false => exact .inl rfl
        | true =>
          rw [q1] at hp
          exact .inr (by simpa using hp)
theorem de_call {cls : Nat → Value} {run : Fn} {f : VA} {x : Str} {e : Expr} {es : List Expr} {k : Nat} {fa : Addr} {fd : FuncData} {ps : List Str} (G : FnOk X.prog X.w X.K X.mg X.base CX0 k fa fd ps (spF X.K cls run)) (hr : Room k X.A) (hg : Gl X x) (hm : X.mg x = some (.ref fa)) (hk : PySem.W.keepIn X.K (.ref fa) = true) (hb : Binds X.K fd ps [])
    (ha : DA X W (e :: es) f) (hdb : (x == ("__debug__" : Str)) = false := by decide) (he : starEach (e :: es) X.env = (false, eval e X.env) :: starEach es X.env := by rfl) (hpl : (backTo pos (starEach es X.env)).any (·.1) = false := by rfl) :
    DE X W (.Call (.Name x p) (e :: es) [] pos) (vCall run f) := PE.imp (pe_call G hr hg hm hk hb .nil pass0 ha hdb he hpl) up_call
theorem de_call0 {cls : Nat → Value} {run : Fn} {x : Str} {k : Nat} {fa : Addr} {fd : FuncData} {ps : List Str} (G : FnOk X.prog X.w X.K X.mg X.base CX0 k fa fd ps (spF X.K cls run)) (hr : Room k X.A) (hg : Gl X x) (hm : X.mg x = some (.ref fa)) (hk : PySem.W.keepIn X.K (.ref fa) = true) (hb : Binds X.K fd ps [])
    (hdb : (x == ("__debug__" : Str)) = false := by decide) : DE X W (.Call (.Name x p) [] [] pos) (vCall run vNil) := PE.imp (pe_call0 G hr hg hm hk hb .nil pass0 hdb) fun σ H Q h => by
  obtain ⟨E, F, st, S, q⟩ := up_call (cls := cls) σ H Q h
  exact q [] F H (Same.refl _) (Same.refl _) S rfl
end
end Vl
namespace Vl
open PySem PySem.Spec PyProof.Rows L2
/-! ## stores -/
section
variable {K : PySem.W.Frag} {W : Wx} {E : Ent} {F H F' H' : Hp} {st : Sts} {σ : L2.St}
theorem Sim.setNone {i : Nat} {v : Option V} (S : Sim K E F H st σ) : Sim K E F H (st.set i .no) (σ.set i v) where
  sub := S.sub
  ent := S.ent
  fe := S.fe
  gr := S.gr
  len := by rw [List.length_set, List.length_set]; exact S.len
  val := fun j d q => by
    by_cases hj : j = i
    · subst hj
      by_cases hl : j < st.length
      · rw [List.getElem?_set_self hl] at q; cases q
      · rw [List.getElem?_eq_none (by rw [List.length_set]; omega)] at q; cases q
    · rw [List.getElem?_set_ne (Ne.symm hj)] at q
      obtain ⟨w, e1, e2⟩ := S.val j d q
      exact ⟨w, by rw [List.getElem?_set_ne (Ne.symm hj)]; exact e1, e2⟩
  own := fun j m q => by
    by_cases hj : j = i
    · subst hj
      by_cases hl : j < st.length
      · rw [List.getElem?_set_self hl] at q; cases q
      · rw [List.getElem?_eq_none (by rw [List.length_set]; omega)] at q; cases q
    · rw [List.getElem?_set_ne (Ne.symm hj)] at q
      obtain ⟨w, e1, e2⟩ := S.own j m q
      exact ⟨w, by rw [List.getElem?_set_ne (Ne.symm hj)]; exact e1, e2⟩
  sep := fun j k m m' a hjk q1 q2 r1 r2 => by
    have hj : j ≠ i := fun e => by
      subst e
      by_cases hl : j < st.length
      · rw [List.getElem?_set_self hl] at q1; cases q1
      · rw [List.getElem?_eq_none (by rw [List.length_set]; omega)] at q1; cases q1
    have hk : k ≠ i := fun e => by
      subst e
      by_cases hl : k < st.length
      · rw [List.getElem?_set_self hl] at q2; cases q2
      · rw [List.getElem?_eq_none (by rw [List.length_set]; omega)] at q2; cases q2
    rw [List.getElem?_set_ne (Ne.symm hj)] at q1 r1
    rw [List.getElem?_set_ne (Ne.symm hk)] at q2 r2
    exact S.sep j k m m' a hjk q1 q2 r1 r2
  adr := fun j b q => by
    by_cases hj : j = i
    · subst hj
      by_cases hl : j < st.length
      · rw [List.getElem?_set_self hl] at q; cases q
      · rw [List.getElem?_eq_none (by rw [List.length_set]; omega)] at q; cases q
    · rw [List.getElem?_set_ne (Ne.symm hj)] at q ⊢
      exact S.adr j b q
theorem Sim.setVal {i : Nat} {v : V} {d : D} (S : Sim K E F H st σ) (r : Rep K F d v) : Sim K E F H (st.set i (.val d)) (σ.set i (some v)) := by
  have N := S.setNone (i := i) (v := some v)
  refine ⟨N.sub, N.ent, N.fe, N.gr, by rw [List.length_set, List.length_set]; exact S.len, fun j d' q => ?_, fun j m q => ?_, fun j k m m' a hjk q1 q2 r1 r2 => ?_, fun j b q => ?_⟩
  · by_cases hj : j = i
    · subst hj
      by_cases hl : j < st.length
      · rw [List.getElem?_set_self hl] at q
        cases q
        exact ⟨v, List.getElem?_set_self (by rw [S.len]; exact hl), r⟩
      · rw [List.getElem?_eq_none (by rw [List.length_set]; omega)] at q; cases q
    · exact N.val j d' (by rw [List.getElem?_set_ne (Ne.symm hj)] at q ⊢; exact q)
  · by_cases hj : j = i
    · subst hj
      by_cases hl : j < st.length
      · rw [List.getElem?_set_self hl] at q; cases q
      · rw [List.getElem?_eq_none (by rw [List.length_set]; omega)] at q; cases q
    · exact N.own j m (by rw [List.getElem?_set_ne (Ne.symm hj)] at q ⊢; exact q)
  · have hj : j ≠ i := fun e => by
      subst e
      by_cases hl : j < st.length
      · rw [List.getElem?_set_self hl] at q1; cases q1
      · rw [List.getElem?_eq_none (by rw [List.length_set]; omega)] at q1; cases q1
    have hk : k ≠ i := fun e => by
      subst e
      by_cases hl : k < st.length
      · rw [List.getElem?_set_self hl] at q2; cases q2
      · rw [List.getElem?_eq_none (by rw [List.length_set]; omega)] at q2; cases q2
    refine N.sep j k m m' a hjk ?_ ?_ r1 r2
    · rw [List.getElem?_set_ne (Ne.symm hj)] at q1 ⊢; exact q1
    · rw [List.getElem?_set_ne (Ne.symm hk)] at q2 ⊢; exact q2
  · exact N.adr j b (by
      by_cases hj : j = i
      · subst hj
        by_cases hl : j < st.length
        · rw [List.getElem?_set_self hl] at q; cases q
        · rw [List.getElem?_eq_none (by rw [List.length_set]; omega)] at q; cases q
      · rw [List.getElem?_set_ne (Ne.symm hj)] at q ⊢; exact q)
theorem Sim.setOwn {i : Nat} {p : Addr} {m : M} (S : Sim K E F H st σ) (ow : Own E F H K p m) (hn : ∀ (j : Nat) (m' : M), j ≠ i → st[j]? = some (Sl.own m') → σ[j]? ≠ some (some (V.ref p))) : Sim K E F H (st.set i (.own m)) (σ.set i (some (.ref p))) := by
  have N := S.setNone (i := i) (v := some (.ref p))
  refine ⟨N.sub, N.ent, N.fe, N.gr, by rw [List.length_set, List.length_set]; exact S.len, fun j d' q => ?_, fun j m' q => ?_, fun j k m1 m2 a hjk q1 q2 r1 r2 => ?_, fun j b q => ?_⟩
  · by_cases hj : j = i
    · subst hj
      by_cases hl : j < st.length
      · rw [List.getElem?_set_self hl] at q; cases q
      · rw [List.getElem?_eq_none (by rw [List.length_set]; omega)] at q; cases q
    · exact N.val j d' (by rw [List.getElem?_set_ne (Ne.symm hj)] at q ⊢; exact q)
  · by_cases hj : j = i
    · subst hj
      by_cases hl : j < st.length
      · rw [List.getElem?_set_self hl] at q
        cases q
        exact ⟨p, List.getElem?_set_self (by rw [S.len]; exact hl), ow⟩
      · rw [List.getElem?_eq_none (by rw [List.length_set]; omega)] at q; cases q
    · exact N.own j m' (by rw [List.getElem?_set_ne (Ne.symm hj)] at q ⊢; exact q)
  · by_cases hj : j = i
    · subst hj
      have hk : k ≠ j := Ne.symm hjk
      rw [List.getElem?_set_ne (Ne.symm hk)] at q2 r2
      by_cases hl : j < st.length
      · rw [List.getElem?_set_self (by rw [S.len]; exact hl)] at r1
        cases r1
        exact hn k m2 hk q2 r2
      · rw [List.getElem?_eq_none (by rw [List.length_set]; omega)] at q1; cases q1
    · by_cases hk : k = i
      · subst hk
        rw [List.getElem?_set_ne (Ne.symm hj)] at q1 r1
        by_cases hl : k < st.length
        · rw [List.getElem?_set_self (by rw [S.len]; exact hl)] at r2
          cases r2
          exact hn j m1 hj q1 r1
        · rw [List.getElem?_eq_none (by rw [List.length_set]; omega)] at q2; cases q2
      · rw [List.getElem?_set_ne (Ne.symm hj)] at q1 r1
        rw [List.getElem?_set_ne (Ne.symm hk)] at q2 r2
        exact S.sep j k m1 m2 a hjk q1 q2 r1 r2
  · exact N.adr j b (by
      by_cases hj : j = i
      · subst hj
        by_cases hl : j < st.length
        · rw [List.getElem?_set_self hl] at q; cases q
        · rw [List.getElem?_eq_none (by rw [List.length_set]; omega)] at q; cases q
      · rw [List.getElem?_set_ne (Ne.symm hj)] at q ⊢; exact q)
/-- an own object is written -/
theorem Sim.write {i : Nat} {a : Addr} {m m' : M} {o' : HO} (S : Sim K E F H st σ) (e : st[i]? = some (Sl.own m)) (ea : σ[i]? = some (some (V.ref a))) (hm : MAt K F m' o') : Sim K E F (upd H a o') (st.set i (.own m')) σ := by
  obtain ⟨a', e1, ow⟩ := S.own i m e
  rw [ea] at e1
  cases e1
  have hl : i < st.length := (List.getElem?_eq_some_iff.mp e).1
  have keep : ∀ {G : Hp}, G a = none → Same G H → Same G (upd H a o') := fun {G} hg s b u q => by
    have hb : b ≠ a := by
      rintro rfl
      rw [hg] at q; cases q
    rw [upd_ne hb]; exact s b u q
  have get : ∀ (j : Nat) (s : Sl), j ≠ i → (st.set i (.own m'))[j]? = some s → st[j]? = some s := fun j s hj q => by
    rw [List.getElem?_set_ne (Ne.symm hj)] at q; exact q
  refine ⟨keep ow.f S.sub, keep ow.e S.ent, S.fe, S.gr, by rw [List.length_set]; exact S.len, fun j d q => ?_, fun j m2 q => ?_, fun j k m1 m2 b hjk q1 q2 r1 r2 => ?_, fun j b q => ?_⟩
  · by_cases hj : j = i
    · subst hj
      rw [List.getElem?_set_self hl] at q; cases q
    · exact S.val j d (get j _ hj q)
  · by_cases hj : j = i
    · subst hj
      rw [List.getElem?_set_self hl] at q
      cases q
      exact ⟨a, ea, ow.f, ow.e, o', upd_same, hm⟩
    · have q' := get j _ hj q
      obtain ⟨b, e2, ow2⟩ := S.own j m2 q'
      have hb : b ≠ a := by
        rintro rfl
        exact S.sep j i m2 m b hj q' e e2 ea
      obtain ⟨u, h1, h2⟩ := ow2.here
      exact ⟨b, e2, ow2.f, ow2.e, u, by rw [upd_ne hb]; exact h1, h2⟩
  · have old : ∀ (l : Nat) (mm : M), (st.set i (.own m'))[l]? = some (Sl.own mm) → ∃ mm', st[l]? = some (Sl.own mm') := fun l mm q => by
      by_cases hl : l = i
      · subst hl; exact ⟨m, e⟩
      · exact ⟨mm, get l _ hl q⟩
    obtain ⟨n1, g1⟩ := old j m1 q1
    obtain ⟨n2, g2⟩ := old k m2 q2
    exact S.sep j k n1 n2 b hjk g1 g2 r1 r2
  · by_cases hj : j = i
    · subst hj
      rw [List.getElem?_set_self hl] at q; cases q
    · exact S.adr j b (get j _ hj q)
/-- what an assignment stores -/
theorem Sim.store {i : Nat} {r : Val} {v : V} (S : Sim K E F H st σ) (vr : VRel K E F H st σ r v) {s : Sl} (hs : s = match r with | .fz d => .val d | .nw m => .own m | .pk _ _ => .no) : Sim K E F H (st.set i s) (σ.set i (some v)) := by
  subst hs
  cases r with
  | fz d => exact S.setVal vr
  | nw m =>
    obtain ⟨p, rfl, ow, hn⟩ := vr
    exact S.setOwn ow fun j m' _ => hn j m'
  | pk j m => exact S.setNone
end
/-! ## expressions that may write -/
def EndM (K : PySem.W.Frag) (W : Wx) (E : Ent) (F : Hp) (σ : L2.St) (res : R (Val × Sts)) (Q : VK) : Prop := match res with
  | .ok (r, st) => ∀ v F' H', Same F F' → Sim K E F' H' st σ → VRel K E F' H' st σ r v → Q v H'
  | .exc c st => ∀ F' H', Same F F' → Sim K E F' H' st σ → W c σ H'
  | .no => False
def upM (K : PySem.W.Frag) (W : Wx) (f : VE) : TE := fun σ H Q => ∃ E F st, Sim K E F H st σ ∧ EndM K W E F σ (f st) Q
abbrev DM (X : Cx) (W : Wx) (e : Expr) (f : VE) : Prop := PE X e (upM X.K W f)
theorem dm_of {X : Cx} {W : Wx} {e : Expr} {f : VE} (h : DE X W e f) : DM X W e f := PE.imp h fun σ H Q ⟨E, F, st, S, q⟩ => ⟨E, F, st, S, by
  cases e : f st with
  | ok p => rw [e] at q; exact fun v F' H' a _ S' vr => q v F' H' a S' vr
  | exc c s => rw [e] at q; exact fun F' H' a _ S' => q F' H' a S'
  | no => rw [e] at q; exact q⟩
/-- a list's or dict's method that writes: m the object, ds the arguments -/
def MutR (K : PySem.W.Frag) (r : V → List V → Hp → VK → Prop) (op : M → List D → Option (Val × M)) : Prop := ∀ (E : Ent) (F H : Hp) (st : Sts) (σ : L2.St) (i : Nat) (m m' : M) (a : Addr) (ds : List D) (xs : List V) (res : Val) (Q : VK),
  Sim K E F H st σ → st[i]? = some (Sl.own m) → σ[i]? = some (some (V.ref a)) → Reps K F ds xs → op m ds = some (res, m') → (∀ v F' H', Same F F' → Sim K E F' H' (st.set i (.own m')) σ → VRel K E F' H' (st.set i (.own m')) σ res v → Q v H') → r (.ref a) xs H Q
def vMut (i : Nat) (op : M → List D → Option (Val × M)) (f : VA) : VE := fun st => match st[i]? with
  | some (.own _) => (f st).bind fun p => match p.2[i]?, fzs p.1 with
    | some (.own m), some ds => match op m ds with
      | some (r, m') => .ok (r, p.2.set i (.own m'))
      | none => .no
    | _, _ => .no
  | _ => .no
def M.ty : M → String
  | .lst _ => "list" | .dct _ _ => "dict" | .dcu _ _ => "dict"
section
variable {X : Cx} {W : Wx} {pos : Pos}
theorem own_ty {K : PySem.W.Frag} {E : Ent} {F H : Hp} {st : Sts} {σ : L2.St} {i : Nat} {m : M} (S : Sim K E F H st σ) (e : st[i]? = some (Sl.own m)) : ∃ a, σ[i]? = some (some (.ref a)) ∧ tyV K m.ty (.ref a) H := by
  obtain ⟨a, e1, ow⟩ := S.own i m e
  obtain ⟨o, e2, e3⟩ := ow.here
  refine ⟨a, e1, ?_⟩
  cases m with
  | lst ds => obtain ⟨vs, rfl, _⟩ := e3; exact .inl ⟨rfl, vs, SqL.of e2⟩
  | dct ks ds => obtain ⟨kvs, rfl, _⟩ := e3; exact .inr (.inr (.inl ⟨rfl, .inl ⟨kvs, e2⟩⟩))
  | dcu ks ds => obtain ⟨kvs, rfl, _⟩ := e3; exact .inr (.inr (.inl ⟨rfl, .inr ⟨kvs, e2⟩⟩))
def vMutT (T : String) (i : Nat) (op : M → List D → Option (Val × M)) (f : VA) : VE := fun st => match st[i]? with
  | some (.own m0) => if m0.ty = T then vMut i op f st else .no
  | _ => .no
theorem up_mut {T : String} {i : Nat} {r : V → List V → Hp → VK → Prop} {op : M → List D → Option (Val × M)} {f : VA} (hr : MutR X.K r op) : ∀ σ H Q, upM X.K W (vMutT T i op f) σ H Q → tBM X.K T r (tVar i) (upA X.K W f) σ H Q := fun σ H Q ⟨E, F, st, S, q⟩ => by
  unfold vMutT at q
  cases e : st[i]? with
  | none => rw [e] at q; exact q.elim
  | some s =>
    rw [e] at q
    cases s with
    | no => exact q.elim
    | val d => exact q.elim
    | adr _ => exact q.elim
    | own m0 =>
      try dsimp only at q
      by_cases hT : m0.ty = T
      · rw [if_pos hT] at q
        obtain ⟨a, ea, ty⟩ := own_ty S e
        rw [hT] at ty
        refine ⟨_, ea, ty, E, F, st, S, ?_⟩
        unfold vMut at q
        rw [e] at q
        try dsimp only at q
        cases e2 : f st with
        | no => rw [e2] at q; exact q
        | exc c s' => rw [e2] at q; exact fun F' H' a b S' => q F' H' a S'
        | ok p =>
          rw [e2, R.bind_ok] at q
          intro vs F1 H1 a1 b1 S1 ar
          cases e3 : p.2[i]? with
          | none => rw [e3] at q; exact q.elim
          | some s2 =>
            rw [e3] at q
            cases s2 with
            | no => exact q.elim
            | val d => exact q.elim
            | adr _ => exact q.elim
            | own m =>
              try dsimp only at q
              cases e4 : fzs p.1 with
              | none => rw [e4] at q; exact q.elim
              | some ds =>
                rw [e4] at q
                dsimp only at q
                cases e5 : op m ds with
                | none => rw [e5] at q; exact q.elim
                | some rm =>
                  rw [e5] at q
                  exact hr E F1 H1 p.2 σ i m rm.2 a ds vs rm.1 Q S1 e3 ea (ARels.fzs ar e4) e5 fun v F' H' c S' vr => q v F' H' (a1.trans c) S' vr
      · rw [if_neg hT] at q; exact q.elim
theorem up_mut0 {T : String} {i : Nat} {r : V → List V → Hp → VK → Prop} {op : M → List D → Option (Val × M)} (hr : MutR X.K r op) : ∀ σ H Q, upM X.K W (vMutT T i op vNil) σ H Q → tBM0 X.K T r (tVar i) σ H Q := fun σ H Q h => by
  obtain ⟨v, e, ty, E, F, st, S, q⟩ := up_mut (T := T) hr σ H Q h
  exact ⟨v, e, ty, q [] F H (Same.refl _) (Same.refl _) S rfl⟩
/-! ## lists' methods -/
def mAppend : M → List D → Option (Val × M)
  | .lst ds, [d] => if ds.length < 16777216 then some (.fz .non, .lst (ds ++ [d])) else none
  | _, _ => none
theorem mut_append {K : PySem.W.Frag} : MutR K rAppend mAppend := fun E F H st σ i m m' a ds xs res Q S e ea r op q => by
  match m, ds, op with
  | .lst es, [d], op =>
    dsimp only [mAppend] at op
    by_cases hl : es.length < 16777216
    · rw [if_pos hl] at op
      cases op
      obtain ⟨v, rfl, rv⟩ := r.one'
      obtain ⟨b, e1, ow⟩ := S.own i _ e
      rw [ea] at e1
      cases e1
      obtain ⟨o, e2, vs, rfl, rs⟩ := ow.here
      exact ⟨a, vs, v, rfl, rfl, e2, by rw [rs.length, sizeLine_eq]; exact hl, q _ F _ (Same.refl _) (S.write e ea ⟨_, rfl, rs.append (Reps.one rv)⟩) rfl⟩
    · rw [if_neg hl] at op; cases op
def mExtend : M → List D → Option (Val × M)
  | .lst ds, [.lst es] => if ds.length + es.length ≤ 16777216 then some (.fz .non, .lst (ds ++ es)) else none
  | _, _ => none
def mReverse : M → List D → Option (Val × M)
  | .lst ds, [] => some (.fz .non, .lst ds.reverse)
  | _, _ => none
theorem Reps.reverse {K : PySem.W.Frag} {F : Hp} : ∀ {ds : List D} {vs : List V}, Reps K F ds vs → Reps K F ds.reverse vs.reverse
  | [], _, h => by rw [show _ = [] from h]; rfl
  | d :: ds, _, ⟨v, r, h1, h2, h3⟩ => by
    subst h1
    rw [List.reverse_cons, List.reverse_cons]
    exact (Reps.reverse h3).append (Reps.one h2)
theorem mut_reverse {K : PySem.W.Frag} : MutR K rReverse mReverse := fun E F H st σ i m m' a ds xs res Q S e ea r op q => by
  match m, ds, op with
  | .lst es, [], op =>
    cases op
    obtain ⟨b, e1, ow⟩ := S.own i _ e
    rw [ea] at e1
    cases e1
    obtain ⟨o, e2, vs, rfl, rs⟩ := ow.here
    exact ⟨a, vs, rfl, r, e2, q _ F _ (Same.refl _) (S.write e ea ⟨_, rfl, rs.reverse⟩) rfl⟩
def mClear : M → List D → Option (Val × M)
  | .lst ds, [] => some (.fz .non, .lst [])
  | _, _ => none
theorem mut_clear {K : PySem.W.Frag} : MutR K rClear mClear := fun E F H st σ i m m' a ds xs res Q S e ea r op q => by
  match m, ds, op with
  | .lst es, [], op =>
    cases op
    obtain ⟨b, e1, ow⟩ := S.own i _ e
    rw [ea] at e1
    cases e1
    obtain ⟨o, e2, vs, rfl, rs⟩ := ow.here
    exact ⟨a, vs, rfl, r, e2, q _ F _ (Same.refl _) (S.write e ea ⟨_, rfl, rfl⟩) rfl⟩
theorem dm_mut {T id : String} {name : Str} {i : Nat} {r : V → List V → Hp → VK → Prop} {op : M → List D → Option (Val × M)} {f : VA} {o e : Expr} {es : List Expr} {apos cpos : Pos} (pa : PlainAttrs T) (slot : Slot T name id) (hty : typeOf (.builtin id) = pure (.type "method_descriptor")) (hm : MtR X id r) (hr : MutR X.K r op) (ho : PE X o (tVar i)) (ha : DA X W (e :: es) f)
    (hbase : attributeBase o name X.env (eval o X.env) = eval o X.env := by rfl)
    (hfew : ((backTo cpos (starEach (e :: es) X.env)).all (fun x => !x.1) && (backToKw cpos (keywordEach [] X.env)).all (fun x => x.1.isSome)
      && decide ((e :: es).length + ([] : List Keyword).length + (if ([] : List Keyword).isEmpty then 0 else 1) < 30)) = true := by rfl)
    (hline : (apos.endLine == cpos.line) = true := by rfl) (hs : starEach (e :: es) X.env = (false, eval e X.env) :: starEach es X.env := by rfl) (hplain : (backTo cpos (starEach es X.env)).any (·.1) = false := by rfl) :
    DM X W (.Call (.Attribute o name apos) (e :: es) [] cpos) (vMutT T i op f) := PE.imp (pe_bm pa slot hty hm ho ha hbase hfew hline hs hplain) (up_mut hr)
theorem dm_mut0 {T id : String} {name : Str} {i : Nat} {r : V → List V → Hp → VK → Prop} {op : M → List D → Option (Val × M)} {o : Expr} {apos cpos : Pos} (pa : PlainAttrs T) (slot : Slot T name id) (hty : typeOf (.builtin id) = pure (.type "method_descriptor")) (hm : MtR X id r) (hr : MutR X.K r op) (ho : PE X o (tVar i))
    (hbase : attributeBase o name X.env (eval o X.env) = eval o X.env := by rfl) (hline : (apos.endLine == cpos.line) = true := by rfl) :
    DM X W (.Call (.Attribute o name apos) [] [] cpos) (vMutT T i op vNil) := PE.imp (pe_bm0 pa slot hty hm ho hbase hline) (up_mut0 hr)
/-! ## statements -/
def vNx : VS := fun st => .ok (.nx st)
def vSeq (a b : VS) : VS := fun st => (a st).bind fun fl => match fl with
  | .nx st' => b st'
  | fl => .ok fl
def slotOf : Val → Sl
  | .fz d => .val d
  | .nw m => .own m
  | .pk _ _ => .no
def vAsg (i : Nat) (f : VE) : VS := fun st => (f st).bind fun p => .ok (.nx (p.2.set i (slotOf p.1)))
def vRet (f : VE) : VS := fun st => (f st).bind fun p => .ok (.rt p.1)
def vRetN : VS := fun st => .ok (.rt (.fz .non))
def vDrop (f : VE) : VS := fun st => (f st).bind fun p => .ok (.nx p.2)
def vIf (t : VT) (a b : VS) : VS := fun st => (t st).bind fun p => if p.1 = true then a p.2 else b p.2
def vBrk : VS := fun st => .ok (.bk st)
def vCnt : VS := fun st => .ok (.ct st)
theorem mseqS {K : PySem.W.Frag} {E : Ent} {F H : Hp} {σ : L2.St} {f : VE} {st : Sts} {k : Val × Sts → R Flow} {D : Ends} {P : VK} (S : Sim K E F H st σ) (h : EndS K W E F ((f st).bind k) D)
    (hk : ∀ r st1 v F1 H1, Same F F1 → Sim K E F1 H1 st1 σ → VRel K E F1 H1 st1 σ r v → EndS K W E F1 (k (r, st1)) D → P v H1) : upM K W f σ H P := by
  refine ⟨E, F, st, S, ?_⟩
  cases e : f st with
  | ok p => rw [e] at h; exact fun v F1 H1 a S1 vr => hk _ _ v F1 H1 a S1 vr (EndS.mono a h)
  | exc c st' => rw [e] at h; exact fun F' H' a S' => h σ F' H' a S'
  | no => rw [e] at h; exact h
theorem ds_nil : DSs X W [] vNx := PSs.imp pss_nil fun D σ H ⟨E, F, st, S, q⟩ => q σ F H (Same.refl _) S
theorem ds_cons {s : Stmt} {ss : List Stmt} {a b : VS} (ha : DS X W s a) (hb : DSs X W ss b) : DSs X W (s :: ss) (vSeq a b) := PSs.imp (pss_cons ha hb) fun D σ H ⟨E, F, st, S, q⟩ => by
  refine ⟨E, F, st, S, ?_⟩
  unfold vSeq at q
  cases e : a st with
  | no => rw [e] at q; exact q
  | exc c st' => rw [e] at q; exact q
  | ok fl =>
    rw [e, R.bind_ok] at q
    cases fl with
    | nx st' => exact fun σ' F' H' a' S' => ⟨E, F', st', S', EndS.mono a' q⟩
    | bk st' => exact q
    | ct st' => exact q
    | rt r => exact q
theorem ds_one {s : Stmt} {a : VS} (ha : DS X W s a) : DSs X W [s] a := pss_one ha
theorem ds_pass : DS X W (.Pass pos) vNx := PS.imp ps_pass fun D σ H ⟨E, F, st, S, q⟩ => q σ F H (Same.refl _) S
theorem ds_brk : DS X W (.Break pos) vBrk := PS.imp ps_break fun D σ H ⟨E, F, st, S, q⟩ => q σ F H (Same.refl _) S
theorem ds_cnt : DS X W (.Continue pos) vCnt := PS.imp ps_continue fun D σ H ⟨E, F, st, S, q⟩ => q σ F H (Same.refl _) S
theorem ds_set {i : Nat} {x : Str} {e : Expr} {f : VE} {pos' : Pos} (hN : X.N.Nodup) (hi : X.N[i]? = some x) (hx : Loc X.env.scope x) (he : DM X W e f) (hs : swapsWith e (some (.Name x pos')) pos.line X.env = pure false := by rfl) (hf : X.fn x = true ∨ X.env.scope.names.lookup x = some .local := by first | exact .inl rfl | exact .inr rfl | assumption) :
    DS X W (.Assign [.Name x pos'] e pos) (vAsg i f) := PS.imp (ps_set hN hi hx he hs hf) fun D σ H ⟨E, F, st, S, q⟩ => by
  refine mseqS S q fun r st1 v F1 H1 a S1 vr k => ?_
  exact k _ F1 H1 (Same.refl _) (S1.store vr (by cases r <;> rfl))
theorem ds_ret {e : Expr} {f : VE} (he : DM X W e f) : DS X W (.Return (some e) pos) (vRet f) := PS.imp (ps_ret he) fun D σ H ⟨E, F, st, S, q⟩ => by
  refine mseqS S q fun r st1 v F1 H1 a S1 vr k => ?_
  exact k v st1 σ F1 H1 (Same.refl _) S1 vr
theorem ds_retN : DS X W (.Return none pos) vRetN := PS.imp ps_retN fun D σ H ⟨E, F, st, S, q⟩ => q _ st σ F H (Same.refl _) S rfl
theorem ds_expr {e : Expr} {f : VE} (he : DM X W e f) (hs : swapsWith e none pos.line X.env = pure false := by rfl) : DS X W (.Expr e pos) (vDrop f) := PS.imp (ps_expr he hs) fun D σ H ⟨E, F, st, S, q⟩ => by
  refine mseqS S q fun r st1 v F1 H1 a S1 vr k => ?_
  exact k σ F1 H1 (Same.refl _) S1
theorem ds_if {c : Expr} {a b : List Stmt} {t : VT} {f g : VS} (hc : DT X W c t) (ha : DSs X W a f) (hb : DSs X W b g) : DS X W (.If c a b pos) (vIf t f g) := PS.imp (ps_if hc ha hb) fun D σ H ⟨E, F, st, S, q⟩ => by
  refine tseqS S q fun r st1 F1 H1 a b S1 k => ?_
  cases r with
  | true => rw [if_pos rfl]; exact ⟨E, F1, st1, S1, k⟩
  | false => rw [if_neg Bool.false_ne_true]; exact ⟨E, F1, st1, S1, k⟩
/-! ## targets -/
abbrev VG := D → Sts → Option Sts
def gN (i : Nat) : VG := fun d st => some (st.set i (.val d))
def upG (K : PySem.W.Frag) (g : VG) : TG := fun v σ H Q => ∃ E F st d st', Sim K E F H st σ ∧ Rep K F d v ∧ g d st = some st' ∧ ∀ σ' F' H', Same F F' → Sim K E F' H' st' σ' → Q σ' H'
abbrev DG (X : Cx) (e : Expr) (g : VG) : Prop := PG X e (upG X.K g)
theorem PG.imp {X : Cx} {e : Expr} {t t' : TG} (h : PG X e t) (k : ∀ v σ H Q, t' v σ H Q → t v σ H Q) : PG X e t' := ⟨fun pins s σ H v u Q I r q => h.run pins s σ H v u Q I r (k _ _ _ _ q)⟩
theorem dg_name {i : Nat} {x : Str} (hN : X.N.Nodup) (hi : X.N[i]? = some x) (hx : Loc X.env.scope x) (hf : X.fn x = true ∨ X.env.scope.names.lookup x = some .local := by first | exact .inl rfl | exact .inr rfl | assumption) : DG X (.Name x pos) (gN i) :=
  PG.imp (pg_name hN hi hx hf) fun v σ H Q ⟨E, F, st, d, st', S, r, e, q⟩ => by
    cases e
    exact q _ F H (Same.refl _) (S.setVal r)
/-- (a, b, ..) -/
def gsRun : List VG → List D → Sts → Option Sts
  | [], [], st => some st
  | g :: gs, d :: ds, st => (g d st).bind (gsRun gs ds)
  | _, _, _ => none
def gT (gs : List VG) : VG := fun d st => match d with
  | .tup ds => gsRun gs ds st
  | _ => none
def upGs (K : PySem.W.Frag) (gs : List VG) : TGs := fun vs σ H Q => ∃ E F st ds st', Sim K E F H st σ ∧ Reps K F ds vs ∧ gsRun gs ds st = some st' ∧ ∀ σ' F' H', Same F F' → Sim K E F' H' st' σ' → Q σ' H'
abbrev DGs (X : Cx) (es : List Expr) (gs : List VG) : Prop := PGs X es (upGs X.K gs)
theorem PGs.imp {X : Cx} {e : List Expr} {t t' : TGs} (h : PGs X e t) (k : ∀ v σ H Q, t' v σ H Q → t v σ H Q) : PGs X e t' := ⟨fun pins s σ H v u Q I r q => h.run pins s σ H v u Q I r (k _ _ _ _ q)⟩
theorem dgs_nil : DGs X [] [] := PGs.imp pgs_nil fun vs σ H Q ⟨E, F, st, ds, st', S, r, e, q⟩ => by
  cases ds with
  | nil =>
    cases e
    exact ⟨r, q σ F H (Same.refl _) S⟩
  | cons d ds => cases e
theorem dgs_cons {e : Expr} {es : List Expr} {g : VG} {gs : List VG} (h1 : DG X e g) (h2 : DGs X es gs) (hs : (assignEach (e :: es) X.env).map (·.2) = assign e X.env :: (assignEach es X.env).map (·.2) := by rfl) : DGs X (e :: es) (g :: gs) :=
  PGs.imp (pgs_cons h1 h2 hs) fun vs σ H Q ⟨E, F, st, ds, st', S, r, e, q⟩ => by
    cases ds with
    | nil => cases e
    | cons d ds =>
      obtain ⟨v, us, e1, r1, r2⟩ := r
      obtain ⟨st1, e2, e3⟩ := Option.bind_eq_some_iff.mp e
      exact ⟨v, us, e1, E, F, st, d, st1, S, r1, e2, fun σ' F' H' a S' => ⟨E, F', st1, ds, st', S', Reps.mono a _ _ r2, e3, fun σ2 F2 H2 b S2 => q σ2 F2 H2 (a.trans b) S2⟩⟩
theorem gsRun_len : ∀ {gs : List VG} {ds : List D} {st st' : Sts}, gsRun gs ds st = some st' → ds.length = gs.length
  | [], [], _, _, _ => rfl
  | [], _ :: _, _, _, e => by cases e
  | _ :: _, [], _, _, e => by cases e
  | g :: gs, d :: ds, st, st', e => by
    obtain ⟨st1, e2, e3⟩ := Option.bind_eq_some_iff.mp e
    show ds.length + 1 = gs.length + 1
    rw [gsRun_len e3]
theorem dg_tup {es : List Expr} {k : Nat} {gs : List VG} (hc : X.calm = true) (h : DGs X es gs) (hn : (assignEach es X.env).length = gs.length := by rfl) (hst : (assignEach es X.env).findIdx? (·.1) = none := by rfl) : DG X (.Tuple es k pos) (gT gs) :=
  PG.imp (pg_tup hc h hn hst) fun v σ H Q ⟨E, F, st, d, st', S, r, e, q⟩ => by
    cases d with
    | tup ds =>
      obtain ⟨a, vs, e1, sq, rs⟩ := r
      exact ⟨a, vs, e1, SqT.of (S.sub _ _ sq), by rw [rs.length]; exact gsRun_len e, E, F, st, ds, st', S, rs, e, q⟩
    | _ => cases e
/-- a, b = e -/
def vAsgG (g : VG) (f : VE) : VS := fun st => (f st).bind fun p => match p.1 with
  | .fz d => match g d p.2 with
    | some st' => .ok (.nx st')
    | none => .no
  | _ => .no
theorem ds_asg {tg e : Expr} {f : VE} {g : VG} (he : DM X W e f) (hg : DG X tg g) (hs : swapsWithSole [tg] e pos.line X.env = pure false := by rfl) (hw : swappedStores [tg] e X.env = pure none := by rfl)
    (h1 : (assignEach [tg] X.env).map (·.2) = [assign tg X.env] := by rfl) : DS X W (.Assign [tg] e pos) (vAsgG g f) := PS.imp (ps_asg he hg hs hw h1) fun D σ H ⟨E, F, st, S, q⟩ => by
  refine mseqS S q fun r st1 v F1 H1 a S1 vr k => ?_
  cases r with
  | fz d =>
    dsimp only at k
    cases e : g d st1 with
    | none => rw [e] at k; exact k.elim
    | some st' =>
      rw [e] at k
      exact ⟨E, F1, st1, d, st', S1, vr, e, fun σ' F' H' c S' => k σ' F' H' c S'⟩
  | nw m => exact k.elim
  | pk j m => exact k.elim
/-! ## for -/
def loop (g : VG) (body : VS) : List D → Sts → R Flow
  | [], st => .ok (.nx st)
  | d :: ds, st => match g d st with
    | none => .no
    | some st1 => (body st1).bind fun fl => match fl with
      | .nx st2 => loop g body ds st2
      | .ct st2 => loop g body ds st2
      | .bk st2 => .ok (.nx st2)
      | .rt r => .ok (.rt r)
/-- one turn -/
theorem loop_turn {K : PySem.W.Frag} {E : Ent} {F : Hp} {g : VG} {body : VS} {d : D} {ds : List D} {st : Sts} {D : Ends} {N : L2.St → Hp → Prop} (h : EndS K W E F (loop g body (d :: ds) st) D)
    (hN : ∀ st2 σ' F' H', Same F F' → Sim K E F' H' st2 σ' → EndS K W E F' (loop g body ds st2) D → N σ' H') :
    ∃ st1, g d st = some st1 ∧ EndS K W E F (body st1) { D with nx := N, ct := N, bk := D.nx } := by
  unfold loop at h
  cases e : g d st with
  | none => rw [e] at h; exact h.elim
  | some st1 =>
    rw [e] at h
    refine ⟨st1, rfl, ?_⟩
    dsimp only at h
    cases e2 : body st1 with
    | no => rw [e2] at h; exact h
    | exc c s => rw [e2] at h; exact h
    | ok fl =>
      rw [e2, R.bind_ok] at h
      cases fl with
      | nx st2 => exact fun σ' F' H' a S' => hN st2 σ' F' H' a S' (EndS.mono a h)
      | ct st2 => exact fun σ' F' H' a S' => hN st2 σ' F' H' a S' (EndS.mono a h)
      | bk st2 => exact h
      | rt r => exact h
def itemsOf : D → Option (List D)
  | .lst ds => some ds
  | .tup ds => some ds
  | .str x => some (x.map fun c => .str [c])
  | _ => none
def vFor (f : VE) (g : VG) (body : VS) : VS := fun st => (f st).bind fun p => match itemsOf p.1.d with
  | some ds => match p.1 with
    | .pk _ _ => .no
    | _ => loop g body ds p.2
  | none => .no
/-- what is walked: a list, a tuple, a text -/
def iUp (K : PySem.W.Frag) (W : Wx) (f : VE) : TI := fun σ H Rr => ∃ E F st, Sim K E F H st σ ∧ match f st with
  | .ok (r, st') => ∀ v F' H', Same F F' → Same H H' → Sim K E F' H' st' σ → VRel K E F' H' st' σ r v → (match r.d with
    | .lst _ => ∃ a vs, v = .ref a ∧ SqL K H' a vs ∧ Rr (Itl K a) H'
    | .tup _ => ∃ a vs, v = .ref a ∧ SqT K H' a vs ∧ Rr (Itt K a) H'
    | .str x => v = .str (tx x) ∧ Rr (Its (tx x)) H'
    | _ => False)
  | .exc c st' => ∀ F' H', Same F F' → Same H H' → Sim K E F' H' st' σ → W c σ H'
  | .no => False
theorem pi_up {tg e : Expr} {f : VE} (h : DE X W e f) : PI X tg e (iUp X.K W f) := by
  refine ⟨fun pins s σ H Rr I q => ?_⟩
  obtain ⟨E, F, st, S, q⟩ := q
  cases e1 : f st with
  | no => rw [e1] at q; exact q.elim
  | exc c st' =>
    rw [e1] at q
    exact (pi_list h).run pins s σ H Rr I ⟨E, F, st, S, by rw [e1]; exact q⟩
  | ok p =>
    rw [e1] at q
    cases hd : p.1.d with
    | lst ds =>
      refine (pi_list h).run pins s σ H Rr I ⟨E, F, st, S, ?_⟩
      rw [e1]
      intro v F' H' a b S' vr
      have q' := q v F' H' a b S' vr
      rw [hd] at q'
      obtain ⟨ad, vs, ev, sq, rr⟩ := q'
      exact ⟨ad, ev, ⟨vs, sq⟩, rr⟩
    | tup ds =>
      refine (pi_tup h).run pins s σ H Rr I ⟨E, F, st, S, ?_⟩
      rw [e1]
      intro v F' H' a b S' vr
      have q' := q v F' H' a b S' vr
      rw [hd] at q'
      obtain ⟨ad, vs, ev, sq, rr⟩ := q'
      exact ⟨ad, ev, ⟨vs, sq⟩, rr⟩
    | str x =>
      refine (pi_str h).run pins s σ H Rr I ⟨E, F, st, S, ?_⟩
      rw [e1]
      intro v F' H' a b S' vr
      have q' := q v F' H' a b S' vr
      rw [hd] at q'
      exact ⟨_, q'.1, q'.2⟩
    | non =>
      refine (pi_list h).run pins s σ H Rr I ⟨E, F, st, S, ?_⟩
      rw [e1]
      intro v F' H' a b S' vr
      have q' := q v F' H' a b S' vr
      rw [hd] at q'; exact q'.elim
    | bl c =>
      refine (pi_list h).run pins s σ H Rr I ⟨E, F, st, S, ?_⟩
      rw [e1]
      intro v F' H' a b S' vr
      have q' := q v F' H' a b S' vr
      rw [hd] at q'; exact q'.elim
    | int c =>
      refine (pi_list h).run pins s σ H Rr I ⟨E, F, st, S, ?_⟩
      rw [e1]
      intro v F' H' a b S' vr
      have q' := q v F' H' a b S' vr
      rw [hd] at q'; exact q'.elim
    | dcu ks vs =>
      refine (pi_list h).run pins s σ H Rr I ⟨E, F, st, S, ?_⟩
      rw [e1]
      intro v F' H' a b S' vr
      have q' := q v F' H' a b S' vr
      rw [hd] at q'; exact q'.elim
    | ins n ks vs =>
      refine (pi_list h).run pins s σ H Rr I ⟨E, F, st, S, ?_⟩
      rw [e1]
      intro v F' H' a b S' vr
      have q' := q v F' H' a b S' vr
      rw [hd] at q'; exact q'.elim
    | dct ks vs =>
      refine (pi_list h).run pins s σ H Rr I ⟨E, F, st, S, ?_⟩
      rw [e1]
      intro v F' H' a b S' vr
      have q' := q v F' H' a b S' vr
      rw [hd] at q'; exact q'.elim
/-- the invariant of a loop over fixed items -/
def LoopW (K : PySem.W.Frag) (W : Wx) (E : Ent) (F : Hp) (g : VG) (body : VS) (ds : List D) (D : Ends) (i m : Nat) (σ : L2.St) (H : Hp) : Prop :=
  ∃ F2 st2, Same F F2 ∧ Sim K E F2 H st2 σ ∧ EndS K W E F2 (loop g body (ds.drop i) st2) D ∧ m = ds.length - i ∧ i ≤ ds.length
theorem loop_rule {K : PySem.W.Frag} {E : Ent} {F H : Hp} {g : VG} {body : VS} {ds : List Vl.D} {D : Ends} {st : Sts} {σ : L2.St} {J : It} {tb : TS} {tg : TG} (S : Sim K E F H st σ) (h : EndS K W E F (loop g body ds st) D)
    (hb : tb = upS K W body) (hg : tg = upG K g)
    (hgo : ∀ (i : Nat) (d : Vl.D) (F2 H2 : Hp), Same F F2 → Same F2 H2 → ds[i]? = some d → J.go i H2 ∧ ∀ x H', J.yld i H2 x H' → H' = H2 ∧ Rep K F2 d x)
    (hstop : ∀ (i : Nat) (F2 H2 : Hp), Same F F2 → Same F2 H2 → ds.length ≤ i → J.stop i H2) :
    ∃ Wl : Nat → Nat → L2.St → Hp → Prop, (∃ m, Wl 0 m σ H) ∧ ∀ i m σ H, Wl i m σ H → (J.stop i H ∧ D.nx σ H) ∨
      (J.go i H ∧ ∃ N : L2.St → Hp → Prop, (∀ σ' H', N σ' H' → ∃ m', m' < m ∧ Wl (i + 1) m' σ' H') ∧ ∀ x H', J.yld i H x H' → tg x σ H' fun σ2 H2 => tb { D with nx := N, ct := N, bk := D.nx } σ2 H2) := by
  subst hb hg
  refine ⟨LoopW K W E F g body ds D, ⟨ds.length, F, st, Same.refl _, S, h, by simp, Nat.zero_le _⟩, ?_⟩
  rintro i m σ' H' ⟨F2, st2, sF, S2, q, rfl, hi⟩
  by_cases hlt : i < ds.length
  · have ed : ds.drop i = ds[i] :: ds.drop (i + 1) := List.drop_eq_getElem_cons hlt
    rw [ed] at q
    obtain ⟨go, yl⟩ := hgo i ds[i] F2 H' sF S2.sub (List.getElem?_eq_getElem hlt)
    refine .inr ⟨go, fun σ' H' => LoopW K W E F g body ds D (i + 1) (ds.length - (i + 1)) σ' H', fun σ' H' n => ⟨_, by omega, n⟩, fun x H3 y => ?_⟩
    obtain ⟨e3, rx⟩ := yl x H3 y
    subst e3
    obtain ⟨st1, e1, q1⟩ := loop_turn (N := fun σ' H' => LoopW K W E F g body ds D (i + 1) (ds.length - (i + 1)) σ' H') q fun st3 σ3 F3 H3 a3 S3 k3 => ⟨F3, st3, sF.trans a3, S3, k3, rfl, hlt⟩
    exact ⟨E, F2, st2, ds[i], st1, S2, rx, e1, fun σ4 F4 H4 a4 S4 => ⟨E, F4, st1, S4, EndS.mono a4 q1⟩⟩
  · have ei : i = ds.length := by omega
    have ed : ds.drop i = [] := List.drop_eq_nil_of_le (by omega)
    rw [ed] at q
    exact .inl ⟨hstop i F2 H' sF S2.sub (by omega), q σ' F2 H' (Same.refl _) S2⟩
theorem ds_for {tg e : Expr} {ss : List Stmt} {f : VE} {g : VG} {body : VS} (hp : PassesOwn (model X.prog X.w) X.A X.env X.xe) (hc : X.calm = true) (he : DE X W e f) (hg : DG X tg g) (hb : DSs X W ss body)
    (hs : ∀ x, foldedSetIterable e X.env x = pure x := by intro _; rfl) : DS X W (.For tg e ss [] pos) (vFor f g body) := PS.imp (ps_for hp hc (pi_up he) hg hb hs) fun D σ H ⟨E, F, st, S, q⟩ => by
  refine ⟨E, F, st, S, ?_⟩
  unfold vFor at q
  cases e1 : f st with
  | no => rw [e1] at q; exact q
  | exc c st' => rw [e1] at q; exact fun F' H' a b S' => q σ F' H' a S'
  | ok p =>
    rw [e1, R.bind_ok] at q
    intro v F1 H1 a1 b1 S1 vr
    obtain ⟨r, st1⟩ := p
    dsimp only at q ⊢
    -- the source is frozen
    have key : ∃ F2, Same F1 F2 ∧ Sim X.K E F2 H1 st1 σ ∧ Rep X.K F2 r.d v ∧ ∃ ds, itemsOf r.d = some ds ∧ EndS X.K W E F2 (loop g body ds st1) D := by
      cases hi : itemsOf r.d with
      | none => rw [hi] at q; exact q.elim
      | some ds =>
        rw [hi] at q
        dsimp only at q
        cases r with
        | fz d => exact ⟨F1, Same.refl _, S1, vr, ds, rfl, EndS.mono a1 q⟩
        | nw m =>
          obtain ⟨F2, sF, S2, rp⟩ := settle S1 vr
          exact ⟨F2, sF, S2, rp, ds, rfl, EndS.mono (a1.trans sF) q⟩
        | pk j m => exact q.elim
    obtain ⟨F2, sF, S2, rp, ds, hi, q2⟩ := key
    cases hd : r.d with
    | lst es =>
      rw [hd] at rp hi
      cases hi
      obtain ⟨ad, vs, e2, rd, rs⟩ := rp
      refine ⟨ad, vs, e2, Same.seq S2.sub rd, ?_⟩
      refine loop_rule (J := Itl X.K ad) S2 q2 rfl rfl (fun i d F3 H3 a b hd => ?_) (fun i F3 H3 a b hl => ?_)
      · obtain ⟨w, ew, rw'⟩ := Reps.get rs hd
        have sq : SqL X.K H3 ad vs := Same.seq (a.trans b) rd
        exact ⟨⟨vs, w, sq, ew⟩, fun x H' ⟨y1, y2⟩ => ⟨y1, by
          have := y2 vs sq
          rw [ew] at this
          cases this
          exact Rep.mono a _ _ rw'⟩⟩
      · exact ⟨vs, Same.seq (a.trans b) rd, by rw [rs.length]; exact hl⟩
    | tup es =>
      rw [hd] at rp hi
      cases hi
      obtain ⟨ad, vs, e2, rd, rs⟩ := rp
      refine ⟨ad, vs, e2, SqT.of (S2.sub _ _ rd), ?_⟩
      refine loop_rule (J := Itt X.K ad) S2 q2 rfl rfl (fun i d F3 H3 a b hd => ?_) (fun i F3 H3 a b hl => ?_)
      · obtain ⟨w, ew, rw'⟩ := Reps.get rs hd
        have sq : SqT X.K H3 ad vs := SqT.of ((a.trans b) _ _ rd)
        exact ⟨⟨vs, w, sq, ew⟩, fun x H' ⟨y1, y2⟩ => ⟨y1, by
          have := y2 vs sq
          rw [ew] at this
          cases this
          exact Rep.mono a _ _ rw'⟩⟩
      · exact ⟨vs, SqT.of ((a.trans b) _ _ rd), by rw [rs.length]; exact hl⟩
    | str z =>
      rw [hd] at rp hi
      cases hi
      obtain ⟨e2, ok⟩ := rp
      refine ⟨e2, ?_⟩
      refine loop_rule (J := Its (tx z)) S2 q2 rfl rfl (fun i d F3 H3 a b hd => ?_) (fun i F3 H3 a b hl => ?_)
      · rw [List.getElem?_map] at hd
        obtain ⟨c, e3, e4⟩ := Option.map_eq_some_iff.mp hd
        subst e4
        obtain ⟨hlt, _⟩ := List.getElem?_eq_some_iff.mp e3
        refine ⟨by show i < z.toArray.size; simpa using hlt, fun x H' ⟨y1, c', y2, y3⟩ => ⟨y1, ?_⟩⟩
        have y2' : z.toArray[i]? = some c' := y2
        rw [List.getElem?_toArray, e3] at y2'
        cases y2'
        refine ⟨y3, ?_, fun c2 hc2 => ?_⟩
        · show 1 ≤ sizeLine
          decide
        · have : c2 = c := by simpa using hc2
          subst this
          exact ok.2 _ (List.mem_of_getElem? e3)
      · show z.toArray.size ≤ i
        simpa using hl
    | non => rw [hd] at hi; cases hi
    | bl c => rw [hd] at hi; cases hi
    | int c => rw [hd] at hi; cases hi
    | dct ks vs => rw [hd] at hi; cases hi
    | dcu ks vs => rw [hd] at hi; cases hi
    | ins n ks vs => rw [hd] at hi; cases hi
/-! ### over a range -/
def bigI (i : Int) : Bool := decide (-(2 ^ 62) ≤ i) && decide (i < 2 ^ 62)
def rangeD (lo : Int) (n : Nat) : List D := (List.range n).map fun (i : Nat) => D.int (lo + (i : Int))
def vForR1 (f : VA) (g : VG) (body : VS) : VS := fun st => (f st).bind fun p => match p.1.map Val.d with
  | [.int n] => if bigI n then loop g body (rangeD 0 n.toNat) p.2 else .no
  | _ => .no
def vForR2 (f : VA) (g : VG) (body : VS) : VS := fun st => (f st).bind fun p => match p.1.map Val.d with
  | [.int a, .int b] => if bigI a && bigI b then loop g body (rangeD a (b - a).toNat) p.2 else .no
  | _ => .no
theorem bigI_ok {i : Int} (h : bigI i = true) : -(2 ^ 62) ≤ i ∧ i < 2 ^ 62 := by
  unfold bigI at h
  rw [Bool.and_eq_true] at h
  exact ⟨of_decide_eq_true h.1, of_decide_eq_true h.2⟩
theorem range_rule {K : PySem.W.Frag} {E : Ent} {F H : Hp} {g : VG} {body : VS} {D : Ends} {st : Sts} {σ : L2.St} {lo : Int} {n : Nat} (S : Sim K E F H st σ) (h : EndS K W E F (loop g body (rangeD lo n) st) D) :
    ∃ Wl : Nat → Nat → L2.St → Hp → Prop, (∃ m, Wl 0 m σ H) ∧ ∀ i m σ H, Wl i m σ H → ((Itr lo n).stop i H ∧ D.nx σ H) ∨
      ((Itr lo n).go i H ∧ ∃ N : L2.St → Hp → Prop, (∀ σ' H', N σ' H' → ∃ m', m' < m ∧ Wl (i + 1) m' σ' H') ∧ ∀ x H', (Itr lo n).yld i H x H' → upG K g x σ H' fun σ2 H2 => upS K W body { D with nx := N, ct := N, bk := D.nx } σ2 H2) := by
  refine loop_rule (J := Itr lo n) S h rfl rfl (fun i d F3 H3 a b hd => ?_) (fun i F3 H3 a b hl => ?_)
  · unfold rangeD at hd
    rw [List.getElem?_map] at hd
    obtain ⟨j, e1, e2⟩ := Option.map_eq_some_iff.mp hd
    obtain ⟨hlt, e3⟩ := List.getElem?_eq_some_iff.mp e1
    rw [List.getElem_range] at e3
    subst e3 e2
    exact ⟨by show i < n; simpa using hlt, fun x H' ⟨y1, y2⟩ => ⟨y1, y2⟩⟩
  · show n ≤ i
    simpa [rangeD] using hl
theorem ds_forR1 {tg e : Expr} {ss : List Stmt} {f : VA} {g : VG} {body : VS} {p p2 : Pos} (hp : PassesOwn (model X.prog X.w) X.A X.env X.xe) (hc : X.calm = true) (hgl : Gl X "range") (hm : X.mg "range" = none) (he : DA X W [e] f) (hg : DG X tg g) (hb : DSs X W ss body)
    (hst : starEach [e] X.env = [(false, eval e X.env)] := by rfl) (hs : ∀ x, foldedSetIterable (.Call (.Name "range" p) [e] [] p2) X.env x = pure x := by intro _; rfl) : DS X W (.For tg (.Call (.Name "range" p) [e] [] p2) ss [] pos) (vForR1 f g body) :=
  PS.imp (ps_for hp hc (pi_range1 hgl hm he hst) hg hb hs) fun D σ H ⟨E, F, st, S, q⟩ => by
    refine aseqS S q fun rs st1 vs F1 H1 a b S1 ar k => ?_
    dsimp only at k
    have ar' := ar.o
    match hds : rs.map Val.d, k with
    | [.int n], k =>
      rw [hds] at ar'
      dsimp only at k
      obtain ⟨v, rfl, h⟩ := ar'.one
      have h := h.int
      subst h
      by_cases hn : bigI n = true
      · rw [if_pos hn] at k
        exact ⟨n, rfl, (bigI_ok hn).1, (bigI_ok hn).2, range_rule S1 k⟩
      · rw [if_neg hn] at k; exact k.elim
theorem ds_forR2 {tg e e2 : Expr} {ss : List Stmt} {f : VA} {g : VG} {body : VS} {p p2 : Pos} (hp : PassesOwn (model X.prog X.w) X.A X.env X.xe) (hc : X.calm = true) (hgl : Gl X "range") (hm : X.mg "range" = none) (he : DA X W [e, e2] f) (hg : DG X tg g) (hb : DSs X W ss body)
    (hst : starEach [e, e2] X.env = [(false, eval e X.env), (false, eval e2 X.env)] := by rfl) (hst2 : starEach [e2] X.env = [(false, eval e2 X.env)] := by rfl) (hs : ∀ x, foldedSetIterable (.Call (.Name "range" p) [e, e2] [] p2) X.env x = pure x := by intro _; rfl) : DS X W (.For tg (.Call (.Name "range" p) [e, e2] [] p2) ss [] pos) (vForR2 f g body) :=
  PS.imp (ps_for hp hc (pi_range2 hgl hm he hst hst2) hg hb hs) fun D σ H ⟨E, F, st, S, q⟩ => by
    refine aseqS S q fun rs st1 vs F1 H1 a b S1 ar k => ?_
    dsimp only at k
    have ar' := ar.o
    match hds : rs.map Val.d, k with
    | [.int lo, .int hi], k =>
      rw [hds] at ar'
      dsimp only at k
      obtain ⟨v, w, rfl, h, h2⟩ := ar'.two
      have h := h.int
      have h2 := h2.int
      subst h h2
      by_cases hn : (bigI lo && bigI hi) = true
      · rw [if_pos hn] at k
        rw [Bool.and_eq_true] at hn
        exact ⟨lo, hi, rfl, ⟨(bigI_ok hn.1).1, (bigI_ok hn.1).2, (bigI_ok hn.2).1, (bigI_ok hn.2).2⟩, range_rule S1 k⟩
      · rw [if_neg hn] at k; exact k.elim
/-! ### while: so many turns at most -/
def whileN (t : VT) (body : VS) : Nat → VS
  | 0 => fun _ => .no
  | n + 1 => fun st => (t st).bind fun p => if p.1 = true then (body p.2).bind fun fl => match fl with
      | .nx st2 => whileN t body n st2
      | .ct st2 => whileN t body n st2
      | .bk st2 => .ok (.nx st2)
      | .rt r => .ok (.rt r)
    else .ok (.nx p.2)
theorem ds_while {c : Expr} {ss : List Stmt} {t : VT} {body : VS} (n : Nat) (hp : PassesOwn (model X.prog X.w) X.A X.env X.xe) (hc : DT X W c t) (hb : DSs X W ss body) : DS X W (.While c ss [] pos) (whileN t body n) :=
  PS.imp (ps_while hp hc hb) fun D σ H ⟨E, F, st, S, q⟩ => by
    refine ⟨fun m σ' H' => ∃ F2 st2, Sim X.K E F2 H' st2 σ' ∧ EndS X.K W E F2 (whileN t body m st2) D, ⟨n, F, st, S, q⟩, ?_⟩
    rintro m σ' H' ⟨F2, st2, S2, q2⟩
    cases m with
    | zero => exact q2.elim
    | succ m =>
      refine tseqS S2 (k := fun p => if p.1 = true then (body p.2).bind fun fl => match fl with
          | .nx st2 => whileN t body m st2
          | .ct st2 => whileN t body m st2
          | .bk st2 => .ok (.nx st2)
          | .rt r => .ok (.rt r)
        else .ok (.nx p.2)) q2 fun r st3 F3 H3 a b S3 k => ?_
      cases r with
      | false => rw [if_neg Bool.false_ne_true]; exact k σ' F3 H3 (Same.refl _) S3
      | true =>
        rw [if_pos rfl] at k ⊢
        refine ⟨fun σ4 H4 => ∃ F4 st4, Sim X.K E F4 H4 st4 σ4 ∧ EndS X.K W E F4 (whileN t body m st4) D, fun σ4 H4 h => ⟨m, Nat.lt_succ_self m, h⟩, E, F3, st3, S3, ?_⟩
        dsimp only at k
        cases e2 : body st3 with
        | no => rw [e2] at k; exact k
        | exc c s => rw [e2] at k; exact k
        | ok fl =>
          rw [e2, R.bind_ok] at k
          cases fl with
          | nx st4 => exact fun σ5 F5 H5 a5 S5 => ⟨F5, st4, S5, EndS.mono a5 k⟩
          | ct st4 => exact fun σ5 F5 H5 a5 S5 => ⟨F5, st4, S5, EndS.mono a5 k⟩
          | bk st4 => exact k
          | rt r => exact k
end
/-! ## a def -/
def Val.out : Val → Val
  | .pk _ m => .nw m
  | r => r
def fin : R Flow → R Val
  | .ok (.rt r) => .ok r.out
  | .ok (.nx _) => .ok (.fz .non)
  | _ => .no
def runB (np nl : Nat) (body : VS) : Fn := fun ds => if ds.length = np then fin (body (ds.map .val ++ List.replicate nl .no)) else .no
theorem Reps.of_spF {K : PySem.W.Frag} {F H : Hp} {ds : List D} {vs : List V} (h : Reps K F ds vs) (nl : Nat) (s : Same F H) : Sim K { H := H, F := F } F H (ds.map Sl.val ++ List.replicate nl Sl.no) (vs.map some ++ List.replicate nl none) where
  sub := s
  ent := Same.refl _
  fe := Same.refl _
  gr := fun a o e => .inl e
  len := by simp [h.length]
  val := fun i d e => by
    by_cases hi : i < ds.length
    · rw [List.getElem?_append_left (by simpa using hi), List.getElem?_map] at e
      obtain ⟨d', e1, e2⟩ := Option.map_eq_some_iff.mp e
      cases e2
      obtain ⟨v, e3, r⟩ := Reps.get h e1
      refine ⟨v, ?_, r⟩
      rw [List.getElem?_append_left (by rw [List.length_map, h.length]; exact hi), List.getElem?_map, e3]
      rfl
    · rw [List.getElem?_append_right (by simpa using hi)] at e
      rw [List.getElem?_replicate] at e
      split at e <;> cases e
  own := fun i m e => by
    exfalso
    by_cases hi : i < ds.length
    · rw [List.getElem?_append_left (by simpa using hi), List.getElem?_map] at e
      obtain ⟨d', e1, e2⟩ := Option.map_eq_some_iff.mp e
      cases e2
    · rw [List.getElem?_append_right (by simpa using hi), List.getElem?_replicate] at e
      split at e <;> cases e
  sep := fun i j m m' a hij e => by
    exfalso
    by_cases hi : i < ds.length
    · rw [List.getElem?_append_left (by simpa using hi), List.getElem?_map] at e
      obtain ⟨d', e1, e2⟩ := Option.map_eq_some_iff.mp e
      cases e2
    · rw [List.getElem?_append_right (by simpa using hi), List.getElem?_replicate] at e
      split at e <;> cases e
  adr := fun i a e => by
    exfalso
    by_cases hi : i < ds.length
    · rw [List.getElem?_append_left (by simpa using hi), List.getElem?_map] at e
      obtain ⟨d', e1, e2⟩ := Option.map_eq_some_iff.mp e
      cases e2
    · rw [List.getElem?_append_right (by simpa using hi), List.getElem?_replicate] at e
      split at e <;> cases e
theorem ret_rel {K : PySem.W.Frag} {E : Ent} {F H : Hp} {st : Sts} {σ : L2.St} {r : Val} {v : V} (S : Sim K E F H st σ) (h : VRel K E F H st σ r v) : RRel K E.H F H r.out v := by
  cases r with
  | fz d => exact h
  | nw m =>
    obtain ⟨p, e, ow, _⟩ := h
    obtain ⟨o, e2, e3⟩ := ow.here
    exact ⟨p, o, e, ow.f, ow.e, e2, e3⟩
  | pk i m =>
    obtain ⟨h1, h2⟩ := h
    obtain ⟨a, e, ow⟩ := S.own i m h1
    rw [h2] at e
    cases e
    obtain ⟨o, e2, e3⟩ := ow.here
    exact ⟨a, o, rfl, ow.f, ow.e, e2, e3⟩
/-- THE RULE for a def that lets nothing out -/
theorem fn_ok {P : Program} {w : World} {K : PySem.W.Frag} {mg : Str → Option Value} {base : Heap} {x qual : Str} {s : Stmt} {f : Addr} {fd : FuncData} {N ps : List Str} {k : Nat} {cls : Nat → Value} {body : VS} (nl : Nat) (F : Fun K x qual s f fd) (Sc : FnScope N ps (defScope s)) (hN : N.length = ps.length + nl)
    (hb : ∀ (cdv : Value) (A : Around) (outer : List Env) (sh : Shared) (H : Hp) (E : XK), Room k (A.deeper (envOfC qual (defScope s) sh.heap.objs.size f cdv)) → DSs (cxOf CX0 P w K mg base N qual (defScope s) f cdv A outer sh H E).nox (fun _ _ _ => False) (defBody s) body) :
    FnOk P w K mg base CX0 (k + 1) f fd ps (spF K cls (runB ps.length nl body)) := by
  refine F.ok Sc (fun vs H Q E h => ?_) (fun cdv A outer sh H vs Q E hr h => ⟨_, hb cdv A outer sh H E hr, ?_⟩)
  · obtain ⟨F, ds, sF, rs, h⟩ := h
    rw [rs.length]
    unfold runB at h
    by_cases hl : ds.length = ps.length
    · exact hl
    · rw [if_neg hl] at h; exact h.elim
  · obtain ⟨Fe, ds, sF, rs, h⟩ := h
    unfold runB at h
    by_cases hl : ds.length = ps.length
    · rw [if_pos hl] at h
      have est : L2.start N vs = vs.map some ++ List.replicate nl none := by
        unfold L2.start
        rw [rs.length, hl, hN, Nat.add_sub_cancel_left]
      rw [est]
      refine ⟨{ H := H, F := Fe }, Fe, _, rs.of_spF nl sF, ?_⟩
      cases e : body (ds.map Sl.val ++ List.replicate nl Sl.no) with
      | no => rw [e] at h; exact h
      | exc c s' =>
        rw [e] at h
        exact h.elim
      | ok fl =>
        rw [e] at h
        cases fl with
        | nx st' => exact fun σ' F' H' a S' => h _ F' H' a S'.ent S'.sub S'.gr rfl
        | bk st' => exact h.elim
        | ct st' => exact h.elim
        | rt r => exact fun v st' σ' F' H' a S' vr => h v F' H' a S'.ent S'.sub S'.gr (ret_rel S' vr)
    · rw [if_neg hl] at h; exact h.elim
end Vl
namespace Vl
open PySem PySem.Spec PyProof.Rows L2
section
variable {X : Cx} {W : Wx} {pos : Pos}
/-! ## module constants -/
theorem de_gint {x : Str} {i : Int} (hg : Gl X x) (h : ∃ t, X.mg x = some (.int i t)) (hd : (x == ("__debug__" : Str)) = false := by decide) : DE X W (.Name x pos) (vC (.int i)) := by
  obtain ⟨t, h⟩ := h
  exact de_const (pe_glob hg h (v := .int i) ⟨t, rfl⟩ hd) fun _ => rfl
theorem de_gstr {x : Str} {z : Str} {l : List Nat} (hg : Gl X x) (h : ∃ t, X.mg x = some (.str z t)) (hz : z.cps.toList = l := by rfl) (ok : TxOk l := by exact ⟨by decide, by decide⟩) (hd : (x == ("__debug__" : Str)) = false := by decide) : DE X W (.Name x pos) (vC (.str l)) := by
  obtain ⟨t, h⟩ := h
  subst hz
  exact de_const (pe_glob hg h (v := .str z) ⟨t, rfl⟩ hd) fun _ => ⟨by cases z; rfl, ok⟩
end
theorem hu65 {A : Around} {k : Nat} (hr : Room k A) : A.units + 65 < cLine := by have := hr.un; omega
/-! ## the law's own def -/
def cls0 : Nat → Value := fun _ => .none
theorem reps_ints {K : PySem.W.Frag} {H : Hp} : ∀ ns : List Int, Reps K H (ns.map D.int) (ns.map V.int)
  | [] => rfl
  | n :: ns => ⟨_, _, rfl, rfl, reps_ints ns⟩
theorem law_sp {K : PySem.W.Frag} {cls : Nat → Value} {run : Fn} {H : Hp} {a : Addr} {ns : List Int} (hS : SqL K H a (ns.map V.int)) (h : run [.lst (ns.map .int)] = .ok (.fz (.bl true))) : spF K cls run [.ref a] H (fun v _ => v = .bl true) fun _ _ _ => False := by
  refine ⟨H, [.lst (ns.map .int)], Same.refl _, ⟨_, [], rfl, ⟨a, _, rfl, hS, reps_ints ns⟩, rfl⟩, ?_⟩
  rw [h]
  intro v F' H' _ _ _ _ r
  exact r
end Vl
namespace Vl
/-! ## the combinators, run: each continuation by a name (simp doesn't look into it before its value is known) -/
def nameEnd (o : Option Sl) (i : Nat) (st : Sts) : R (Val × Sts) := match o with
  | some (.val d) => .ok (.fz d, st)
  | some (.own m) => .ok (.fz m.d, st.set i (.val m.d))
  | _ => .no
def peekEnd (o : Option Sl) (i : Nat) (st : Sts) : R (Val × Sts) := match o with
  | some (.val d) => .ok (.fz d, st)
  | some (.own m) => .ok (.pk i m, st)
  | _ => .no
theorem vName_ap (i : Nat) (st : Sts) : vName i st = nameEnd (st[i]?) i st := byDef rfl
theorem nameEnd_val (d : D) (i : Nat) (st : Sts) : nameEnd (some (.val d)) i st = .ok (.fz d, st) := byDef rfl
theorem nameEnd_own (m : M) (i : Nat) (st : Sts) : nameEnd (some (.own m)) i st = .ok (.fz m.d, st.set i (.val m.d)) := byDef rfl
theorem vPeek_ap (i : Nat) (st : Sts) : vPeek i st = peekEnd (st[i]?) i st := byDef rfl
theorem peekEnd_val (d : D) (i : Nat) (st : Sts) : peekEnd (some (.val d)) i st = .ok (.fz d, st) := byDef rfl
theorem peekEnd_own (m : M) (i : Nat) (st : Sts) : peekEnd (some (.own m)) i st = .ok (.pk i m, st) := byDef rfl
theorem vC_ap (d : D) (st : Sts) : vC d st = .ok (.fz d, st) := byDef rfl
def kSto (p : Val × Sts) : R (Val × Sts) := match p with
  | (.fz d, st') => .ok (.fz d, st')
  | (.nw m, st') => .ok (.fz m.d, st')
  | (.pk _ _, _) => .no
theorem vSto_ap (f : VE) (st : Sts) : vSto f st = (f st).bind kSto := byDef rfl
theorem kSto_fz (d : D) (st : Sts) : kSto (.fz d, st) = .ok (.fz d, st) := byDef rfl
theorem kSto_nw (m : M) (st : Sts) : kSto (.nw m, st) = .ok (.fz m.d, st) := byDef rfl
def kArg (p : Val × Sts) : R (Val × Sts) := match p with
  | (.fz d, st') => .ok (.fz d, st')
  | (.nw m, st') => .ok (.fz m.d, st')
  | (.pk i m, st') => .ok (.pk i m, st')
theorem vArg_ap (f : VE) (st : Sts) : vArg f st = (f st).bind kArg := byDef rfl
theorem kArg_fz (d : D) (st : Sts) : kArg (.fz d, st) = .ok (.fz d, st) := byDef rfl
theorem kArg_nw (m : M) (st : Sts) : kArg (.nw m, st) = .ok (.fz m.d, st) := byDef rfl
theorem kArg_pk (i : Nat) (m : M) (st : Sts) : kArg (.pk i m, st) = .ok (.pk i m, st) := byDef rfl
theorem vNil_ap (st : Sts) : vNil st = .ok ([], st) := byDef rfl
def kCons2 (r : Val) (q : List Val × Sts) : R (List Val × Sts) := .ok (r :: q.1, q.2)
def kCons (g : VA) (p : Val × Sts) : R (List Val × Sts) := (g p.2).bind (kCons2 p.1)
theorem vCons_ap (f : VE) (g : VA) (st : Sts) : vCons f g st = (f st).bind (kCons g) := byDef rfl
theorem kCons_ap (g : VA) (r : Val) (st : Sts) : kCons g (r, st) = (g st).bind (kCons2 r) := byDef rfl
theorem kCons2_ap (r : Val) (rs : List Val) (st : Sts) : kCons2 r (rs, st) = .ok (r :: rs, st) := byDef rfl
def k2b (o : D → D → Option Val) (x : Val) (q : Val × Sts) : R (Val × Sts) := give (o x.d q.1.d) q.2
def k2 (o : D → D → Option Val) (g : VE) (p : Val × Sts) : R (Val × Sts) := (g p.2).bind (k2b o p.1)
theorem v2_ap (o : D → D → Option Val) (f g : VE) (st : Sts) : v2 o f g st = (f st).bind (k2 o g) := byDef rfl
theorem k2_ap (o : D → D → Option Val) (g : VE) (r : Val) (st : Sts) : k2 o g (r, st) = (g st).bind (k2b o r) := byDef rfl
theorem k2b_ap (o : D → D → Option Val) (x r : Val) (st : Sts) : k2b o x (r, st) = give (o x.d r.d) st := byDef rfl
def k1 (o : D → Option Val) (p : Val × Sts) : R (Val × Sts) := give (o p.1.d) p.2
theorem v1_ap (o : D → Option Val) (f : VE) (st : Sts) : v1 o f st = (f st).bind (k1 o) := byDef rfl
theorem k1_ap (o : D → Option Val) (r : Val) (st : Sts) : k1 o (r, st) = give (o r.d) st := byDef rfl
def kN (o : List D → Option Val) (p : List Val × Sts) : R (Val × Sts) := give (o (p.1.map Val.d)) p.2
theorem vN_ap (o : List D → Option Val) (f : VA) (st : Sts) : vN o f st = (f st).bind (kN o) := byDef rfl
theorem kN_ap (o : List D → Option Val) (rs : List Val) (st : Sts) : kN o (rs, st) = give (o (rs.map Val.d)) st := byDef rfl
theorem give_ite {c : Prop} [Decidable c] (x y : Option Val) (st : Sts) : give (if c then x else y) st = if c then give x st else give y st := by split <;> rfl
theorem asB_ap (b : Bool) (st : Sts) : asB (.fz (.bl b), st) = .ok (b, st) := byDef rfl
theorem vTest_ap (f : VE) (st : Sts) : vTest f st = (f st).bind asB := byDef rfl
def kNotT (p : Bool × Sts) : R (Bool × Sts) := .ok (!p.1, p.2)
theorem vNotT_ap (t : VT) (st : Sts) : vNotT t st = (t st).bind kNotT := byDef rfl
theorem kNotT_ap (b : Bool) (st : Sts) : kNotT (b, st) = .ok (!b, st) := byDef rfl
def kAndT (u : VT) (p : Bool × Sts) : R (Bool × Sts) := if p.1 = true then u p.2 else .ok (false, p.2)
theorem vAndT_ap (t u : VT) (st : Sts) : vAndT t u st = (t st).bind (kAndT u) := byDef rfl
theorem kAndT_ap (u : VT) (b : Bool) (st : Sts) : kAndT u (b, st) = if b = true then u st else .ok (false, st) := byDef rfl
def kOrT (u : VT) (p : Bool × Sts) : R (Bool × Sts) := if p.1 = true then .ok (true, p.2) else u p.2
theorem vOrT_ap (t u : VT) (st : Sts) : vOrT t u st = (t st).bind (kOrT u) := byDef rfl
theorem kOrT_ap (u : VT) (b : Bool) (st : Sts) : kOrT u (b, st) = if b = true then .ok (true, st) else u st := byDef rfl
def kNot (p : Val × Sts) : R (Val × Sts) := (asB p).bind fun q => .ok (.fz (.bl (!q.1)), q.2)
theorem vNot_ap (f : VE) (st : Sts) : vNot f st = (f st).bind kNot := byDef rfl
theorem kNot_ap (b : Bool) (st : Sts) : kNot (.fz (.bl b), st) = .ok (.fz (.bl (!b)), st) := byDef rfl
def kAnd (g : VE) (p : Val × Sts) : R (Val × Sts) := (asB p).bind fun q => if q.1 = true then g q.2 else .ok (.fz (.bl false), q.2)
theorem vAnd_ap (f g : VE) (st : Sts) : vAnd f g st = (f st).bind (kAnd g) := byDef rfl
theorem kAnd_ap (g : VE) (b : Bool) (st : Sts) : kAnd g (.fz (.bl b), st) = if b = true then g st else .ok (.fz (.bl false), st) := byDef rfl
def kOr (g : VE) (p : Val × Sts) : R (Val × Sts) := (asB p).bind fun q => if q.1 = true then .ok (.fz (.bl true), q.2) else g q.2
theorem vOr_ap (f g : VE) (st : Sts) : vOr f g st = (f st).bind (kOr g) := byDef rfl
theorem kOr_ap (g : VE) (b : Bool) (st : Sts) : kOr g (.fz (.bl b), st) = if b = true then .ok (.fz (.bl true), st) else g st := byDef rfl
def kIfE (f g : VE) (p : Bool × Sts) : R (Val × Sts) := if p.1 = true then f p.2 else g p.2
theorem vIfE_ap (t : VT) (f g : VE) (st : Sts) : vIfE t f g st = (t st).bind (kIfE f g) := byDef rfl
theorem kIfE_ap (f g : VE) (b : Bool) (st : Sts) : kIfE f g (b, st) = if b = true then f st else g st := byDef rfl
def tupEnd (o : Option (List D)) (st : Sts) : R (Val × Sts) := match o with
  | some ds => if ds.length ≤ 1000 then .ok (.fz (.tup ds), st) else .no
  | none => .no
def lstEnd (o : Option (List D)) (st : Sts) : R (Val × Sts) := match o with
  | some ds => if ds.length ≤ 1000 then .ok (.nw (.lst ds), st) else .no
  | none => .no
def kTup (p : List Val × Sts) : R (Val × Sts) := tupEnd (fzs p.1) p.2
def kLst (p : List Val × Sts) : R (Val × Sts) := lstEnd (fzs p.1) p.2
theorem vTup_ap (f : VA) (st : Sts) : vTup f st = (f st).bind kTup := byDef rfl
theorem vLst_ap (f : VA) (st : Sts) : vLst f st = (f st).bind kLst := byDef rfl
theorem kTup_ap (rs : List Val) (st : Sts) : kTup (rs, st) = tupEnd (fzs rs) st := byDef rfl
theorem kLst_ap (rs : List Val) (st : Sts) : kLst (rs, st) = lstEnd (fzs rs) st := byDef rfl
theorem tupEnd_ap (ds : List D) (st : Sts) : tupEnd (some ds) st = if ds.length ≤ 1000 then .ok (.fz (.tup ds), st) else .no := byDef rfl
theorem lstEnd_ap (ds : List D) (st : Sts) : lstEnd (some ds) st = if ds.length ≤ 1000 then .ok (.nw (.lst ds), st) else .no := byDef rfl
def kIsi (T : Ty) (p : Val × Sts) : R (Val × Sts) := .ok (.fz (.bl (isT T p.1.d)), p.2)
theorem vIsi_ap (T : Ty) (f : VE) (st : Sts) : vIsi T f st = (f st).bind (kIsi T) := byDef rfl
theorem kIsi_ap (T : Ty) (r : Val) (st : Sts) : kIsi T (r, st) = .ok (.fz (.bl (isT T r.d)), st) := byDef rfl
def kPart (p : Val × Sts) : R (Option Int × Sts) := match p with
  | (.fz (.int i), st') => .ok (some i, st')
  | _ => .no
theorem vPart_ap (f : VE) (st : Sts) : vPart f st = (f st).bind kPart := byDef rfl
theorem kPart_ap (i : Int) (st : Sts) : kPart (.fz (.int i), st) = .ok (some i, st) := byDef rfl
theorem vNoPart_ap (st : Sts) : vNoPart st = .ok (none, st) := byDef rfl
def kSl3 (x : Val) (lo : Option Int) (r : Option Int × Sts) : R (Val × Sts) := give (oSl x.d lo r.1) r.2
def kSl2 (h : VO) (x : Val) (q : Option Int × Sts) : R (Val × Sts) := (h q.2).bind (kSl3 x q.1)
def kSl (l h : VO) (p : Val × Sts) : R (Val × Sts) := (l p.2).bind (kSl2 h p.1)
theorem vSl_ap (f : VE) (l h : VO) (st : Sts) : vSl f l h st = (f st).bind (kSl l h) := byDef rfl
theorem kSl_ap (l h : VO) (r : Val) (st : Sts) : kSl l h (r, st) = (l st).bind (kSl2 h r) := byDef rfl
theorem kSl2_ap (h : VO) (x : Val) (lo : Option Int) (st : Sts) : kSl2 h x (lo, st) = (h st).bind (kSl3 x lo) := byDef rfl
theorem kSl3_ap (x : Val) (lo hi : Option Int) (st : Sts) : kSl3 x lo (hi, st) = give (oSl x.d lo hi) st := byDef rfl
def kCall (run : Fn) (p : List Val × Sts) : R (Val × Sts) := callEnd (run (p.1.map Val.d)) p.1 p.2
theorem vCall_ap (run : Fn) (f : VA) (st : Sts) : vCall run f st = (f st).bind (kCall run) := byDef rfl
theorem kCall_ap (run : Fn) (rs : List Val) (st : Sts) : kCall run (rs, st) = callEnd (run (rs.map Val.d)) rs st := byDef rfl
theorem callEnd_ok (r : Val) (rs : List Val) (st : Sts) : callEnd (.ok r) rs st = if rs.any Val.isNw = true then .no else if (rs.any Val.isPk && !r.flat) = true then .no else .ok (r, st) := byDef rfl
theorem callEnd_ite {c : Prop} [Decidable c] (x y : R Val) (rs : List Val) (st : Sts) : callEnd (if c then x else y) rs st = if c then callEnd x rs st else callEnd y rs st := by split <;> rfl
theorem vNx_ap (st : Sts) : vNx st = .ok (.nx st) := byDef rfl
def kSeq (b : VS) (fl : Flow) : R Flow := match fl with
  | .nx st' => b st'
  | fl => .ok fl
theorem vSeq_ap (a b : VS) (st : Sts) : vSeq a b st = (a st).bind (kSeq b) := byDef rfl
theorem kSeq_nx (b : VS) (st : Sts) : kSeq b (.nx st) = b st := byDef rfl
theorem kSeq_rt (b : VS) (r : Val) : kSeq b (.rt r) = .ok (.rt r) := byDef rfl
theorem kSeq_bk (b : VS) (st : Sts) : kSeq b (.bk st) = .ok (.bk st) := byDef rfl
theorem kSeq_ct (b : VS) (st : Sts) : kSeq b (.ct st) = .ok (.ct st) := byDef rfl
def kAsg (i : Nat) (p : Val × Sts) : R Flow := .ok (.nx (p.2.set i (slotOf p.1)))
theorem vAsg_ap (i : Nat) (f : VE) (st : Sts) : vAsg i f st = (f st).bind (kAsg i) := byDef rfl
theorem kAsg_ap (i : Nat) (r : Val) (st : Sts) : kAsg i (r, st) = .ok (.nx (st.set i (slotOf r))) := byDef rfl
def kRet (p : Val × Sts) : R Flow := .ok (.rt p.1)
theorem vRet_ap (f : VE) (st : Sts) : vRet f st = (f st).bind kRet := byDef rfl
theorem kRet_ap (r : Val) (st : Sts) : kRet (r, st) = .ok (.rt r) := byDef rfl
theorem vRetN_ap (st : Sts) : vRetN st = .ok (.rt (.fz .non)) := byDef rfl
def kDrop (p : Val × Sts) : R Flow := .ok (.nx p.2)
theorem vDrop_ap (f : VE) (st : Sts) : vDrop f st = (f st).bind kDrop := byDef rfl
theorem kDrop_ap (r : Val) (st : Sts) : kDrop (r, st) = .ok (.nx st) := byDef rfl
def kIf (a b : VS) (p : Bool × Sts) : R Flow := if p.1 = true then a p.2 else b p.2
theorem vIf_ap (t : VT) (a b : VS) (st : Sts) : vIf t a b st = (t st).bind (kIf a b) := byDef rfl
theorem kIf_ap (a b : VS) (c : Bool) (st : Sts) : kIf a b (c, st) = if c = true then a st else b st := byDef rfl
theorem vBrk_ap (st : Sts) : vBrk st = .ok (.bk st) := byDef rfl
theorem vCnt_ap (st : Sts) : vCnt st = .ok (.ct st) := byDef rfl
def asgEnd (o : Option Sts) : R Flow := match o with
  | some st' => .ok (.nx st')
  | none => .no
def kAsgG (g : VG) (p : Val × Sts) : R Flow := match p.1 with
  | .fz d => asgEnd (g d p.2)
  | _ => .no
theorem vAsgG_ap (g : VG) (f : VE) (st : Sts) : vAsgG g f st = (f st).bind (kAsgG g) := by
  unfold vAsgG
  congr 1
theorem kAsgG_ap (g : VG) (d : D) (st : Sts) : kAsgG g (.fz d, st) = asgEnd (g d st) := byDef rfl
theorem asgEnd_ap (st : Sts) : asgEnd (some st) = .ok (.nx st) := byDef rfl
theorem gN_ap (i : Nat) (d : D) (st : Sts) : gN i d st = some (st.set i (.val d)) := byDef rfl
theorem gT_ap (gs : List VG) (ds : List D) (st : Sts) : gT gs (.tup ds) st = gsRun gs ds st := byDef rfl
theorem gsRun_nil (st : Sts) : gsRun [] [] st = some st := byDef rfl
theorem gsRun_cons (g : VG) (gs : List VG) (d : D) (ds : List D) (st : Sts) : gsRun (g :: gs) (d :: ds) st = (g d st).bind (gsRun gs ds) := byDef rfl
def forEnd (g : VG) (body : VS) (o : Option (List D)) (st : Sts) : R Flow := match o with
  | some ds => loop g body ds st
  | none => .no
def kFor (g : VG) (body : VS) (p : Val × Sts) : R Flow := match p.1 with
  | .pk _ _ => .no
  | _ => forEnd g body (itemsOf p.1.d) p.2
theorem vFor_ap (f : VE) (g : VG) (body : VS) (st : Sts) : vFor f g body st = (f st).bind (kFor g body) := by
  unfold vFor
  congr 1
  funext p
  unfold kFor forEnd
  obtain ⟨r, s⟩ := p
  cases r <;> dsimp only <;> cases itemsOf _ <;> rfl
theorem kFor_fz (g : VG) (body : VS) (d : D) (st : Sts) : kFor g body (.fz d, st) = forEnd g body (itemsOf d) st := byDef rfl
theorem kFor_nw (g : VG) (body : VS) (m : M) (st : Sts) : kFor g body (.nw m, st) = forEnd g body (itemsOf m.d) st := byDef rfl
theorem forEnd_ap (g : VG) (body : VS) (ds : List D) (st : Sts) : forEnd g body (some ds) st = loop g body ds st := byDef rfl
theorem itemsOf_lst (ds : List D) : itemsOf (.lst ds) = some ds := byDef rfl
theorem itemsOf_tup (ds : List D) : itemsOf (.tup ds) = some ds := byDef rfl
theorem itemsOf_str (x : List Nat) : itemsOf (.str x) = some (x.map fun c => .str [c]) := byDef rfl
def forR1End (g : VG) (body : VS) (ds : List D) (st : Sts) : R Flow := match ds with
  | [.int n] => if bigI n then loop g body (rangeD 0 n.toNat) st else .no
  | _ => .no
def kForR1 (g : VG) (body : VS) (p : List Val × Sts) : R Flow := forR1End g body (p.1.map Val.d) p.2
theorem vForR1_ap (f : VA) (g : VG) (body : VS) (st : Sts) : vForR1 f g body st = (f st).bind (kForR1 g body) := byDef rfl
theorem kForR1_ap (g : VG) (body : VS) (rs : List Val) (st : Sts) : kForR1 g body (rs, st) = forR1End g body (rs.map Val.d) st := byDef rfl
theorem forR1End_ap (g : VG) (body : VS) (n : Int) (st : Sts) : forR1End g body [.int n] st = if bigI n = true then loop g body (rangeD 0 n.toNat) st else .no := byDef rfl
def forR2End (g : VG) (body : VS) (ds : List D) (st : Sts) : R Flow := match ds with
  | [.int a, .int b] => if bigI a && bigI b then loop g body (rangeD a (b - a).toNat) st else .no
  | _ => .no
def kForR2 (g : VG) (body : VS) (p : List Val × Sts) : R Flow := forR2End g body (p.1.map Val.d) p.2
theorem vForR2_ap (f : VA) (g : VG) (body : VS) (st : Sts) : vForR2 f g body st = (f st).bind (kForR2 g body) := byDef rfl
theorem kForR2_ap (g : VG) (body : VS) (rs : List Val) (st : Sts) : kForR2 g body (rs, st) = forR2End g body (rs.map Val.d) st := byDef rfl
theorem forR2End_ap (g : VG) (body : VS) (a b : Int) (st : Sts) : forR2End g body [.int a, .int b] st = if (bigI a && bigI b) = true then loop g body (rangeD a (b - a).toNat) st else .no := byDef rfl
def mutFin (o : Option (Val × M)) (i : Nat) (st : Sts) : R (Val × Sts) := match o with
  | some (r, m') => .ok (r, st.set i (.own m'))
  | none => .no
def mutEnd (o : Option Sl) (ds : Option (List D)) (op : M → List D → Option (Val × M)) (i : Nat) (st : Sts) : R (Val × Sts) := match o, ds with
  | some (.own m), some ds => mutFin (op m ds) i st
  | _, _ => .no
def kMut (i : Nat) (op : M → List D → Option (Val × M)) (p : List Val × Sts) : R (Val × Sts) := mutEnd (p.2[i]?) (fzs p.1) op i p.2
def mutStart (o : Option Sl) (T : String) (i : Nat) (op : M → List D → Option (Val × M)) (f : VA) (st : Sts) : R (Val × Sts) := match o with
  | some (.own m) => if m.ty = T then (f st).bind (kMut i op) else .no
  | _ => .no
theorem vMutT_ap (T : String) (i : Nat) (op : M → List D → Option (Val × M)) (f : VA) (st : Sts) : vMutT T i op f st = mutStart (st[i]?) T i op f st := by
  unfold vMutT mutStart vMut
  cases e : st[i]? with
  | none => rfl
  | some s =>
    cases s with
    | no => rfl
    | val d => rfl
    | adr _ => rfl
    | own m =>
      dsimp only
      split
      · congr 1
      · rfl
theorem mutStart_own (m : M) (T : String) (i : Nat) (op : M → List D → Option (Val × M)) (f : VA) (st : Sts) : mutStart (some (.own m)) T i op f st = if m.ty = T then (f st).bind (kMut i op) else .no := byDef rfl
theorem kMut_ap (i : Nat) (op : M → List D → Option (Val × M)) (rs : List Val) (st : Sts) : kMut i op (rs, st) = mutEnd (st[i]?) (fzs rs) op i st := byDef rfl
theorem mutEnd_ap (m : M) (ds : List D) (op : M → List D → Option (Val × M)) (i : Nat) (st : Sts) : mutEnd (some (.own m)) (some ds) op i st = mutFin (op m ds) i st := byDef rfl
theorem mutFin_ap (r : Val) (m : M) (i : Nat) (st : Sts) : mutFin (some (r, m)) i st = .ok (r, st.set i (.own m)) := byDef rfl
theorem mutFin_ite {c : Prop} [Decidable c] (x y : Option (Val × M)) (i : Nat) (st : Sts) : mutFin (if c then x else y) i st = if c then mutFin x i st else mutFin y i st := by split <;> rfl
theorem runB_ap (np nl : Nat) (body : VS) (ds : List D) : runB np nl body ds = if ds.length = np then fin (body (ds.map Sl.val ++ List.replicate nl Sl.no)) else .no := byDef rfl
theorem fin_rt (r : Val) : fin (.ok (.rt r)) = .ok r.out := byDef rfl
theorem fin_nx (st : Sts) : fin (.ok (.nx st)) = .ok (.fz .non) := byDef rfl
theorem fin_ite {c : Prop} [Decidable c] (x y : R Flow) : fin (if c then x else y) = if c then fin x else fin y := by split <;> rfl
theorem ok_ite {α : Type} {c : Prop} [Decidable c] (x y : α) : (if c then R.ok x else R.ok y) = R.ok (if c then x else y) := by split <;> rfl
theorem bigI_lit {n : Int} (h : -4611686018427387904 ≤ n) (h2 : n < 4611686018427387904) : bigI n = true := by
  unfold bigI
  rw [decide_eq_true (show -(2 ^ 62) ≤ n from h), decide_eq_true (show n < 2 ^ 62 from h2)]; rfl
theorem sizeOkB_of {n : Nat} (h : n ≤ 16777216) : sizeOkB n = true := decide_eq_true h
/-! ## places -/
theorem atI_zero {α : Type} (a : α) (l : List α) : L2.atI (a :: l) 0 = some a := L2.atI_nat (j := 0) rfl
theorem atI_getD {α : Type} (l : List α) (i : Int) (d : α) (h : 0 ≤ i) (h2 : i < l.length) : L2.atI l i = some (l.getD i.toNat d) := by
  have e : i = ((i.toNat : Nat) : Int) := by omega
  have hl : i.toNat < l.length := by omega
  conv => lhs; rw [e]
  refine L2.atI_nat ?_
  rw [List.getD_eq_getElem?_getD, List.getElem?_eq_getElem hl]
  rfl
theorem atI_some {α : Type} (l : List α) (i : Int) (h : 0 ≤ i) (h2 : i < l.length) : ∃ a, a ∈ l ∧ L2.atI l i = some a := by
  have e : i = ((i.toNat : Nat) : Int) := by omega
  have hl : i.toNat < l.length := by omega
  refine ⟨l[i.toNat], List.getElem_mem hl, ?_⟩
  conv => lhs; rw [e]
  exact L2.atI_nat (List.getElem?_eq_getElem hl)
theorem cut_from {α : Type} (l : List α) (n : Nat) : cut l (some (n : Int)) none = l.drop n := by
  unfold cut
  rw [HT.sIx_nat, HT.sIx_none]
  rcases Nat.le_total n l.length with h | h
  · rw [Nat.min_eq_left h, List.take_of_length_le]
    rw [List.length_drop]; omega
  · rw [Nat.min_eq_right h, List.drop_eq_nil_of_le (Nat.le_refl _), List.drop_eq_nil_of_le h, List.take_nil]
theorem cut_to {α : Type} (l : List α) (n : Nat) : cut l none (some (n : Int)) = l.take n := by
  unfold cut
  rw [HT.sIx_nat, HT.sIx_none, List.drop_zero, Nat.sub_zero]
  rcases Nat.le_total n l.length with h | h
  · rw [Nat.min_eq_left h]
  · rw [Nat.min_eq_right h, List.take_of_length_le h, List.take_of_length_le (Nat.le_refl _)]
theorem cut_mid {α : Type} (l : List α) (n m : Nat) : cut l (some (n : Int)) (some (m : Int)) = (l.drop n).take (m - n) := by
  unfold cut
  rw [HT.sIx_nat, HT.sIx_nat]
  rcases Nat.le_total n l.length with h | h
  · rw [Nat.min_eq_left h]
    rcases Nat.le_total m l.length with h' | h'
    · rw [Nat.min_eq_left h']
    · rw [Nat.min_eq_right h', List.take_of_length_le (by rw [List.length_drop]; omega), List.take_of_length_le (by rw [List.length_drop]; omega)]
  · rw [Nat.min_eq_right h, List.drop_eq_nil_of_le (Nat.le_refl _), List.drop_eq_nil_of_le h, List.take_nil, List.take_nil]
theorem cut_fromI {α : Type} (l : List α) (i : Int) (h : 0 ≤ i) : cut l (some i) none = l.drop i.toNat := by
  have := cut_from l i.toNat
  rwa [show ((i.toNat : Nat) : Int) = i by omega] at this
theorem cut_toI {α : Type} (l : List α) (i : Int) (h : 0 ≤ i) : cut l none (some i) = l.take i.toNat := by
  have := cut_to l i.toNat
  rwa [show ((i.toNat : Nat) : Int) = i by omega] at this
theorem cut_midI {α : Type} (l : List α) (i j : Int) (h : 0 ≤ i) (h2 : 0 ≤ j) : cut l (some i) (some j) = (l.drop i.toNat).take (j.toNat - i.toNat) := by
  have := cut_mid l i.toNat j.toNat
  rwa [show ((i.toNat : Nat) : Int) = i by omega, show ((j.toNat : Nat) : Int) = j by omega] at this
/-! ## loops -/
def kTurn (g : VG) (body : VS) (ds : List D) (fl : Flow) : R Flow := match fl with
  | .nx st2 => loop g body ds st2
  | .ct st2 => loop g body ds st2
  | .bk st2 => .ok (.nx st2)
  | .rt r => .ok (.rt r)
def turnEnd (g : VG) (body : VS) (ds : List D) (o : Option Sts) : R Flow := match o with
  | some st1 => (body st1).bind (kTurn g body ds)
  | none => .no
theorem loop_nil (g : VG) (body : VS) (st : Sts) : loop g body [] st = .ok (.nx st) := byDef rfl
theorem loop_cons (g : VG) (body : VS) (d : D) (ds : List D) (st : Sts) : loop g body (d :: ds) st = turnEnd g body ds (g d st) := by
  show (match g d st with | none => _ | some st1 => _) = _
  unfold turnEnd
  cases g d st with
  | none => rfl
  | some st1 => rfl
theorem turnEnd_ap (g : VG) (body : VS) (ds : List D) (st : Sts) : turnEnd g body ds (some st) = (body st).bind (kTurn g body ds) := byDef rfl
theorem kTurn_nx (g : VG) (body : VS) (ds : List D) (st : Sts) : kTurn g body ds (.nx st) = loop g body ds st := byDef rfl
theorem kTurn_ct (g : VG) (body : VS) (ds : List D) (st : Sts) : kTurn g body ds (.ct st) = loop g body ds st := byDef rfl
theorem kTurn_bk (g : VG) (body : VS) (ds : List D) (st : Sts) : kTurn g body ds (.bk st) = .ok (.nx st) := byDef rfl
theorem kTurn_rt (g : VG) (body : VS) (ds : List D) (r : Val) : kTurn g body ds (.rt r) = .ok (.rt r) := byDef rfl
/-- a loop by an invariant over (turn, state): each turn goes on -/
theorem loop_inv {g : VG} {body : VS} {ds : List D} {st : Sts} (P : Nat → Sts → Prop) (h0 : P 0 st)
    (hs : ∀ i d s, ds[i]? = some d → P i s → ∃ s1, g d s = some s1 ∧ ∃ s2, (body s1 = .ok (.nx s2) ∨ body s1 = .ok (.ct s2)) ∧ P (i + 1) s2) :
    ∃ s, loop g body ds st = .ok (.nx s) ∧ P ds.length s := by
  have key : ∀ (n i : Nat) (es : List D) (s : Sts), ds.drop i = es → es.length = n → i ≤ ds.length → P i s → ∃ s', loop g body es s = .ok (.nx s') ∧ P ds.length s' := by
    intro n
    induction n with
    | zero =>
      intro i es s e hl hi p
      have : es = [] := List.length_eq_zero_iff.mp hl
      subst this
      have hi' : i = ds.length := by
        have := List.drop_eq_nil_iff.mp e
        omega
      subst hi'
      exact ⟨s, rfl, p⟩
    | succ n ih =>
      intro i es s e hl hi p
      cases es with
      | nil => cases hl
      | cons d es =>
        have hlt : i < ds.length := by
          rcases Nat.lt_or_ge i ds.length with h | h
          · exact h
          · rw [List.drop_eq_nil_of_le h] at e; cases e
        rw [List.drop_eq_getElem_cons hlt] at e
        injection e with e1 e2
        obtain ⟨s1, g1, s2, hb, p2⟩ := hs i d s (by rw [List.getElem?_eq_getElem hlt, e1]) p
        rw [loop_cons, g1, turnEnd_ap]
        rcases hb with hb | hb
        · rw [hb, R.bind_ok, kTurn_nx]
          exact ih (i + 1) es s2 e2 (by simpa using hl) hlt p2
        · rw [hb, R.bind_ok, kTurn_ct]
          exact ih (i + 1) es s2 e2 (by simpa using hl) hlt p2
  exact key ds.length 0 ds st rfl rfl (Nat.zero_le _) h0
/-- a loop whose turn is a function of what is carried -/
theorem loop_fold {α : Type} {g : VG} {body : VS} (S : α → Sts → Prop) (f : α → D → α) : ∀ (ds : List D) (a : α) (st : Sts), S a st →
    (∀ a d s, d ∈ ds → S a s → ∃ s1, g d s = some s1 ∧ ∃ s2, body s1 = .ok (.nx s2) ∧ S (f a d) s2) → ∃ s, loop g body ds st = .ok (.nx s) ∧ S (ds.foldl f a) s
  | [], a, st, h, _ => ⟨st, rfl, h⟩
  | d :: ds, a, st, h, hs => by
    obtain ⟨s1, g1, s2, hb, h2⟩ := hs a d st List.mem_cons_self h
    obtain ⟨s, e, h3⟩ := loop_fold S f ds (f a d) s2 h2 fun a d s hd => hs a d s (List.mem_cons_of_mem _ hd)
    refine ⟨s, ?_, h3⟩
    rw [loop_cons, g1, turnEnd_ap, hb, R.bind_ok, kTurn_nx]
    exact e
/-- a loop that searches: it goes on while ok, else it returns r -/
theorem loop_all {g : VG} {body : VS} (S : Sts → Prop) (ok : D → Bool) (r : Val) : ∀ (ds : List D) (st : Sts), S st →
    (∀ d s, d ∈ ds → S s → ∃ s1, g d s = some s1 ∧ (ok d = true → ∃ s2, body s1 = .ok (.nx s2) ∧ S s2) ∧ (ok d = false → body s1 = .ok (.rt r))) →
    (ds.all ok = true → ∃ s, loop g body ds st = .ok (.nx s) ∧ S s) ∧ (ds.all ok = false → loop g body ds st = .ok (.rt r))
  | [], st, h, _ => ⟨fun _ => ⟨st, rfl, h⟩, fun e => by cases e⟩
  | d :: ds, st, h, hs => by
    obtain ⟨s1, g1, h1, h2⟩ := hs d st List.mem_cons_self h
    cases hd : ok d with
    | true =>
      obtain ⟨s2, hb, h3⟩ := h1 hd
      obtain ⟨q1, q2⟩ := loop_all S ok r ds s2 h3 fun d s hd => hs d s (List.mem_cons_of_mem _ hd)
      have e : loop g body (d :: ds) st = loop g body ds s2 := by rw [loop_cons, g1, turnEnd_ap, hb, R.bind_ok, kTurn_nx]
      rw [e, List.all_cons, hd, Bool.true_and]
      exact ⟨q1, q2⟩
    | false =>
      rw [List.all_cons, hd, Bool.false_and]
      refine ⟨fun e => (by cases e), fun _ => ?_⟩
      rw [loop_cons, g1, turnEnd_ap, h2 hd, R.bind_ok, kTurn_rt]
end Vl
namespace Vl
open PySem PySem.Spec PyProof.Rows L2 RZ
/-! ## what is walked -/
abbrev VI := Sts → R (List D × Sts)
/-- an iterator that gives just these data, each one in its turn -/
def Walks (K : PySem.W.Frag) (F : Hp) (J : It) (ds : List D) : Prop :=
  (∀ (i : Nat) (d : D) (E : Ent) (F2 H2 : Hp) (st : Sts) (σ : L2.St), Same F F2 → Sim K E F2 H2 st σ → ds[i]? = some d → J.go i H2 ∧ ∀ x H', J.yld i H2 x H' → ∃ F3, Same F2 F3 ∧ Same H2 H' ∧ (∀ b o, F3 b = some o → F2 b = some o ∨ H2 b = none) ∧ Sim K E F3 H' st σ ∧ Rep K F3 d x) ∧
  (∀ (i : Nat) (E : Ent) (F2 H2 : Hp) (st : Sts) (σ : L2.St), Same F F2 → Sim K E F2 H2 st σ → ds.length ≤ i → J.stop i H2)
def iSrc (K : PySem.W.Frag) (W : Wx) (src : VI) : TI := fun σ H Rr => ∃ E F st, Sim K E F H st σ ∧ match src st with
  | .ok (ds, st') => ∀ J F' H', Same F F' → Same H H' → Sim K E F' H' st' σ → Walks K F' J ds → Rr J H'
  | .exc c st' => ∀ F' H', Same F F' → Same H H' → Sim K E F' H' st' σ → W c σ H'
  | .no => False
abbrev DI (X : Cx) (W : Wx) (tg e : Expr) (src : VI) : Prop := PI X tg e (iSrc X.K W src)
theorem PI.imp {X : Cx} {tg e : Expr} {t t' : TI} (h : PI X tg e t) (k : ∀ σ H Q, t' σ H Q → t σ H Q) : PI X tg e t' := ⟨fun pins s σ H Q I q => h.run pins s σ H Q I (k _ _ _ q)⟩
section
variable {X : Cx} {W : Wx} {pos p p2 : Pos} {K : PySem.W.Frag}
theorem walks_same {F : Hp} {J : It} {ds : List D} (h1 : ∀ (i : Nat) (d : D) (F2 H2 : Hp), Same F F2 → Same F2 H2 → ds[i]? = some d → J.go i H2 ∧ ∀ x H', J.yld i H2 x H' → H' = H2 ∧ Rep K F2 d x)
    (h2 : ∀ (i : Nat) (F2 H2 : Hp), Same F F2 → Same F2 H2 → ds.length ≤ i → J.stop i H2) : Walks K F J ds :=
  ⟨fun i d E F2 H2 st σ a S e => ⟨(h1 i d F2 H2 a S.sub e).1, fun x H' y => by
    obtain ⟨e1, r⟩ := (h1 i d F2 H2 a S.sub e).2 x H' y
    subst e1
    exact ⟨F2, Same.refl _, Same.refl _, fun b o q => .inl q, S, r⟩⟩, fun i E F2 H2 st σ a S hl => h2 i F2 H2 a S.sub hl⟩
theorem walks_list {F : Hp} {a : Addr} {vs : List V} {ds : List D} (rd : SqL K F a vs) (rs : Reps K F ds vs) : Walks K F (Itl K a) ds := by
  refine walks_same (fun i d F3 H3 a1 b1 hd => ?_) (fun i F3 H3 a1 b1 hl => ?_)
  · obtain ⟨w, ew, rw'⟩ := Reps.get rs hd
    have sq : SqL K H3 a vs := Same.seq (a1.trans b1) rd
    exact ⟨⟨vs, w, sq, ew⟩, fun x H' ⟨y1, y2⟩ => ⟨y1, by
      have := y2 vs sq
      rw [ew] at this
      cases this
      exact Rep.mono a1 _ _ rw'⟩⟩
  · exact ⟨vs, Same.seq (a1.trans b1) rd, by rw [rs.length]; exact hl⟩
theorem walks_tup {F : Hp} {a : Addr} {vs : List V} {ds : List D} (rd : SqT K F a vs) (rs : Reps K F ds vs) : Walks K F (Itt K a) ds := by
  refine walks_same (fun i d F3 H3 a1 b1 hd => ?_) (fun i F3 H3 a1 b1 hl => ?_)
  · obtain ⟨w, ew, rw'⟩ := Reps.get rs hd
    have sq : SqT K H3 a vs := Same.sqT (a1.trans b1) rd
    exact ⟨⟨vs, w, sq, ew⟩, fun x H' ⟨y1, y2⟩ => ⟨y1, by
      have := y2 vs sq
      rw [ew] at this
      cases this
      exact Rep.mono a1 _ _ rw'⟩⟩
  · exact ⟨vs, Same.sqT (a1.trans b1) rd, by rw [rs.length]; exact hl⟩
theorem walks_str {F : Hp} {z : List Nat} (ok : TxOk z) : Walks K F (Its (tx z)) (z.map fun c => .str [c]) := by
  refine walks_same (fun i d F3 H3 a b hd => ?_) (fun i F3 H3 a b hl => ?_)
  · rw [List.getElem?_map] at hd
    obtain ⟨c, e3, e4⟩ := Option.map_eq_some_iff.mp hd
    subst e4
    obtain ⟨hlt, _⟩ := List.getElem?_eq_some_iff.mp e3
    refine ⟨by show i < z.toArray.size; simpa using hlt, fun x H' ⟨y1, c', y2, y3⟩ => ⟨y1, ?_⟩⟩
    have y2' : z.toArray[i]? = some c' := y2
    rw [List.getElem?_toArray, e3] at y2'
    cases y2'
    refine ⟨y3, ?_, fun c2 hc2 => ?_⟩
    · show 1 ≤ sizeLine
      decide
    · have : c2 = c := by simpa using hc2
      subst this
      exact ok.2 _ (List.mem_of_getElem? e3)
  · show z.toArray.size ≤ i
    simpa using hl
theorem walks_range {F : Hp} {lo : Int} {n : Nat} : Walks K F (Itr lo n) (rangeD lo n) := by
  refine walks_same (fun i d F3 H3 a b hd => ?_) (fun i F3 H3 a b hl => ?_)
  · unfold rangeD at hd
    rw [List.getElem?_map] at hd
    obtain ⟨j, e1, e2⟩ := Option.map_eq_some_iff.mp hd
    obtain ⟨hlt, e3⟩ := List.getElem?_eq_some_iff.mp e1
    rw [List.getElem_range] at e3
    subst e3 e2
    exact ⟨by show i < n; simpa using hlt, fun x H' ⟨y1, y2⟩ => ⟨y1, y2⟩⟩
  · show n ≤ i
    simpa [rangeD] using hl
/-- a list, a tuple, a text -/
def sE (f : VE) : VI := fun st => (f st).bind fun p => match itemsOf p.1.d with
  | some ds => match p.1 with
    | .pk _ _ => .no
    | _ => .ok (ds, p.2)
  | none => .no
theorem di_e {tg e : Expr} {f : VE} (h : DE X W e f) : DI X W tg e (sE f) := PI.imp (pi_up h) fun σ H Rr ⟨E, F, st, S, q⟩ => by
  refine ⟨E, F, st, S, ?_⟩
  unfold sE at q
  cases e1 : f st with
  | no => rw [e1] at q; exact q
  | exc c st' => rw [e1] at q; exact q
  | ok p =>
    obtain ⟨r, st1⟩ := p
    rw [e1, R.bind_ok] at q
    intro v F1 H1 a1 b1 S1 vr
    dsimp only at q ⊢
    have key : ∃ F2, Same F1 F2 ∧ Sim X.K E F2 H1 st1 σ ∧ Rep X.K F2 r.d v ∧ ∃ ds, itemsOf r.d = some ds ∧ ∀ J F' H', Same F F' → Same H H' → Sim X.K E F' H' st1 σ → Walks X.K F' J ds → Rr J H' := by
      cases hi : itemsOf r.d with
      | none => rw [hi] at q; exact q.elim
      | some ds =>
        rw [hi] at q
        dsimp only at q
        cases r with
        | fz d => exact ⟨F1, Same.refl _, S1, vr, ds, rfl, q⟩
        | nw m =>
          obtain ⟨F2, sF, S2, rp⟩ := settle S1 vr
          exact ⟨F2, sF, S2, rp, ds, rfl, q⟩
        | pk j m => exact q.elim
    obtain ⟨F2, sF, S2, rp, ds, hi, q2⟩ := key
    cases hd : r.d with
    | lst es =>
      rw [hd] at rp hi
      cases hi
      obtain ⟨ad, vs, e2, rd, rs⟩ := rp
      exact ⟨ad, vs, e2, Same.seq S2.sub rd, q2 _ F2 H1 (a1.trans sF) b1 S2 (walks_list rd rs)⟩
    | tup es =>
      rw [hd] at rp hi
      cases hi
      obtain ⟨ad, vs, e2, rd, rs⟩ := rp
      exact ⟨ad, vs, e2, SqT.of (S2.sub _ _ rd), q2 _ F2 H1 (a1.trans sF) b1 S2 (walks_tup (SqT.of rd) rs)⟩
    | str z =>
      rw [hd] at rp hi
      cases hi
      obtain ⟨e2, ok⟩ := rp
      exact ⟨e2, q2 _ F2 H1 (a1.trans sF) b1 S2 (walks_str ok)⟩
    | non => rw [hd] at hi; cases hi
    | bl c => rw [hd] at hi; cases hi
    | int c => rw [hd] at hi; cases hi
    | dct ks vs => rw [hd] at hi; cases hi
    | dcu ks vs => rw [hd] at hi; cases hi
    | ins n ks vs => rw [hd] at hi; cases hi
/-- ranges -/
def r1End (ds : List D) (st : Sts) : R (List D × Sts) := match ds with
  | [.int n] => if bigI n = true then .ok (rangeD 0 n.toNat, st) else .no
  | _ => .no
def r2End (ds : List D) (st : Sts) : R (List D × Sts) := match ds with
  | [.int a, .int b] => if (bigI a && bigI b) = true then .ok (rangeD a (b - a).toNat, st) else .no
  | _ => .no
def sR1 (f : VA) : VI := fun st => (f st).bind fun p => r1End (p.1.map Val.d) p.2
def sR2 (f : VA) : VI := fun st => (f st).bind fun p => r2End (p.1.map Val.d) p.2
theorem aseqI {E : Ent} {F H : Hp} {σ : L2.St} {f : VA} {st : Sts} {k : List Val × Sts → R (List D × Sts)} {Rr : It → Hp → Prop} {P : List V → Hp → Prop} (S : Sim K E F H st σ)
    (h : match (f st).bind k with
      | .ok (ds, st') => ∀ J F' H', Same F F' → Same H H' → Sim K E F' H' st' σ → Walks K F' J ds → Rr J H'
      | .exc c st' => ∀ F' H', Same F F' → Same H H' → Sim K E F' H' st' σ → W c σ H'
      | .no => False)
    (hk : ∀ rs st1 vs F1 H1, Same F F1 → Same H H1 → Sim K E F1 H1 st1 σ → ARels K F1 H1 rs vs → (match k (rs, st1) with
      | .ok (ds, st') => ∀ J F' H', Same F1 F' → Same H1 H' → Sim K E F' H' st' σ → Walks K F' J ds → Rr J H'
      | .exc c st' => ∀ F' H', Same F1 F' → Same H1 H' → Sim K E F' H' st' σ → W c σ H'
      | .no => False) → P vs H1) : upA K W f σ H P := by
  refine ⟨E, F, st, S, ?_⟩
  cases e : f st with
  | ok p =>
    rw [e, R.bind_ok] at h
    intro vs F1 H1 a b S1 ar
    refine hk p.1 p.2 vs F1 H1 a b S1 ar ?_
    cases e2 : k (p.1, p.2) with
    | ok q =>
      have h : ∀ J F' H', Same F F' → Same H H' → Sim K E F' H' q.2 σ → Walks K F' J q.1 → Rr J H' := by
        have e3 : k p = .ok q := e2
        rw [e3] at h; exact h
      exact fun J F' H' c d => h J F' H' (a.trans c) (b.trans d)
    | exc c st' =>
      have h : ∀ F' H', Same F F' → Same H H' → Sim K E F' H' st' σ → W c σ H' := by
        have e3 : k p = .exc c st' := e2
        rw [e3] at h; exact h
      exact fun F' H' c d => h F' H' (a.trans c) (b.trans d)
    | no =>
      have e3 : k p = .no := e2
      rw [e3] at h; exact h
  | exc c st' => rw [e] at h; exact h
  | no => rw [e] at h; exact h
theorem di_r1 {tg e : Expr} {f : VA} (hgl : Gl X "range") (hm : X.mg "range" = none) (he : DA X W [e] f) (hst : starEach [e] X.env = [(false, eval e X.env)] := by rfl) : DI X W tg (.Call (.Name "range" p) [e] [] p2) (sR1 f) :=
  PI.imp (pi_range1 hgl hm he hst) fun σ H Rr ⟨E, F, st, S, q⟩ => by
    refine aseqI S q fun rs st1 vs F1 H1 a b S1 ar k => ?_
    have ar' := ar.o
    dsimp only at k
    match hds : rs.map Val.d, k with
    | [.int n], k =>
      rw [hds] at ar'
      obtain ⟨v, rfl, h⟩ := ar'.one
      have h := h.int
      subst h
      dsimp only [r1End] at k
      by_cases hn : bigI n = true
      · rw [if_pos hn] at k
        exact ⟨n, rfl, (bigI_ok hn).1, (bigI_ok hn).2, k _ F1 H1 (Same.refl _) (Same.refl _) S1 walks_range⟩
      · rw [if_neg hn] at k; exact k.elim
theorem di_r2 {tg e e2 : Expr} {f : VA} (hgl : Gl X "range") (hm : X.mg "range" = none) (he : DA X W [e, e2] f) (hst : starEach [e, e2] X.env = [(false, eval e X.env), (false, eval e2 X.env)] := by rfl) (hst2 : starEach [e2] X.env = [(false, eval e2 X.env)] := by rfl) : DI X W tg (.Call (.Name "range" p) [e, e2] [] p2) (sR2 f) :=
  PI.imp (pi_range2 hgl hm he hst hst2) fun σ H Rr ⟨E, F, st, S, q⟩ => by
    refine aseqI S q fun rs st1 vs F1 H1 a b S1 ar k => ?_
    have ar' := ar.o
    dsimp only at k
    match hds : rs.map Val.d, k with
    | [.int lo, .int hi], k =>
      rw [hds] at ar'
      obtain ⟨v, w, rfl, h, h2⟩ := ar'.two
      have h := h.int
      have h2 := h2.int
      subst h h2
      dsimp only [r2End] at k
      by_cases hn : (bigI lo && bigI hi) = true
      · rw [if_pos hn] at k
        rw [Bool.and_eq_true] at hn
        exact ⟨lo, hi, rfl, ⟨(bigI_ok hn.1).1, (bigI_ok hn.1).2, (bigI_ok hn.2).1, (bigI_ok hn.2).2⟩, k _ F1 H1 (Same.refl _) (Same.refl _) S1 walks_range⟩
      · rw [if_neg hn] at k; exact k.elim
/-- zip of two lists, of two tuples; enumerate of a list -/
def zipEnd (rs : List Val) (st : Sts) : R (List D × Sts) := match rs with
  | [.fz (.lst a), .fz (.lst b)] => .ok ((a.zip b).map fun q => .tup [q.1, q.2], st)
  | [.fz (.tup a), .fz (.tup b)] => .ok ((a.zip b).map fun q => .tup [q.1, q.2], st)
  | _ => .no
def sZip (f : VA) : VI := fun st => (f st).bind fun p => zipEnd p.1 p.2
theorem zip_at {a b : List D} {i : Nat} {d : D} (h : ((a.zip b).map fun q => D.tup [q.1, q.2])[i]? = some d) : ∃ x y, a[i]? = some x ∧ b[i]? = some y ∧ d = .tup [x, y] := by
  rw [List.getElem?_map] at h
  obtain ⟨q, e, rfl⟩ := Option.map_eq_some_iff.mp h
  rw [List.getElem?_zip_eq_some] at e
  exact ⟨q.1, q.2, e.1, e.2, rfl⟩
theorem new_tup {E : Ent} {F H : Hp} {st : Sts} {σ : L2.St} {T : Addr} {x y : V} {dx dy : D} (S : Sim K E F H st σ) (hT : H T = none) (rx : Rep K F dx x) (ry : Rep K F dy y) :
    ∃ F3, Same F F3 ∧ Same H (upd H T (.tup [x, y])) ∧ (∀ b o, F3 b = some o → F b = some o ∨ H b = none) ∧ Sim K E F3 (upd H T (.tup [x, y])) st σ ∧ Rep K F3 (.tup [dx, dy]) (.ref T) := by
  have hF := S.sub.free hT
  refine ⟨upd F T (.tup [x, y]), same_new hF, same_new hT, fun b o q => ?_, S.new hT, T, [x, y], rfl, upd_same, ⟨x, [y], rfl, Rep.mono (same_new hF) _ _ rx, y, [], rfl, Rep.mono (same_new hF) _ _ ry, rfl⟩⟩
  by_cases hb : b = T
  · subst hb; exact .inr hT
  · rw [upd_ne hb] at q; exact .inl q
theorem di_zip {e e2 : Expr} {elts : List Expr} {kk : Nat} {tpos : Pos} {f : VA} (hgl : Gl X "zip") (hm : X.mg "zip" = none) (he : DA X W [e, e2] f)
    (hs : starEach [e, e2] X.env = (false, eval e X.env) :: starEach [e2] X.env := by rfl) (hpl : (backTo pos (starEach [e2] X.env)).any (·.1) = false := by rfl) : DI X W (.Tuple elts kk tpos) (.Call (.Name "zip" p) [e, e2] [] pos) (sZip f) :=
  PI.imp (pi_zipA hgl hm he hs hpl) fun σ H Rr ⟨E, F, st, S, q⟩ => by
    refine aseqI S q fun rs st1 vs F1 H1 a1 b1 S1 ar k => ?_
    dsimp only at k
    match rs, k with
    | [.fz (.lst a), .fz (.lst b)], k =>
      obtain ⟨v, us, rfl, ⟨l1, xs, rfl, h1, r1⟩, w, us2, rfl, ⟨l2, ys, rfl, h2, r2⟩, e3⟩ := ar
      rw [show us2 = [] from e3]
      refine ⟨l1, l2, xs, ys, rfl, .inl ⟨Same.seq S1.sub h1, Same.seq S1.sub h2, k _ F1 H1 (Same.refl _) (Same.refl _) S1 ⟨fun i d E2 F2 H2 st2 σ2 a S2 hd => ?_, fun i E2 F2 H2 st2 σ2 a S2 hl => ?_⟩⟩⟩
      · obtain ⟨x, y, ex, ey, rfl⟩ := zip_at hd
        obtain ⟨vx, evx, rx⟩ := Reps.get r1 ex
        obtain ⟨vy, evy, ry⟩ := Reps.get r2 ey
        have s1 := Same.seq (a.trans S2.sub) h1
        have s2 := Same.seq (a.trans S2.sub) h2
        refine ⟨⟨xs, ys, vx, vy, s1, s2, evx, evy⟩, fun z H' ⟨T, x', y', e1, hT, e2, f1, f2⟩ => ?_⟩
        have g1 := f1 xs s1
        have g2 := f2 ys s2
        rw [evx] at g1
        rw [evy] at g2
        cases g1
        cases g2
        subst e1 e2
        exact new_tup S2 hT (Rep.mono a _ _ rx) (Rep.mono a _ _ ry)
      · refine ⟨xs, ys, Same.seq (a.trans S2.sub) h1, Same.seq (a.trans S2.sub) h2, ?_⟩
        rw [r1.length, r2.length]
        rw [List.length_map, List.length_zip] at hl
        omega
    | [.fz (.tup a), .fz (.tup b)], k =>
      obtain ⟨v, us, rfl, ⟨l1, xs, rfl, h1, r1⟩, w, us2, rfl, ⟨l2, ys, rfl, h2, r2⟩, e3⟩ := ar
      rw [show us2 = [] from e3]
      have h1 : SqT X.K F1 l1 xs := SqT.of h1
      have h2 : SqT X.K F1 l2 ys := SqT.of h2
      refine ⟨l1, l2, xs, ys, rfl, .inr ⟨Same.sqT S1.sub h1, Same.sqT S1.sub h2, k _ F1 H1 (Same.refl _) (Same.refl _) S1 ⟨fun i d E2 F2 H2 st2 σ2 a S2 hd => ?_, fun i E2 F2 H2 st2 σ2 a S2 hl => ?_⟩⟩⟩
      · obtain ⟨x, y, ex, ey, rfl⟩ := zip_at hd
        obtain ⟨vx, evx, rx⟩ := Reps.get r1 ex
        obtain ⟨vy, evy, ry⟩ := Reps.get r2 ey
        have s1 := Same.sqT (a.trans S2.sub) h1
        have s2 := Same.sqT (a.trans S2.sub) h2
        refine ⟨⟨xs, ys, vx, vy, s1, s2, evx, evy⟩, fun z H' ⟨T, x', y', e1, hT, e2, f1, f2⟩ => ?_⟩
        have g1 := f1 xs s1
        have g2 := f2 ys s2
        rw [evx] at g1
        rw [evy] at g2
        cases g1
        cases g2
        subst e1 e2
        exact new_tup S2 hT (Rep.mono a _ _ rx) (Rep.mono a _ _ ry)
      · refine ⟨xs, ys, Same.sqT (a.trans S2.sub) h1, Same.sqT (a.trans S2.sub) h2, ?_⟩
        rw [r1.length, r2.length]
        rw [List.length_map, List.length_zip] at hl
        omega
def enumD (n : Nat) : List D → List D
  | [] => []
  | d :: ds => .tup [.int n, d] :: enumD (n + 1) ds
theorem enum_at : ∀ {ds : List D} {n i : Nat} {d : D}, (enumD n ds)[i]? = some d → ∃ x, ds[i]? = some x ∧ d = .tup [.int ((n + i : Nat) : Int), x]
  | [], n, i, d, h => by simp [enumD] at h
  | x :: ds, n, 0, d, h => by
    simp [enumD] at h
    exact ⟨x, rfl, by rw [Nat.add_zero]; exact h.symm⟩
  | x :: ds, n, i + 1, d, h => by
    obtain ⟨y, e1, e2⟩ := enum_at (ds := ds) (n := n + 1) (i := i) (d := d) (by simpa [enumD] using h)
    exact ⟨y, by simpa using e1, by rw [e2, show n + 1 + i = n + (i + 1) by omega]⟩
theorem enum_len : ∀ (ds : List D) (n : Nat), (enumD n ds).length = ds.length
  | [], _ => rfl
  | _ :: ds, n => by show (enumD (n + 1) ds).length + 1 = _; rw [enum_len ds]; rfl
def enumEnd (rs : List Val) (st : Sts) : R (List D × Sts) := match rs with
  | [.fz (.lst a)] => .ok (enumD 0 a, st)
  | _ => .no
def sEnum (f : VA) : VI := fun st => (f st).bind fun p => enumEnd p.1 p.2
theorem di_enum {e : Expr} {elts : List Expr} {kk : Nat} {tpos : Pos} {f : VA} (hgl : Gl X "enumerate") (hm : X.mg "enumerate" = none) (he : DA X W [e] f)
    (hs : starEach [e] X.env = [(false, eval e X.env)] := by rfl) : DI X W (.Tuple elts kk tpos) (.Call (.Name "enumerate" p) [e] [] pos) (sEnum f) :=
  PI.imp (pi_enum hgl hm he hs) fun σ H Rr ⟨E, F, st, S, q⟩ => by
    refine aseqI S q fun rs st1 vs F1 H1 a1 b1 S1 ar k => ?_
    dsimp only at k
    match rs, k with
    | [.fz (.lst a)], k =>
      obtain ⟨v, us, rfl, ⟨l1, xs, rfl, h1, r1⟩, e3⟩ := ar
      rw [show us = [] from e3]
      refine ⟨l1, xs, rfl, Same.seq S1.sub h1, k _ F1 H1 (Same.refl _) (Same.refl _) S1 ⟨fun i d E2 F2 H2 st2 σ2 a S2 hd => ?_, fun i E2 F2 H2 st2 σ2 a S2 hl => ?_⟩⟩
      · obtain ⟨x, ex, rfl⟩ := enum_at hd
        obtain ⟨vx, evx, rx⟩ := Reps.get r1 ex
        have s1 := Same.seq (a.trans S2.sub) h1
        refine ⟨⟨xs, vx, s1, evx⟩, fun z H' ⟨T, x', e1, hT, e2, f1⟩ => ?_⟩
        have g1 := f1 xs s1
        rw [evx] at g1
        cases g1
        subst e1 e2
        rw [Nat.zero_add]
        exact new_tup S2 hT rfl (Rep.mono a _ _ rx)
      · refine ⟨xs, Same.seq (a.trans S2.sub) h1, ?_⟩
        rw [r1.length]
        rw [enum_len] at hl
        exact hl
/-! ## for over these -/
def vForI (src : VI) (g : VG) (body : VS) : VS := fun st => (src st).bind fun p => loop g body p.1 p.2
theorem loop_ruleI {E : Ent} {F H : Hp} {g : VG} {body : VS} {ds : List Vl.D} {D : Ends} {st : Sts} {σ : L2.St} {J : It} (S : Sim K E F H st σ) (h : EndS K W E F (loop g body ds st) D) (wk : Walks K F J ds) :
    ∃ Wl : Nat → Nat → L2.St → Hp → Prop, (∃ m, Wl 0 m σ H) ∧ ∀ i m σ H, Wl i m σ H → (J.stop i H ∧ D.nx σ H) ∨
      (J.go i H ∧ ∃ N : L2.St → Hp → Prop, (∀ σ' H', N σ' H' → ∃ m', m' < m ∧ Wl (i + 1) m' σ' H') ∧ ∀ x H', J.yld i H x H' → upG K g x σ H' fun σ2 H2 => upS K W body { D with nx := N, ct := N, bk := D.nx } σ2 H2) := by
  refine ⟨LoopW K W E F g body ds D, ⟨ds.length, F, st, Same.refl _, S, h, by simp, Nat.zero_le _⟩, ?_⟩
  rintro i m σ' H' ⟨F2, st2, sF, S2, q, rfl, hi⟩
  by_cases hlt : i < ds.length
  · have ed : ds.drop i = ds[i] :: ds.drop (i + 1) := List.drop_eq_getElem_cons hlt
    rw [ed] at q
    obtain ⟨go, yl⟩ := wk.1 i ds[i] E F2 H' st2 σ' sF S2 (List.getElem?_eq_getElem hlt)
    refine .inr ⟨go, fun σ' H' => LoopW K W E F g body ds D (i + 1) (ds.length - (i + 1)) σ' H', fun σ' H' n => ⟨_, by omega, n⟩, fun x H3 y => ?_⟩
    obtain ⟨F3, s3, sH3, _, S3, rx⟩ := yl x H3 y
    obtain ⟨st1, e1, q1⟩ := loop_turn (N := fun σ' H' => LoopW K W E F g body ds D (i + 1) (ds.length - (i + 1)) σ' H') (EndS.mono s3 q) fun st3 σ3 F4 H4 a3 S4 k3 => ⟨F4, st3, (sF.trans s3).trans a3, S4, k3, rfl, hlt⟩
    exact ⟨E, F3, st2, ds[i], st1, S3, rx, e1, fun σ4 F4 H4 a4 S4 => ⟨E, F4, st1, S4, EndS.mono a4 q1⟩⟩
  · have ei : i = ds.length := by omega
    have ed : ds.drop i = [] := List.drop_eq_nil_of_le (by omega)
    rw [ed] at q
    exact .inl ⟨wk.2 i E F2 H' st2 σ' sF S2 (by omega), q σ' F2 H' (Same.refl _) S2⟩
theorem ds_forI {tg e : Expr} {ss : List Stmt} {src : VI} {g : VG} {body : VS} (hp : PassesOwn (model X.prog X.w) X.A X.env X.xe) (hc : X.calm = true) (he : DI X W tg e src) (hg : DG X tg g) (hb : DSs X W ss body)
    (hs : ∀ x, foldedSetIterable e X.env x = pure x := by intro _; rfl) : DS X W (.For tg e ss [] pos) (vForI src g body) := PS.imp (ps_for hp hc he hg hb hs) fun D σ H ⟨E, F, st, S, q⟩ => by
  refine ⟨E, F, st, S, ?_⟩
  unfold vForI at q
  cases e1 : src st with
  | no => rw [e1] at q; exact q
  | exc c st' => rw [e1] at q; exact fun F' H' a b S' => q σ F' H' a S'
  | ok p =>
    rw [e1, R.bind_ok] at q
    intro J F1 H1 a1 b1 S1 wk
    exact loop_ruleI S1 (EndS.mono a1 q) wk
end
end Vl
namespace Vl
open PySem PySem.Spec PyProof.Rows L2
/-! ## list comprehensions -/
abbrev W0 : Wx := fun _ _ _ => False
def wipeS (st : Sts) : List Nat → Sts
  | [] => st
  | v :: vs => (wipeS st vs).set v .no
theorem wipe_get {σ : L2.St} {i : Nat} : ∀ {vs : List Nat}, (wipe σ vs)[i]? = if i ∈ vs then (if i < σ.length then some none else none) else σ[i]?
  | [] => by simp [wipe]
  | v :: vs => by
    show ((wipe σ vs).set v none)[i]? = _
    by_cases h : v = i
    · subst h
      rw [if_pos (by simp)]
      by_cases hl : v < σ.length
      · rw [if_pos hl, List.getElem?_set_self (by rw [wipe_length]; exact hl)]
      · rw [if_neg hl, List.getElem?_eq_none (by rw [List.length_set, wipe_length]; omega)]
    · rw [List.getElem?_set_ne h, wipe_get (vs := vs)]
      have : (i ∈ v :: vs) ↔ i ∈ vs := by simp [Ne.symm h]
      by_cases hi : i ∈ vs
      · rw [if_pos hi, if_pos (this.mpr hi)]
      · rw [if_neg hi, if_neg (fun q => hi (this.mp q))]
theorem wipe_wipe {σ : L2.St} {vs : List Nat} : wipe (wipe σ vs) vs = wipe σ vs := by
  refine List.ext_getElem? fun i => ?_
  rw [wipe_get, wipe_get, wipe_length]
  by_cases hi : i ∈ vs
  · rw [if_pos hi]; rw [if_pos hi]
  · rw [if_neg hi]
theorem wipe_set {σ : L2.St} {vs : List Nat} {j : Nat} {v : Option V} (hj : j ∈ vs) : wipe (σ.set j v) vs = wipe σ vs := by
  refine List.ext_getElem? fun i => ?_
  rw [wipe_get, wipe_get, List.length_set]
  by_cases hi : i ∈ vs
  · rw [if_pos hi, if_pos hi]
  · rw [if_neg hi, if_neg hi, List.getElem?_set_ne (fun e => hi (by rw [← e]; exact hj))]
section
variable {K : PySem.W.Frag} {E : Ent} {F H : Hp} {st : Sts} {σ : L2.St}
theorem Sim.wipe {vs : List Nat} (S : Sim K E F H st σ) : Sim K E F H (wipeS st vs) (wipe σ vs) := by
  induction vs with
  | nil => exact S
  | cons v vs ih => exact ih.setNone
theorem Sim.unwipe {vs : List Nat} (hl : σ.length = st.length) (S : Sim K E F H st (L2.wipe σ vs)) : Sim K E F H st σ where
  sub := S.sub
  ent := S.ent
  fe := S.fe
  gr := S.gr
  len := hl
  val := fun i d e => by
    obtain ⟨v, e1, e2⟩ := S.val i d e
    exact ⟨v, (wipe_some e1).1, e2⟩
  own := fun i m e => by
    obtain ⟨a, e1, e2⟩ := S.own i m e
    exact ⟨a, (wipe_some e1).1, e2⟩
  sep := fun i j m m' a hij e1 e2 q1 q2 => by
    obtain ⟨a1, g1, _⟩ := S.own i m e1
    obtain ⟨a2, g2, _⟩ := S.own j m' e2
    have h1 := (wipe_some g1).1
    have h2 := (wipe_some g2).1
    rw [q1] at h1
    rw [q2] at h2
    cases h1
    cases h2
    exact S.sep i j m m' _ hij e1 e2 g1 g2
  adr := fun i a e => by
    obtain ⟨v, e1, e2⟩ := S.adr i a e
    exact ⟨v, (wipe_some e1).1, e2⟩
/-- a hidden object: not frozen, in no slot -/
abbrev Ent.hid (E : Ent) (p : Addr) (o : HO) : Ent := ⟨upd E.H p o, E.F, E.R⟩
theorem Sim.hide {p : Addr} {o : HO} (S : Sim K E F H st σ) (hp : H p = none) : Sim K (E.hid p o) F (upd H p o) st σ := by
  have G := S.grow (same_new (o := o) hp)
  refine ⟨G.sub, fun b u e => ?_, G.fe, fun a u e => ?_, G.len, G.val, fun i m e => ?_, G.sep, G.adr⟩
  · by_cases hb : b = p
    · subst hb
      rw [show (E.hid b o).H b = some o from upd_same] at e
      cases e
      exact upd_same
    · rw [show (E.hid p o).H b = E.H b from upd_ne hb] at e
      rw [upd_ne hb]; exact S.ent b u e
  · rcases S.gr a u e with q | q | q
    · exact .inl q
    · refine .inr (.inl ?_)
      have : a ≠ p := fun e2 => by subst e2; rw [S.sub.free hp] at e; cases e
      show upd E.H p o a = none
      rw [upd_ne this]; exact q
    · exact .inr (.inr q)
  · obtain ⟨a, e1, ow⟩ := S.own i m e
    obtain ⟨u, h1, h2⟩ := ow.here
    have : a ≠ p := fun e2 => by subst e2; rw [hp] at h1; cases h1
    exact ⟨a, e1, ow.f, by show upd E.H p o a = none; rw [upd_ne this]; exact ow.e, u, by rw [upd_ne this]; exact h1, h2⟩
theorem Sim.hidH {p : Addr} {o : HO} (S : Sim K (E.hid p o) F H st σ) : H p = some o := S.ent p o upd_same
theorem Sim.hidF {p : Addr} {o : HO} (S : Sim K (E.hid p o) F H st σ) (hp : E.F p = none) (ho : tuO o = false := by rfl) : F p = none := by
  cases e : F p with
  | none => rfl
  | some u =>
    rcases S.gr p u e with q | q | q
    · rw [show (E.hid p o).F p = E.F p from rfl, hp] at q; cases q
    · rw [show (E.hid p o).H p = some o from upd_same] at q; cases q
    · have h1 := S.sub p u e
      rw [S.hidH] at h1
      cases h1
      rw [ho] at q; cases q
theorem Sim.rehide {p : Addr} {o o' : HO} (S : Sim K (E.hid p o) F H st σ) (hp : E.F p = none) (ho : tuO o = false := by rfl) : Sim K (E.hid p o') F (upd H p o') st σ := by
  have hF := S.hidF hp ho
  refine ⟨fun b u e => ?_, fun b u e => ?_, S.fe, fun a u e => ?_, S.len, S.val, fun i m e => ?_, S.sep, S.adr⟩
  · have : b ≠ p := fun e2 => by subst e2; rw [hF] at e; cases e
    rw [upd_ne this]; exact S.sub b u e
  · by_cases hb : b = p
    · subst hb
      rw [show (E.hid b o').H b = some o' from upd_same] at e
      cases e
      exact upd_same
    · rw [show (E.hid p o').H b = E.H b from upd_ne hb] at e
      rw [upd_ne hb]
      exact S.ent b u (by show upd E.H p o b = _; rw [upd_ne hb]; exact e)
  · have : a ≠ p := fun e2 => by subst e2; rw [hF] at e; cases e
    rcases S.gr a u e with q | q | q
    · exact .inl q
    · refine .inr (.inl ?_)
      show upd E.H p o' a = none
      rw [upd_ne this]
      have q : upd E.H p o a = none := q
      rw [upd_ne this] at q
      exact q
    · exact .inr (.inr q)
  · obtain ⟨a, e1, ow⟩ := S.own i m e
    have q : upd E.H p o a = none := ow.e
    have : a ≠ p := fun e2 => by subst e2; rw [upd_same] at q; cases q
    obtain ⟨u, h1, h2⟩ := ow.here
    exact ⟨a, e1, ow.f, by show upd E.H p o' a = none; rw [upd_ne this] at q ⊢; exact q, u, by rw [upd_ne this]; exact h1, h2⟩
theorem Sim.unhide {p : Addr} {m : M} {o : HO} (S : Sim K (E.hid p o) F H st σ) (hp : E.F p = none) (hp2 : E.H p = none) (hm : MAt K F m o) (ho : tuO o = false := by rfl) : Sim K E F H st σ ∧ VRel K E F H st σ (.nw m) (.ref p) := by
  have sub : ∀ b, upd E.H p o b = none → E.H b = none := fun b q => by
    by_cases hb : b = p
    · subst hb; exact hp2
    · rw [upd_ne hb] at q; exact q
  refine ⟨⟨S.sub, fun b u e => ?_, S.fe, fun a u e => ?_, S.len, S.val, fun i m e => ?_, S.sep, S.adr⟩, p, rfl, ⟨S.hidF hp ho, hp2, o, S.hidH, hm⟩, fun i m' e q => ?_⟩
  · refine S.ent b u ?_
    have : b ≠ p := fun e2 => by subst e2; rw [hp2] at e; cases e
    show upd E.H p o b = _
    rw [upd_ne this]; exact e
  · rcases S.gr a u e with q | q | q
    · exact .inl q
    · exact .inr (.inl (sub a q))
    · exact .inr (.inr q)
  · obtain ⟨a, e1, ow⟩ := S.own i m e
    exact ⟨a, e1, ow.f, sub a ow.e, ow.here⟩
  · obtain ⟨a, e1, ow⟩ := S.own i m' e
    rw [q] at e1
    cases e1
    have : upd E.H p o p = none := ow.e
    rw [upd_same] at this
    cases this
end
/-! ### targets that write the block's names alone -/
def upGv (K : PySem.W.Frag) (vs : List Nat) (g : VG) : TG := fun v σ H Q => ∃ E F st d st', Sim K E F H st σ ∧ Rep K F d v ∧ g d st = some st' ∧ ∀ σ', wipe σ' vs = wipe σ vs → Sim K E F H st' σ' → Q σ' H
def upGvs (K : PySem.W.Frag) (vs : List Nat) (gs : List VG) : TGs := fun us σ H Q => ∃ E F st ds st', Sim K E F H st σ ∧ Reps K F ds us ∧ gsRun gs ds st = some st' ∧ ∀ σ', wipe σ' vs = wipe σ vs → Sim K E F H st' σ' → Q σ' H
abbrev DGv (X : Cx) (vs : List Nat) (e : Expr) (g : VG) : Prop := PG X e (upGv X.K vs g)
abbrev DGvs (X : Cx) (vs : List Nat) (es : List Expr) (gs : List VG) : Prop := PGs X es (upGvs X.K vs gs)
section
variable {X : Cx} {W : Wx} {pos : Pos} {vs : List Nat}
theorem dgv_name {i : Nat} {x : Str} (hN : X.N.Nodup) (hi : X.N[i]? = some x) (hx : Loc X.env.scope x) (hv : i ∈ vs) (hf : X.fn x = true ∨ X.env.scope.names.lookup x = some .local := by first | exact .inl rfl | exact .inr rfl | assumption) : DGv X vs (.Name x pos) (gN i) :=
  PG.imp (pg_name hN hi hx hf) fun v σ H Q ⟨E, F, st, d, st', S, r, e, q⟩ => by
    cases e
    exact q _ (wipe_set hv) (S.setVal r)
theorem dgvs_nil : DGvs X vs [] [] := PGs.imp pgs_nil fun us σ H Q ⟨E, F, st, ds, st', S, r, e, q⟩ => by
  cases ds with
  | nil =>
    cases e
    exact ⟨r, q σ rfl S⟩
  | cons d ds => cases e
theorem dgvs_cons {e : Expr} {es : List Expr} {g : VG} {gs : List VG} (h1 : DGv X vs e g) (h2 : DGvs X vs es gs) (hs : (assignEach (e :: es) X.env).map (·.2) = assign e X.env :: (assignEach es X.env).map (·.2) := by rfl) : DGvs X vs (e :: es) (g :: gs) :=
  PGs.imp (pgs_cons h1 h2 hs) fun us σ H Q ⟨E, F, st, ds, st', S, r, e, q⟩ => by
    cases ds with
    | nil => cases e
    | cons d ds =>
      obtain ⟨v, us, e1, r1, r2⟩ := r
      obtain ⟨st1, e2, e3⟩ := Option.bind_eq_some_iff.mp e
      exact ⟨v, us, e1, E, F, st, d, st1, S, r1, e2, fun σ' w S' => ⟨E, F, st1, ds, st', S', r2, e3, fun σ2 w2 S2 => q σ2 (w2.trans w) S2⟩⟩
theorem dgv_tup {es : List Expr} {k : Nat} {gs : List VG} (hc : X.calm = true) (h : DGvs X vs es gs) (hn : (assignEach es X.env).length = gs.length := by rfl) (hst : (assignEach es X.env).findIdx? (·.1) = none := by rfl) : DGv X vs (.Tuple es k pos) (gT gs) :=
  PG.imp (pg_tup hc h hn hst) fun v σ H Q ⟨E, F, st, d, st', S, r, e, q⟩ => by
    cases d with
    | tup ds =>
      obtain ⟨a, vs, e1, sq, rs⟩ := r
      exact ⟨a, vs, e1, SqT.of (S.sub _ _ sq), by rw [rs.length]; exact gsRun_len e, E, F, st, ds, st', S, rs, e, q⟩
    | _ => cases e
/-! ### the tests -/
abbrev DTs (X : Cx) (W : Wx) (es : List Expr) (f : VT) : Prop := PTs X es (upT X.K W f)
def vYes : VT := fun st => .ok (true, st)
theorem PTs.imp {X : Cx} {es : List Expr} {t t' : TT} (h : PTs X es t) (k : ∀ σ H Q, t' σ H Q → t σ H Q) : PTs X es t' := ⟨fun pins s σ H Q I q => h.run pins s σ H Q I (k _ _ _ q)⟩
theorem dts_nil : DTs X W [] vYes := PTs.imp pts_nil fun σ H Q ⟨E, F, st, S, q⟩ => q F H (Same.refl _) (Same.refl _) S
theorem dts_one {c : Expr} {t : VT} (h : DT X W c t) : DTs X W [c] t := pts_one h
/-! ### the walk -/
def gGive (o : Option Sts) : R Sts := match o with
  | some st => .ok st
  | none => .no
def kStepE (vs : List Nat) (q : Val × Sts) : R (Option D × Sts) := match q.1 with
  | .fz y => .ok (some y, wipeS q.2 vs)
  | _ => .no
def kStepT (e : VE) (vs : List Nat) (p : Bool × Sts) : R (Option D × Sts) := if p.1 = true then (e p.2).bind (kStepE vs) else .ok (none, wipeS p.2 vs)
def kStepG (t : VT) (e : VE) (vs : List Nat) (st : Sts) : R (Option D × Sts) := (t st).bind (kStepT e vs)
def compStep (g : VG) (t : VT) (e : VE) (vs : List Nat) (d : D) (st : Sts) : R (Option D × Sts) := (gGive (g d st)).bind (kStepG t e vs)
def compLoop (step : D → Sts → R (Option D × Sts)) : List D → List D → Sts → R (List D × Sts)
  | [], acc, st => .ok (acc, st)
  | d :: ds, acc, st => match step d st with
    | .ok (some y, st') => if acc.length < 16777216 then compLoop step ds (acc ++ [y]) st' else .no
    | .ok (none, st') => compLoop step ds acc st'
    | _ => .no
def compFin (p : List D × Sts) : R (Val × Sts) := .ok (.nw (.lst p.1), p.2)
def kComp (step : D → Sts → R (Option D × Sts)) (vs : List Nat) (p : List D × Sts) : R (Val × Sts) := (compLoop step p.1 [] (wipeS p.2 vs)).bind compFin
def vComp (src : VI) (g : VG) (t : VT) (e : VE) (vs : List Nat) : VE := fun st => (src st).bind (kComp (compStep g t e vs) vs)
def FinC (K : PySem.W.Frag) (E : Ent) (p : Addr) (F H0 : Hp) (σ : L2.St) (res : R (List D × Sts)) (Q : VK) : Prop := match res with
  | .ok (out, st) => ∀ F' H' us, Same F F' → Same H0 H' → Reps K F' out us → Sim K (E.hid p (.lst us)) F' H' st σ → Q (.ref p) H'
  | _ => False
theorem FinC.mono {K : PySem.W.Frag} {E : Ent} {p : Addr} {F F1 H0 : Hp} {σ : L2.St} {res : R (List D × Sts)} {Q : VK} (s : Same F F1) (h : FinC K E p F H0 σ res Q) : FinC K E p F1 H0 σ res Q := by
  cases res with
  | ok r => exact fun F' H' us a => h F' H' us (s.trans a)
  | exc c st => exact h
  | no => exact h
def CW (K : PySem.W.Frag) (E : Ent) (p : Addr) (step : D → Sts → R (Option D × Sts)) (ds : List D) (σ : L2.St) (F1 H0 : Hp) (Q : VK) (i m : Nat) (H : Hp) : Prop :=
  ∃ F2 st2 acc us, Same F1 F2 ∧ Same H0 H ∧ Reps K F2 acc us ∧ Sim K (E.hid p (.lst us)) F2 H st2 σ ∧ FinC K E p F2 H0 σ (compLoop step (ds.drop i) acc st2) Q ∧ m = ds.length - i ∧ i ≤ ds.length
theorem compLoop_exc {step : D → Sts → R (Option D × Sts)} : ∀ (ds acc : List D) (st : Sts) (c : Nat) (st' : Sts), compLoop step ds acc st ≠ .exc c st' := by
  intro ds
  induction ds with
  | nil => intro acc st c st' z; cases z
  | cons d ds ih =>
    intro acc st c st' z
    unfold compLoop at z
    split at z
    · split at z
      · exact ih _ _ _ _ z
      · cases z
    · exact ih _ _ _ _ z
    · cases z
theorem lc_up {src : VI} {g : VG} {t : VT} {e : VE} : ∀ σ H Q, up X.K W (vComp src g t e vs) σ H Q → tLc (iSrc X.K W src) (upGv X.K vs g) (upT X.K W0 t) (up X.K W0 e) vs σ H Q := fun σ H Q ⟨E, F, st, S, q⟩ => by
  refine ⟨E, F, st, S, ?_⟩
  unfold vComp at q
  cases e1 : src st with
  | no => rw [e1] at q; exact q
  | exc c st' => rw [e1] at q; exact q
  | ok pr =>
    rw [e1, R.bind_ok] at q
    obtain ⟨ds, st1⟩ := pr
    intro J F1 H1 a1 b1 S1 wk p hp
    have hEF : E.F p = none := S1.fe.free (S1.sub.free hp)
    have hEH : E.H p = none := S1.ent.free hp
    refine ⟨CW X.K E p (compStep g t e vs) ds (wipe σ vs) F1 H1 Q, ⟨ds.length, F1, wipeS st1 vs, [], [], Same.refl _, same_new hp, rfl, S1.wipe.hide hp, ?_, by simp, Nat.zero_le _⟩, ?_⟩
    · have q : EndE X.K W E F H σ ((compLoop (compStep g t e vs) ds [] (wipeS st1 vs)).bind compFin) Q := q
      rw [List.drop_zero]
      cases e2 : compLoop (compStep g t e vs) ds [] (wipeS st1 vs) with
      | no => rw [e2] at q; exact q
      | exc c st' => exact absurd e2 (compLoop_exc _ _ _ _ _)
      | ok r =>
        rw [e2, R.bind_ok] at q
        intro F' H' us sF sH rs S'
        obtain ⟨S2, vr⟩ := S'.unhide (m := .lst r.1) hEF hEH ⟨us, rfl, rs⟩
        have hl : σ.length = r.2.length := by have := S2.len; rw [wipe_length] at this; exact this
        have S3 := S2.unwipe hl
        refine q (.ref p) F' H' (a1.trans sF) (b1.trans sH) S3 ?_
        obtain ⟨p', e3, ow, hn⟩ := vr
        refine ⟨p', e3, ow, fun i m' e4 q4 => ?_⟩
        obtain ⟨a, e5, ow5⟩ := S2.own i m' e4
        have e6 := (wipe_some e5).1
        rw [q4] at e6
        cases e6
        exact hn i m' e4 e5
    · rintro i m H2 ⟨F2, st2, acc, us, sF, sH, rs, S2, q2, rfl, hi⟩
      by_cases hlt : i < ds.length
      · have ed : ds.drop i = ds[i] :: ds.drop (i + 1) := List.drop_eq_getElem_cons hlt
        rw [ed] at q2
        obtain ⟨go, yl⟩ := wk.1 i ds[i] (E.hid p (.lst us)) F2 H2 st2 (wipe σ vs) sF S2 (List.getElem?_eq_getElem hlt)
        refine .inr ⟨go, CW X.K E p (compStep g t e vs) ds (wipe σ vs) F1 H1 Q (i + 1) (ds.length - (i + 1)), fun H' n => ⟨_, by omega, n⟩, fun x H3 y => ?_⟩
        obtain ⟨F3, s3, sH3, _, S3, rx⟩ := yl x H3 y
        unfold compLoop at q2
        unfold compStep at q2
        cases e3 : g ds[i] st2 with
        | none => rw [e3] at q2; exact q2.elim
        | some st3 =>
          rw [e3] at q2
          refine ⟨E.hid p (.lst us), F3, st2, ds[i], st3, S3, rx, e3, fun σ2 w2 S4 => ⟨w2.trans wipe_wipe, E.hid p (.lst us), F3, st3, S4, ?_⟩⟩
          have w2 : wipe σ2 vs = wipe σ vs := w2.trans wipe_wipe
          have q2 : FinC X.K E p F2 H1 (wipe σ vs) (match (t st3).bind (kStepT e vs) with
            | .ok (some y, st') => if acc.length < 16777216 then compLoop (compStep g t e vs) (ds.drop (i + 1)) (acc ++ [y]) st' else .no
            | .ok (none, st') => compLoop (compStep g t e vs) (ds.drop (i + 1)) acc st'
            | _ => .no) Q := q2
          cases e4 : t st3 with
          | no => rw [e4] at q2; exact q2.elim
          | exc c st' => rw [e4] at q2; exact q2.elim
          | ok pt =>
            rw [e4, R.bind_ok] at q2
            obtain ⟨b, st4⟩ := pt
            intro F5 H5 a5 b5 S5
            cases b with
            | false =>
              rw [if_neg Bool.false_ne_true]
              exact ⟨F5, wipeS st4 vs, acc, us, (sF.trans s3).trans a5, (sH.trans sH3).trans b5, Reps.mono (s3.trans a5) _ _ rs, by rw [← w2]; exact S5.wipe, FinC.mono (s3.trans a5) q2, rfl, hlt⟩
            | true =>
              rw [if_pos rfl]
              refine ⟨E.hid p (.lst us), F5, st4, S5, ?_⟩
              have q2 : FinC X.K E p F2 H1 (wipe σ vs) (match (e st4).bind (kStepE vs) with
                | .ok (some y, st') => if acc.length < 16777216 then compLoop (compStep g t e vs) (ds.drop (i + 1)) (acc ++ [y]) st' else .no
                | .ok (none, st') => compLoop (compStep g t e vs) (ds.drop (i + 1)) acc st'
                | _ => .no) Q := q2
              cases e5 : e st4 with
              | no => rw [e5] at q2; exact q2.elim
              | exc c st' => rw [e5] at q2; exact q2.elim
              | ok pe =>
                rw [e5, R.bind_ok] at q2
                obtain ⟨r, st5⟩ := pe
                intro v F6 H6 a6 b6 S6 vr
                cases r with
                | nw m => exact q2.elim
                | pk i m => exact q2.elim
                | fz y =>
                  have q2 : FinC X.K E p F2 H1 (wipe σ vs) (if acc.length < 16777216 then compLoop (compStep g t e vs) (ds.drop (i + 1)) (acc ++ [y]) (wipeS st5 vs) else .no) Q := q2
                  by_cases hl : acc.length < 16777216
                  · rw [if_pos hl] at q2
                    have sFF := (s3.trans a5).trans a6
                    refine ⟨us, S6.hidH, by rw [rs.length, sizeLine_eq]; exact hl, F6, wipeS st5 vs, acc ++ [y], us ++ [v], sF.trans sFF, ?_, (Reps.mono sFF _ _ rs).append (Reps.one vr), ?_, FinC.mono sFF q2, rfl, hlt⟩
                    · have sH6 : Same H1 H6 := ((sH.trans sH3).trans b5).trans b6
                      intro b u eb
                      rw [upd_ne (ne_of_none eb hp)]
                      exact sH6 b u eb
                    · rw [← w2]
                      exact (S6.wipe (vs := vs)).rehide hEF
                  · rw [if_neg hl] at q2; exact q2.elim
      · have ei : i = ds.length := by omega
        have ed : ds.drop i = [] := List.drop_eq_nil_of_le (by omega)
        rw [ed] at q2
        exact .inl ⟨wk.2 i (E.hid p (.lst us)) F2 H2 st2 (wipe σ vs) sF S2 (by omega), q2 F2 H2 us (Same.refl _) sH rs S2⟩
theorem de_comp {elt tg iter : Expr} {ifs : List Expr} {scope : Scope} {own : List (Str × Nat)} {src : VI} {g : VG} {t : VT} {e : VE} (hc : X.calm = true) (hN : X.N.Nodup) (hi : DI X W tg iter src) (ok : BlkOk X.N X.env.scope scope own)
    (hg : ∀ (s : Shared) (H : Hp) (C : Addr) (cl : List (Str × Addr)) (fp : List Addr), DGv (X.blk s H scope (compEnvC scope cl C X.env) fp) (own.map (·.2)) tg g) (ht : ∀ (s : Shared) (H : Hp) (C : Addr) (cl : List (Str × Addr)) (fp : List Addr), DTs (X.blk s H scope (compEnvC scope cl C X.env) fp) W0 ifs t)
    (he : ∀ (s : Shared) (H : Hp) (C : Addr) (cl : List (Str × Addr)) (fp : List Addr), DE (X.blk s H scope (compEnvC scope cl C X.env) fp) W0 elt e) (hs : ∀ x, foldedSetIterable iter X.env x = pure x := by intro _; rfl) :
    DE X W (.ListComp elt [⟨tg, iter, ifs, 0⟩] scope pos) (vComp src g t e (own.map (·.2))) := PE.imp (pe_lc hc hN hi ok hg ht he hs) lc_up
theorem ds_setComp {i : Nat} {y : Str} {py spos : Pos} {elt tg iter : Expr} {ifs : List Expr} {scope : Scope} {own : List (Str × Nat)} {src : VI} {g : VG} {t : VT} {e : VE} (hc : X.calm = true) (hN : X.N.Nodup) (hy : X.N[i]? = some y) (hyl : X.env.scope.names.lookup y = some .local)
    (hsw : swapsWith (.ListComp elt [⟨tg, iter, ifs, 0⟩] scope pos) (some (.Name y py)) spos.line X.env = pure true) (hi : DI X W tg iter src) (ok : BlkOk X.N X.env.scope scope own)
    (hg : ∀ (s : Shared) (H : Hp) (C : Addr) (cl : List (Str × Addr)) (fp : List Addr), DGv (X.blk s H scope (compEnvC scope cl C X.env) fp) (own.map (·.2)) tg g) (ht : ∀ (s : Shared) (H : Hp) (C : Addr) (cl : List (Str × Addr)) (fp : List Addr), DTs (X.blk s H scope (compEnvC scope cl C X.env) fp) W0 ifs t)
    (he : ∀ (s : Shared) (H : Hp) (C : Addr) (cl : List (Str × Addr)) (fp : List Addr), DE (X.blk s H scope (compEnvC scope cl C X.env) fp) W0 elt e) (hs : ∀ x, foldedSetIterable iter X.env x = pure x := by intro _; rfl) :
    DS X W (.Assign [.Name y py] (.ListComp elt [⟨tg, iter, ifs, 0⟩] scope pos) spos) (vAsg i (vComp src g t e (own.map (·.2)))) := PS.imp (ps_setLc hc hN hy hyl hsw hi ok hg ht he hs) fun D σ H ⟨E, F, st, S, q⟩ => by
  refine lc_up (g := g) (t := t) (e := e) σ H _ ⟨E, F, st, S, ?_⟩
  unfold vAsg at q
  cases e1 : vComp src g t e (own.map (·.2)) st with
  | no => rw [e1] at q; exact q
  | exc c st' => rw [e1] at q; exact fun F' H' a b S' => q σ F' H' a S'
  | ok p =>
    rw [e1, R.bind_ok] at q
    obtain ⟨r, st1⟩ := p
    intro v F1 H1 a b S1 vr
    exact q _ F1 H1 a (S1.store vr (by cases r <;> rfl))
end
end Vl
namespace Vl
open PySem PySem.Spec PyProof.Rows L2
section
variable {X : Cx} {W : Wx} {pos : Pos}
/-! ## is True, is not False -/
def oIsB : D → D → Option Val
  | .bl a, .bl b => some (.fz (.bl (a == b)))
  | .int _, .bl _ => some (.fz (.bl false))
  | .tup _, .bl _ => some (.fz (.bl false))
  | .lst _, .bl _ => some (.fz (.bl false))
  | _, _ => none
def oNotB : D → D → Option Val
  | .bl a, .bl b => some (.fz (.bl (a != b)))
  | .int _, .bl _ => some (.fz (.bl true))
  | .tup _, .bl _ => some (.fz (.bl true))
  | .lst _, .bl _ => some (.fz (.bl true))
  | _, _ => none
theorem opIsB : OpR X (compareOp .Is) (rD X.K oIsB) := by
  intro pins s σ H x y v u Q I rx ry ⟨E, F, st, σ', dx, dy, res, S, hx, hy, e, p⟩
  match dx, dy, e with
  | .bl a, .bl b, e =>
    have h1 := hx.bl
    have h2 := hy.bl
    subst h1 h2
    cases e
    exact op_isBl pins s σ H _ _ v u Q I rx ry ⟨a, b, rfl, rfl, p.fz S (by cases a <;> cases b <;> rfl)⟩
  | .int a, .bl b, e =>
    have h1 := hx.int
    have h2 := hy.bl
    subst h1 h2
    cases e
    obtain ⟨t, rfl⟩ := rx
    cases (show u = Value.bool b from ry)
    exact wpAny_is_other rfl (fun z => nomatch z) ⟨.bl false, H, I, rfl, p.fz S rfl⟩
  | .tup a, .bl b, e =>
    obtain ⟨l, vs, h1, _⟩ := hx.tup S.sub
    have h2 := hy.bl
    subst h1 h2
    cases e
    cases (show v = Value.ref l from rx)
    cases (show u = Value.bool b from ry)
    exact wpAny_is_other rfl (fun z => nomatch z) ⟨.bl false, H, I, rfl, p.fz S rfl⟩
  | .lst a, .bl b, e =>
    obtain ⟨l, vs, h1, _⟩ := hx.lst S.sub
    have h2 := hy.bl
    subst h1 h2
    cases e
    cases (show v = Value.ref l from rx)
    cases (show u = Value.bool b from ry)
    exact wpAny_is_other rfl (fun z => nomatch z) ⟨.bl false, H, I, rfl, p.fz S rfl⟩
theorem opNotB : OpR X (compareOp .IsNot) (rD X.K oNotB) := by
  intro pins s σ H x y v u Q I rx ry ⟨E, F, st, σ', dx, dy, res, S, hx, hy, e, p⟩
  match dx, dy, e with
  | .bl a, .bl b, e =>
    have h1 := hx.bl
    have h2 := hy.bl
    subst h1 h2
    cases e
    exact op_notBl pins s σ H _ _ v u Q I rx ry ⟨a, b, rfl, rfl, p.fz S (by cases a <;> cases b <;> rfl)⟩
  | .int a, .bl b, e =>
    have h1 := hx.int
    have h2 := hy.bl
    subst h1 h2
    cases e
    obtain ⟨t, rfl⟩ := rx
    cases (show u = Value.bool b from ry)
    exact wpAny_isNot_other rfl (fun z => nomatch z) ⟨.bl true, H, I, rfl, p.fz S rfl⟩
  | .tup a, .bl b, e =>
    obtain ⟨l, vs, h1, _⟩ := hx.tup S.sub
    have h2 := hy.bl
    subst h1 h2
    cases e
    cases (show v = Value.ref l from rx)
    cases (show u = Value.bool b from ry)
    exact wpAny_isNot_other rfl (fun z => nomatch z) ⟨.bl true, H, I, rfl, p.fz S rfl⟩
  | .lst a, .bl b, e =>
    obtain ⟨l, vs, h1, _⟩ := hx.lst S.sub
    have h2 := hy.bl
    subst h1 h2
    cases e
    cases (show v = Value.ref l from rx)
    cases (show u = Value.bool b from ry)
    exact wpAny_isNot_other rfl (fun z => nomatch z) ⟨.bl true, H, I, rfl, p.fz S rfl⟩
/-! ## all, any, sum, min, max -/
def blsOf : List D → Option (List Bool)
  | [] => some []
  | .bl b :: ds => (blsOf ds).map (b :: ·)
  | _ :: _ => none
theorem reps_bls {K : PySem.W.Frag} {F : Hp} : ∀ {ds : List D} {bs : List Bool} {vs : List V}, blsOf ds = some bs → Reps K F ds vs → vs = bs.map V.bl
  | [], _, _, e, h => by cases e; exact h
  | .bl b :: ds, bs, _, e, ⟨v, us, h1, h2, h3⟩ => by
    obtain ⟨cs, e1, e2⟩ := Option.map_eq_some_iff.mp e
    subst e2 h1
    rw [reps_bls e1 h3, show v = .bl b from h2]
    rfl
def allEnd (o : Option (List Bool)) : Option Val := o.map fun bs => .fz (.bl (bs.all id))
def anyEnd (o : Option (List Bool)) : Option Val := o.map fun bs => .fz (.bl (bs.any id))
def oAll : List D → Option Val
  | [.lst ds] => allEnd (blsOf ds)
  | _ => none
def oAny : List D → Option Val
  | [.lst ds] => anyEnd (blsOf ds)
  | _ => none
theorem callAll (hc : X.calm = true) : CallR X (.builtin "all") (rDN X.K oAll) := by
  intro pins s σ H xs us Q I r ⟨E, F, st, σ', ds, res, S, hx, e, p⟩
  match ds, e with
  | [.lst es], e =>
    obtain ⟨v, rfl, h⟩ := hx.one
    obtain ⟨a, vs, rfl, h1, r1⟩ := h.lst S.sub
    obtain ⟨bs, e1, e2⟩ := Option.map_eq_some_iff.mp e
    subst e2
    exact cr_all hc pins s σ H _ us Q I r ⟨a, bs, rfl, by rw [← reps_bls e1 r1]; exact h1, p.fz S rfl⟩
theorem callAnyL (hc : X.calm = true) : CallR X (.builtin "any") (rDN X.K oAny) := by
  intro pins s σ H xs us Q I r ⟨E, F, st, σ', ds, res, S, hx, e, p⟩
  match ds, e with
  | [.lst es], e =>
    obtain ⟨v, rfl, h⟩ := hx.one
    obtain ⟨a, vs, rfl, h1, r1⟩ := h.lst S.sub
    obtain ⟨bs, e1, e2⟩ := Option.map_eq_some_iff.mp e
    subst e2
    exact cr_any hc pins s σ H _ us Q I r ⟨a, bs, rfl, by rw [← reps_bls e1 r1]; exact h1, p.fz S rfl⟩
def intsOf : List D → Option (List Int)
  | [] => some []
  | .int b :: ds => (intsOf ds).map (b :: ·)
  | _ :: _ => none
theorem reps_intsOf {K : PySem.W.Frag} {F : Hp} : ∀ {ds : List D} {bs : List Int} {vs : List V}, intsOf ds = some bs → Reps K F ds vs → vs = bs.map V.int
  | [], _, _, e, h => by cases e; exact h
  | .int b :: ds, bs, _, e, ⟨v, us, h1, h2, h3⟩ => by
    obtain ⟨cs, e1, e2⟩ := Option.map_eq_some_iff.mp e
    subst e2 h1
    rw [reps_intsOf e1 h3, show v = .int b from h2]
    rfl
def sumEnd (o : Option (List Int)) : Option Val := o.map fun bs => .fz (.int bs.sum)
def oSum : List D → Option Val
  | [.lst ds] => sumEnd (intsOf ds)
  | _ => none
theorem callSum (hc : X.calm = true) : CallR X (.builtin "sum") (rDN X.K oSum) := by
  intro pins s σ H xs us Q I r ⟨E, F, st, σ', ds, res, S, hx, e, p⟩
  match ds, e with
  | [.lst es], e =>
    obtain ⟨v, rfl, h⟩ := hx.one
    obtain ⟨a, vs, rfl, h1, r1⟩ := h.lst S.sub
    obtain ⟨bs, e1, e2⟩ := Option.map_eq_some_iff.mp e
    subst e2
    exact cr_sum hc pins s σ H _ us Q I r ⟨a, bs, rfl, by rw [← reps_intsOf e1 r1]; exact h1, p.fz S rfl⟩
def oMax : List D → Option Val
  | [.int i, .int j] => some (.fz (.int (if j > i then j else i)))
  | _ => none
def oMin : List D → Option Val
  | [.int i, .int j] => some (.fz (.int (if j < i then j else i)))
  | _ => none
theorem callMax (hc : X.calm = true) : CallR X (.builtin "max") (rDN X.K oMax) := by
  intro pins s σ H xs us Q I r ⟨E, F, st, σ', ds, res, S, hx, e, p⟩
  match ds, e with
  | [.int i, .int j], e =>
    obtain ⟨v, w, rfl, h, h2⟩ := hx.two
    have h := h.int
    have h2 := h2.int
    subst h h2
    cases e
    exact call_max2 hc pins s σ H _ us Q I r ⟨i, j, rfl, p.fz S rfl⟩
theorem callMin (hc : X.calm = true) : CallR X (.builtin "min") (rDN X.K oMin) := by
  intro pins s σ H xs us Q I r ⟨E, F, st, σ', ds, res, S, hx, e, p⟩
  match ds, e with
  | [.int i, .int j], e =>
    obtain ⟨v, w, rfl, h, h2⟩ := hx.two
    have h := h.int
    have h2 := h2.int
    subst h h2
    cases e
    exact call_min2 hc pins s σ H _ us Q I r ⟨i, j, rfl, p.fz S rfl⟩
/-! ## a op b op c -/
def kCh (o' : D → D → Option Val) (h : VE) (y : Val) (b : Val × Sts) : R (Val × Sts) := match b.1 with
  | .fz (.bl true) => (h b.2).bind fun w => give (o' y.d w.1.d) w.2
  | .fz (.bl false) => .ok (.fz (.bl false), b.2)
  | _ => .no
def kCh2 (o o' : D → D → Option Val) (h : VE) (x : Val) (q : Val × Sts) : R (Val × Sts) := (give (o x.d q.1.d) q.2).bind (kCh o' h q.1)
def kCh1 (o o' : D → D → Option Val) (g h : VE) (p : Val × Sts) : R (Val × Sts) := (g p.2).bind (kCh2 o o' h p.1)
def vChain (o o' : D → D → Option Val) (f g h : VE) : VE := fun st => (f st).bind (kCh1 o o' g h)
theorem up_chain {K : PySem.W.Frag} {r r' : R2} {o o' : D → D → Option Val} {f g h : VE} (hr : Op2 K r o) (hr' : Op2 K r' o') : ∀ σ H Q, up K W (vChain o o' f g h) σ H Q → tChain r r' (up K W f) (up K W g) (up K W h) σ H Q := fun σ H Q ⟨E, F, st, S, q⟩ => by
  refine seqE S q fun r1 st1 v F1 H1 a b S1 vr k => ?_
  refine seqE (Q := Q) (k := kCh2 o o' h r1) S1 k fun r2 st2 u F2 H2 a2 b2 S2 vr2 k2 => ?_
  have k2 : EndE K W E F2 H2 σ ((give (o r1.d r2.d) st2).bind (kCh o' h r2)) Q := k2
  cases e : o r1.d r2.d with
  | none => rw [e] at k2; exact k2.elim
  | some res =>
    rw [e] at k2
    have k2 : EndE K W E F2 H2 σ (kCh o' h r2 (res, st2)) Q := k2
    refine hr E F2 H2 st2 σ _ _ v u res _ S2 (ORel.mono a2 b2 (VRel.o S1 vr)) (VRel.o S2 vr2) e fun w F3 H3 a3 b3 S3 wr => ?_
    match res, k2 with
    | .fz (.bl false), k2 => exact ⟨false, wr, by rw [if_neg Bool.false_ne_true]; exact k2 (.bl false) F3 H3 a3 b3 S3 rfl⟩
    | .fz (.bl true), k2 =>
      refine ⟨true, wr, ?_⟩
      rw [if_pos rfl]
      have k2 : EndE K W E F2 H2 σ ((h st2).bind fun w => give (o' r2.d w.1.d) w.2) Q := k2
      have k3 := EndE.mono a3 b3 k2
      refine seqE (Q := Q) (k := fun w => give (o' r2.d w.1.d) w.2) S3 k3 fun r4 st4 z F4 H4 a4 b4 S4 vr4 k4 => ?_
      have k4 : EndE K W E F4 H4 σ (give (o' r2.d r4.d) st4) Q := k4
      cases e4 : o' r2.d r4.d with
      | none => rw [e4] at k4; exact k4.elim
      | some res4 => rw [e4] at k4; exact hr' E F4 H4 st4 σ _ _ u z res4 Q S4 (ORel.mono (a3.trans a4) (b3.trans b4) (VRel.o S2 vr2)) (VRel.o S4 vr4) e4 k4
theorem de_chain {a b c : Expr} {op op' : CmpOp} {r r' : R2} {o o' : D → D → Option Val} {f g h : VE} (ho : OpR X (compareOp op) r) (hr : Op2 X.K r o) (ho' : OpR X (compareOp op') r') (hr' : Op2 X.K r' o') (ha : DE X W a f) (hb : DE X W b g) (hcc : DE X W c h)
    (hm : lastMarks [op, op'] [b, c] = false := by with_unfolding_all rfl) : DE X W (.Compare a [op, op'] [b, c] pos) (vChain o o' f g h) := PE.imp (pe_chain ho ho' ha hb hcc hm) (up_chain hr hr')
theorem up_test' {K : PySem.W.Frag} {f : VE} {t : TE} (h : ∀ σ H Q, up K W f σ H Q → t σ H Q) : ∀ σ H Q, upT K W (vTest f) σ H Q → tTest t σ H Q := fun σ H Q q => h σ H _ (up_test σ H Q q)
theorem dt_chain {a b c : Expr} {op op' : CmpOp} {r r' : R2} {o o' : D → D → Option Val} {f g h : VE} (ho : OpR X (compareOp op) r) (hr : Op2 X.K r o) (ho' : OpR X (compareOp op') r') (hr' : Op2 X.K r' o') (ha : DE X W a f) (hb : DE X W b g) (hcc : DE X W c h)
    (hm : lastMarks [op, op'] [b, c] = false := by with_unfolding_all rfl) : DT X W (.Compare a [op, op'] [b, c] pos) (vTest (vChain o o' f g h)) := PT.imp (pt_chain ho ho' ha hb hcc hm) (up_test' (up_chain hr hr'))
/-! ## xs[i] = v -/
def setIxEnd (i : Nat) (d : D) (st : Sts) (k : Option Sl) (x : Val) : R Flow := match k, x with
  | some (.own (.lst ds)), .fz (.int n) => match ixN ds.length n with
    | some j => .ok (.nx (st.set i (.own (.lst (ds.set j d)))))
    | none => .no
  | _, _ => .no
def kSetIx2 (i : Nat) (x : Val) (q : Val × Sts) : R Flow := match x with
  | .fz d => setIxEnd i d q.2 (q.2[i]?) q.1
  | _ => .no
def kSetIx (i : Nat) (g : VE) (p : Val × Sts) : R Flow := match p.2[i]? with
  | some (.own (.lst _)) => (g p.2).bind (kSetIx2 i p.1)
  | _ => .no
def vSetIx (i : Nat) (f g : VE) : VS := fun st => (f st).bind (kSetIx i g)
theorem setIx_inv {K : PySem.W.Frag} {W : Wx} {E : Ent} {F : Hp} {D : Ends} {i : Nat} {d : Vl.D} {st : Sts} {k : Option Sl} {x : Val} (q : EndS K W E F (setIxEnd i d st k x) D) :
    ∃ ds n j, k = some (.own (.lst ds)) ∧ x = .fz (.int n) ∧ ixN ds.length n = some j ∧ EndS K W E F (.ok (.nx (st.set i (.own (.lst (ds.set j d)))))) D := by
  unfold setIxEnd at q
  split at q
  · split at q
    · rename_i h
      exact ⟨_, _, _, rfl, rfl, h, q⟩
    · exact q.elim
  · exact q.elim
theorem setIx_inv1 {K : PySem.W.Frag} {W : Wx} {E : Ent} {F : Hp} {D : Ends} {i : Nat} {g : VE} {p : Val × Sts} (q : EndS K W E F (kSetIx i g p) D) : ∃ ds d, p.2[i]? = some (.own (.lst ds)) ∧ EndS K W E F ((g p.2).bind (kSetIx2 i p.1)) D ∧ ((∃ c s, g p.2 = .exc c s) ∨ p.1 = .fz d) := by
  unfold kSetIx at q
  split at q
  · rename_i ds h
    cases e : g p.2 with
    | no => rw [e] at q; exact q.elim
    | exc c s => exact ⟨ds, .non, h, by rw [e] at q; exact q, .inl ⟨c, s, rfl⟩⟩
    | ok r =>
      rw [e, R.bind_ok] at q
      unfold kSetIx2 at q
      split at q
      · rename_i d hd
        exact ⟨ds, d, h, by rw [R.bind_ok]; unfold kSetIx2; rw [hd]; exact q, .inr hd⟩
      · exact q.elim
  · exact q.elim
theorem Reps.set {K : PySem.W.Frag} {F : Hp} : ∀ {ds : List D} {vs : List V} {j : Nat} {d : D} {v : V}, Reps K F ds vs → Rep K F d v → Reps K F (ds.set j d) (vs.set j v)
  | [], _, _, _, _, h, _ => by rw [show _ = [] from h]; rfl
  | e :: ds, _, 0, d, v, ⟨w, us, h1, h2, h3⟩, r => by subst h1; exact ⟨v, us, rfl, r, h3⟩
  | e :: ds, _, j + 1, d, v, ⟨w, us, h1, h2, h3⟩, r => by subst h1; exact ⟨w, us.set j v, rfl, h2, Reps.set h3 r⟩
theorem ds_setIx {i : Nat} {o e ix : Expr} {f g : VE} {pos' : Pos} (ho : PE X o (tVar i)) (he : DE X W e f) (hi : DE X W ix g) (hs : swapsWithSole [.Subscript o ix pos'] e pos.line X.env = pure false := by rfl) (hw : swappedStores [.Subscript o ix pos'] e X.env = pure none := by rfl)
    (h1 : (assignEach [.Subscript o ix pos'] X.env).map (·.2) = [assign (.Subscript o ix pos') X.env] := by rfl)
    (ha : ∀ v, assign (.Subscript o ix pos') X.env v = (do
      let ov ← holding [v] (eval o X.env)
      let iv ← holding [v, ov] (eval ix X.env)
      standAt pos'
      holding [v, ov, iv] (setItem ov iv v)
      release [v, ov, iv] []) := by intro _; rfl) : DS X W (.Assign [.Subscript o ix pos'] e pos) (vSetIx i f g) := PS.imp (ps_asg he (pg_sub ho hi set_list ha) hs hw h1) fun D σ H ⟨E, F, st, S, q⟩ => by
  refine ⟨E, F, st, S, ?_⟩
  unfold vSetIx at q
  cases e1 : f st with
  | no => rw [e1] at q; exact q
  | exc c st' => rw [e1] at q; exact fun F' H' a b S' => q σ F' H' a S'
  | ok p =>
    rw [e1, R.bind_ok] at q
    obtain ⟨x, st1⟩ := p
    intro v F1 H1 a1 b1 S1 vr
    obtain ⟨ds0, d, e2, q, hx⟩ := setIx_inv1 q
    obtain ⟨ad, ea, _⟩ := S1.own i _ e2
    refine ⟨_, ea, E, F1, st1, S1, ?_⟩
    dsimp only at q hx
    cases e3 : g st1 with
    | no => rw [e3] at q; exact q
    | exc c st' => rw [e3] at q; exact fun F' H' a b S' => q σ F' H' (a1.trans a) S'
    | ok p3 =>
      rw [e3, R.bind_ok] at q
      obtain ⟨y, st2⟩ := p3
      intro u F2 H2 a2 b2 S2 ur
      rcases hx with ⟨c, s, z⟩ | hx
      · rw [e3] at z; cases z
      subst hx
      obtain ⟨ds, n, j, e4, hy, e5, q5⟩ := setIx_inv (show EndS X.K W E F (setIxEnd i d st2 (st2[i]?) y) D from q)
      subst hy
      obtain ⟨ad2, ea2, ow⟩ := S2.own i _ e4
      rw [ea] at ea2
      cases ea2
      obtain ⟨ob, eo, vs, rfl, rs⟩ := ow.here
      refine ⟨ad, vs, n, j, rfl, ur, eo, by rw [rs.length]; exact e5, ?_⟩
      have q : EndS X.K W E F (.ok (.nx (st2.set i (.own (.lst (ds.set j d)))))) D := q5
      exact q5 σ F2 _ (a1.trans a2) (S2.write e4 ea ⟨_, rfl, rs.set (Rep.mono a2 _ _ vr)⟩)
/-! ## methods of a text -/
def rM0 (K : PySem.W.Frag) (o : D → Option Val) : V → List V → Hp → VK → Prop := fun x xs H Q => xs = [] ∧ rD1 K o x H Q
def rM1 (K : PySem.W.Frag) (o : D → D → Option Val) : V → List V → Hp → VK → Prop := fun x xs H Q => ∃ y, xs = [y] ∧ rD K o x y H Q
theorem de_m0 {id : String} {name : Str} {e : Expr} {apos pos : Pos} {o : D → Option Val} {f : VE} (slot : Slot "str" name id) (ty : typeOf (.builtin id) = pure (.type "method_descriptor")) (rule : MtR X id (rM0 X.K o)) (he : DE X W e f) (hstr : ∀ d r, o d = some r → ∃ z, d = .str z)
    (hbase : attributeBase e name X.env (eval e X.env) = eval e X.env := by rfl) (hline : (apos.endLine == pos.line) = true := by rfl) : DE X W (.Call (.Attribute e name apos) [] [] pos) (v1 o f) := PE.imp (pe_m0 slot ty rule he hbase hline) fun σ H Q ⟨E, F, st, S, q⟩ => by
  refine seqE S q fun r1 st1 v F1 H1 a b S1 vr k => ?_
  cases e : o r1.d with
  | none => rw [e] at k; exact k.elim
  | some res =>
    rw [e] at k
    obtain ⟨z, ez⟩ := hstr _ _ e
    have h := VRel.o S1 vr
    have h2 := h
    rw [ez] at h2
    exact ⟨⟨_, h2.str.1⟩, rfl, E, F1, st1, σ, _, res, S1, h, e, k⟩
def kM1 (o : D → D → Option Val) (g : VE) (p : Val × Sts) : R (Val × Sts) := match p.1.d with
  | .str _ => (g p.2).bind (fun q => give (o p.1.d q.1.d) q.2)
  | _ => .no
def vM1 (o : D → D → Option Val) (f g : VE) : VE := fun st => (f st).bind (kM1 o g)
theorem de_m1 {id : String} {name : Str} {e e2 : Expr} {apos pos : Pos} {o : D → D → Option Val} {f g : VE} (slot : Slot "str" name id) (ty : typeOf (.builtin id) = pure (.type "method_descriptor")) (rule : MtR X id (rM1 X.K o)) (he : DE X W e f) (he2 : DE X W e2 g)
    (hs : starEach [e2] X.env = [(false, eval e2 X.env)] := by rfl) (hbase : attributeBase e name X.env (eval e X.env) = eval e X.env := by rfl) (hline : (apos.endLine == pos.line) = true := by rfl) : DE X W (.Call (.Attribute e name apos) [e2] [] pos) (vM1 o f g) := PE.imp (pe_m1 slot ty rule he he2 hs hbase hline) fun σ H Q ⟨E, F, st, S, q⟩ => by
  refine seqE (Q := Q) (k := kM1 o g) S q fun r1 st1 v F1 H1 a b S1 vr k => ?_
  unfold kM1 at k
  split at k
  · rename_i z hz
    have hz : r1.d = .str z := hz
    have h := VRel.o S1 vr
    have h2 := h
    rw [hz] at h2
    refine ⟨⟨_, h2.str.1⟩, ?_⟩
    refine seqE (Q := Q) S1 k fun r2 st2 u F2 H2 a2 b2 S2 vr2 k2 => ?_
    cases e : o r1.d r2.d with
    | none => rw [e] at k2; exact k2.elim
    | some res => rw [e] at k2; exact ⟨u, rfl, E, F2, st2, σ, _, _, res, S2, h.mono a2 b2, VRel.o S2 vr2, e, k2⟩
  · exact k.elim
def okTx (z : List Nat) : Bool := decide (z.length ≤ 1000) && z.all fun c => decide (c < 1114112)
theorem okTx_ok {z : List Nat} (h : okTx z = true) : TxOk z := by
  unfold okTx at h
  rw [Bool.and_eq_true, List.all_eq_true, decide_eq_true_eq] at h
  exact ⟨small_size h.1, fun c hc => by simpa using h.2 c hc⟩
def upperT (z : List Nat) : List Nat := (Txt.upper (tx z)).cps.toList
def oUpper : D → Option Val
  | .str z => if (decide (z.length ≤ 1000) && okTx (upperT z)) = true then some (.fz (.str (upperT z))) else none
  | _ => none
theorem ofArr (a : Str) : a = tx a.cps.toList := by cases a; rfl
theorem mtUpper : MtR X "str.upper" (rM0 X.K oUpper) := by
  intro pins s σ H x xs v us Q I rx rs ⟨e0, E, F, st, σ', dx, res, S, hx, e, p⟩
  match dx, e with
  | .str z, e =>
    obtain ⟨h1, ok⟩ := hx.str
    unfold oUpper at e
    dsimp only at e
    by_cases hl : (decide (z.length ≤ 1000) && okTx (upperT z)) = true
    · rw [if_pos hl] at e
      cases e
      rw [Bool.and_eq_true, decide_eq_true_eq] at hl
      refine mt_upper pins s σ H x xs v us Q I rx rs ⟨tx z, h1, e0, ?_, p.fz S ⟨?_, okTx_ok hl.2⟩⟩
      · rw [tx_length]; omega
      · rw [ofArr (Txt.upper (tx z))]; rfl
    · rw [if_neg hl] at e; cases e
theorem upper_str : ∀ d r, oUpper d = some r → ∃ z, d = .str z := by
  intro d r h
  cases d with
  | str z => exact ⟨z, rfl⟩
  | _ => cases h
def oFind : D → D → Option Val
  | .str z, .str y => some (.fz (.int (Txt.find (tx z) (tx y))))
  | _, _ => none
theorem mtFind : MtR X "str.find" (rM1 X.K oFind) := by
  intro pins s σ H x xs v us Q I rx rs ⟨y, e0, E, F, st, σ', dx, dy, res, S, hx, hy, e, p⟩
  match dx, dy, e with
  | .str z, .str z2, e =>
    obtain ⟨h1, ok⟩ := hx.str
    obtain ⟨h2, ok2⟩ := hy.str
    cases e
    subst h2
    exact mt_find pins s σ H x xs v us Q I rx rs ⟨tx z, tx z2, h1, e0, p.fz S rfl⟩
end
/-! ## run -/
theorem oIsB_ap (a b : Bool) : oIsB (.bl a) (.bl b) = some (.fz (.bl (a == b))) := byDef rfl
theorem oIsB_int (a : Int) (b : Bool) : oIsB (.int a) (.bl b) = some (.fz (.bl false)) := byDef rfl
theorem oIsB_tup (a : List D) (b : Bool) : oIsB (.tup a) (.bl b) = some (.fz (.bl false)) := byDef rfl
theorem oIsB_lst (a : List D) (b : Bool) : oIsB (.lst a) (.bl b) = some (.fz (.bl false)) := byDef rfl
theorem oNotB_tup (a : List D) (b : Bool) : oNotB (.tup a) (.bl b) = some (.fz (.bl true)) := byDef rfl
theorem oNotB_lst (a : List D) (b : Bool) : oNotB (.lst a) (.bl b) = some (.fz (.bl true)) := byDef rfl
theorem oNotB_ap (a b : Bool) : oNotB (.bl a) (.bl b) = some (.fz (.bl (a != b))) := byDef rfl
theorem oNotB_int (a : Int) (b : Bool) : oNotB (.int a) (.bl b) = some (.fz (.bl true)) := byDef rfl
theorem oAll_ap (ds : List D) : oAll [.lst ds] = allEnd (blsOf ds) := byDef rfl
theorem oAny_ap (ds : List D) : oAny [.lst ds] = anyEnd (blsOf ds) := byDef rfl
theorem oSum_ap (ds : List D) : oSum [.lst ds] = sumEnd (intsOf ds) := byDef rfl
theorem blsOf_map {α : Type} (f : α → Bool) : ∀ ds : List α, blsOf (ds.map fun d => D.bl (f d)) = some (ds.map f)
  | [] => rfl
  | d :: ds => by show (blsOf (ds.map fun d => D.bl (f d))).map _ = _; rw [blsOf_map f ds]; rfl
theorem intsOf_map {α : Type} (f : α → Int) : ∀ ds : List α, intsOf (ds.map fun d => D.int (f d)) = some (ds.map f)
  | [] => rfl
  | d :: ds => by show (intsOf (ds.map fun d => D.int (f d))).map _ = _; rw [intsOf_map f ds]; rfl
theorem allEnd_ap (bs : List Bool) : allEnd (some bs) = some (.fz (.bl (bs.all id))) := byDef rfl
theorem anyEnd_ap (bs : List Bool) : anyEnd (some bs) = some (.fz (.bl (bs.any id))) := byDef rfl
theorem sumEnd_ap (bs : List Int) : sumEnd (some bs) = some (.fz (.int bs.sum)) := byDef rfl
theorem oMax_ap (i j : Int) : oMax [.int i, .int j] = some (.fz (.int (if j > i then j else i))) := byDef rfl
theorem oMin_ap (i j : Int) : oMin [.int i, .int j] = some (.fz (.int (if j < i then j else i))) := byDef rfl
theorem vChain_ap (o o' : D → D → Option Val) (f g h : VE) (st : Sts) : vChain o o' f g h st = (f st).bind (kCh1 o o' g h) := byDef rfl
theorem kCh1_ap (o o' : D → D → Option Val) (g h : VE) (r : Val) (st : Sts) : kCh1 o o' g h (r, st) = (g st).bind (kCh2 o o' h r) := byDef rfl
theorem kCh2_ap (o o' : D → D → Option Val) (h : VE) (x r : Val) (st : Sts) : kCh2 o o' h x (r, st) = (give (o x.d r.d) st).bind (kCh o' h r) := byDef rfl
def kChE (o' : D → D → Option Val) (y : Val) (w : Val × Sts) : R (Val × Sts) := give (o' y.d w.1.d) w.2
theorem kChE_ap (o' : D → D → Option Val) (y w : Val) (st : Sts) : kChE o' y (w, st) = give (o' y.d w.d) st := byDef rfl
theorem kCh_ap (o' : D → D → Option Val) (h : VE) (y : Val) (b : Bool) (st : Sts) : kCh o' h y (.fz (.bl b), st) = if b = true then (h st).bind (kChE o' y) else .ok (.fz (.bl false), st) := by cases b <;> rfl
theorem vSetIx_ap (i : Nat) (f g : VE) (st : Sts) : vSetIx i f g st = (f st).bind (kSetIx i g) := byDef rfl
def setIx0 (k : Option Sl) (x : R Flow) : R Flow := match k with
  | some (.own (.lst _)) => x
  | _ => .no
theorem kSetIx_ap (i : Nat) (g : VE) (r : Val) (st : Sts) : kSetIx i g (r, st) = setIx0 (st[i]?) ((g st).bind (kSetIx2 i r)) := byDef rfl
theorem setIx0_ap (ds : List D) (x : R Flow) : setIx0 (some (.own (.lst ds))) x = x := byDef rfl
theorem kSetIx2_ap (i : Nat) (d : D) (r : Val) (st : Sts) : kSetIx2 i (.fz d) (r, st) = setIxEnd i d st (st[i]?) r := byDef rfl
def setIxFin (i : Nat) (d : D) (st : Sts) (ds : List D) (o : Option Nat) : R Flow := match o with
  | some j => .ok (.nx (st.set i (.own (.lst (ds.set j d)))))
  | none => .no
theorem setIxEnd_ap (i : Nat) (d : D) (st : Sts) (ds : List D) (n : Int) : setIxEnd i d st (some (.own (.lst ds))) (.fz (.int n)) = setIxFin i d st ds (L2.ixN ds.length n) := byDef rfl
theorem setIxFin_ap (i : Nat) (d : D) (st : Sts) (ds : List D) (j : Nat) : setIxFin i d st ds (some j) = .ok (.nx (st.set i (.own (.lst (ds.set j d))))) := byDef rfl
def kM1b (o : D → D → Option Val) (x : Val) (q : Val × Sts) : R (Val × Sts) := give (o x.d q.1.d) q.2
theorem vM1_ap (o : D → D → Option Val) (f g : VE) (st : Sts) : vM1 o f g st = (f st).bind (kM1 o g) := byDef rfl
theorem kM1_ap (o : D → D → Option Val) (g : VE) (z : List Nat) (st : Sts) : kM1 o g (.fz (.str z), st) = (g st).bind (kM1b o (.fz (.str z))) := byDef rfl
theorem kM1b_ap (o : D → D → Option Val) (x r : Val) (st : Sts) : kM1b o x (r, st) = give (o x.d r.d) st := byDef rfl
theorem oUpper_ap (z : List Nat) : oUpper (.str z) = if (decide (z.length ≤ 1000) && okTx (upperT z)) = true then some (.fz (.str (upperT z))) else none := byDef rfl
theorem oFind_ap (z y : List Nat) : oFind (.str z) (.str y) = some (.fz (.int (Txt.find (tx z) (tx y)))) := byDef rfl
/-! comprehensions, run -/
theorem vComp_ap (src : VI) (g : VG) (t : VT) (e : VE) (vs : List Nat) (st : Sts) : vComp src g t e vs st = (src st).bind (kComp (compStep g t e vs) vs) := byDef rfl
theorem kComp_ap (step : D → Sts → R (Option D × Sts)) (vs : List Nat) (ds : List D) (st : Sts) : kComp step vs (ds, st) = (compLoop step ds [] (wipeS st vs)).bind compFin := byDef rfl
theorem compFin_ap (ds : List D) (st : Sts) : compFin (ds, st) = .ok (.nw (.lst ds), st) := byDef rfl
theorem compStep_ap (g : VG) (t : VT) (e : VE) (vs : List Nat) (d : D) (st : Sts) : compStep g t e vs d st = (gGive (g d st)).bind (kStepG t e vs) := byDef rfl
theorem gGive_ap (st : Sts) : gGive (some st) = .ok st := byDef rfl
theorem kStepG_ap (t : VT) (e : VE) (vs : List Nat) (st : Sts) : kStepG t e vs st = (t st).bind (kStepT e vs) := byDef rfl
theorem kStepT_ap (e : VE) (vs : List Nat) (b : Bool) (st : Sts) : kStepT e vs (b, st) = if b = true then (e st).bind (kStepE vs) else .ok (none, wipeS st vs) := byDef rfl
theorem kStepE_ap (vs : List Nat) (d : D) (st : Sts) : kStepE vs (.fz d, st) = .ok (some d, wipeS st vs) := byDef rfl
theorem vYes_ap (st : Sts) : vYes st = .ok (true, st) := byDef rfl
theorem wipeS_nil (st : Sts) : wipeS st [] = st := byDef rfl
theorem wipeS_cons (st : Sts) (v : Nat) (vs : List Nat) : wipeS st (v :: vs) = (wipeS st vs).set v .no := byDef rfl
theorem compLoop_go {step : D → Sts → R (Option D × Sts)} (h : D → Option D) (st : Sts) : ∀ (ds acc : List D), (∀ d ∈ ds, step d st = .ok (h d, st)) → acc.length + ds.length ≤ 16777216 → compLoop step ds acc st = .ok (acc ++ ds.filterMap h, st)
  | [], acc, _, _ => by rw [List.filterMap_nil, List.append_nil]; rfl
  | d :: ds, acc, hs, hl => by
    have h1 := hs d List.mem_cons_self
    have hl' : acc.length + (ds.length + 1) ≤ 16777216 := hl
    unfold compLoop
    rw [h1]
    cases e : h d with
    | none =>
      show compLoop step ds acc st = _
      rw [compLoop_go h st ds acc (fun d hd => hs d (List.mem_cons_of_mem _ hd)) (by omega), List.filterMap_cons, e]
    | some y =>
      show (if acc.length < 16777216 then compLoop step ds (acc ++ [y]) st else .no) = _
      rw [if_pos (by omega), compLoop_go h st ds (acc ++ [y]) (fun d hd => hs d (List.mem_cons_of_mem _ hd)) (by rw [List.length_append, List.length_singleton]; omega), List.filterMap_cons, e, List.append_assoc]
      rfl
theorem comp_map {step : D → Sts → R (Option D × Sts)} (f : D → D) (st : Sts) (ds : List D) (hs : ∀ d ∈ ds, step d st = .ok (some (f d), st)) (hl : ds.length ≤ 16777216) : compLoop step ds [] st = .ok (ds.map f, st) := by
  rw [compLoop_go (fun d => some (f d)) st ds [] hs (by simpa using hl), List.nil_append]
  congr 2
  clear hs hl
  induction ds with
  | nil => rfl
  | cons d ds ih =>
    show f d :: List.filterMap (fun d => some (f d)) ds = _
    rw [ih]
    rfl
/-! sources, run -/
def kSrcE (p : Val × Sts) : R (List D × Sts) := match itemsOf p.1.d with
  | some ds => match p.1 with
    | .pk _ _ => .no
    | _ => .ok (ds, p.2)
  | none => .no
theorem sE_ap (f : VE) (st : Sts) : sE f st = (f st).bind kSrcE := byDef rfl
def srcEnd (o : Option (List D)) (st : Sts) : R (List D × Sts) := match o with
  | some ds => .ok (ds, st)
  | none => .no
theorem kSrcE_fz (d : D) (st : Sts) : kSrcE (.fz d, st) = srcEnd (itemsOf d) st := by
  show (match itemsOf d with | some ds => R.ok (ds, st) | none => R.no) = srcEnd (itemsOf d) st
  rfl
theorem kSrcE_nw (m : M) (st : Sts) : kSrcE (.nw m, st) = srcEnd (itemsOf m.d) st := by
  show (match itemsOf m.d with | some ds => R.ok (ds, st) | none => R.no) = srcEnd (itemsOf m.d) st
  rfl
theorem srcEnd_ap (ds : List D) (st : Sts) : srcEnd (some ds) st = .ok (ds, st) := byDef rfl
def kSrcR1 (p : List Val × Sts) : R (List D × Sts) := r1End (p.1.map Val.d) p.2
theorem sR1_ap (f : VA) (st : Sts) : sR1 f st = (f st).bind kSrcR1 := byDef rfl
theorem kSrcR1_ap (rs : List Val) (st : Sts) : kSrcR1 (rs, st) = r1End (rs.map Val.d) st := byDef rfl
theorem r1End_ap (n : Int) (st : Sts) : r1End [.int n] st = if bigI n = true then .ok (rangeD 0 n.toNat, st) else .no := byDef rfl
def kSrcR2 (p : List Val × Sts) : R (List D × Sts) := r2End (p.1.map Val.d) p.2
theorem sR2_ap (f : VA) (st : Sts) : sR2 f st = (f st).bind kSrcR2 := byDef rfl
theorem kSrcR2_ap (rs : List Val) (st : Sts) : kSrcR2 (rs, st) = r2End (rs.map Val.d) st := byDef rfl
theorem r2End_ap (a b : Int) (st : Sts) : r2End [.int a, .int b] st = if (bigI a && bigI b) = true then .ok (rangeD a (b - a).toNat, st) else .no := byDef rfl
def kZip (p : List Val × Sts) : R (List D × Sts) := zipEnd p.1 p.2
theorem sZip_ap (f : VA) (st : Sts) : sZip f st = (f st).bind kZip := byDef rfl
theorem kZip_ap (rs : List Val) (st : Sts) : kZip (rs, st) = zipEnd rs st := byDef rfl
theorem zipEnd_lst (a b : List D) (st : Sts) : zipEnd [.fz (.lst a), .fz (.lst b)] st = .ok ((a.zip b).map fun q => .tup [q.1, q.2], st) := byDef rfl
theorem zipEnd_tup (a b : List D) (st : Sts) : zipEnd [.fz (.tup a), .fz (.tup b)] st = .ok ((a.zip b).map fun q => .tup [q.1, q.2], st) := byDef rfl
def kEnum (p : List Val × Sts) : R (List D × Sts) := enumEnd p.1 p.2
theorem sEnum_ap (f : VA) (st : Sts) : sEnum f st = (f st).bind kEnum := byDef rfl
theorem kEnum_ap (rs : List Val) (st : Sts) : kEnum (rs, st) = enumEnd rs st := byDef rfl
theorem enumEnd_ap (a : List D) (st : Sts) : enumEnd [.fz (.lst a)] st = .ok (enumD 0 a, st) := byDef rfl
def kForI (g : VG) (body : VS) (p : List D × Sts) : R Flow := loop g body p.1 p.2
theorem vForI_ap (src : VI) (g : VG) (body : VS) (st : Sts) : vForI src g body st = (src st).bind (kForI g body) := byDef rfl
theorem kForI_ap (g : VG) (body : VS) (ds : List D) (st : Sts) : kForI g body (ds, st) = loop g body ds st := byDef rfl
end Vl
namespace Vl
open PySem PySem.Spec PyProof.Rows L2
/-! ## sep.join(list or tuple of texts) -/
def strsOf : List D → Option (List (List Nat))
  | [] => some []
  | .str b :: ds => (strsOf ds).map (b :: ·)
  | _ :: _ => none
def joinT (a : List Nat) : List (List Nat) → List Nat
  | [] => []
  | [x] => x
  | x :: y :: r => x ++ a ++ joinT a (y :: r)
def jsize (a : List Nat) (ys : List (List Nat)) : Nat := (ys.map List.length).sum + ys.length * a.length
theorem joinT_len (a : List Nat) : ∀ ys : List (List Nat), (joinT a ys).length ≤ jsize a ys
  | [] => Nat.zero_le _
  | [x] => by unfold jsize joinT; simp
  | x :: y :: r => by
    have h := joinT_len a (y :: r)
    have e : jsize a (x :: y :: r) = x.length + a.length + jsize a (y :: r) := by
      unfold jsize
      simp only [List.map_cons, List.sum_cons, List.length_cons, Nat.add_mul]
      omega
    rw [e]
    show (x ++ a ++ joinT a (y :: r)).length ≤ _
    rw [List.length_append, List.length_append]
    omega
theorem joinT_mem {a : List Nat} {c : Nat} : ∀ {ys : List (List Nat)}, c ∈ joinT a ys → c ∈ a ∨ ∃ y ∈ ys, c ∈ y
  | [], h => by cases h
  | [x], h => .inr ⟨x, List.mem_singleton.mpr rfl, h⟩
  | x :: y :: r, h => by
    have h : c ∈ x ++ a ++ joinT a (y :: r) := h
    rcases List.mem_append.mp h with h | h
    · rcases List.mem_append.mp h with h | h
      · exact .inr ⟨x, List.mem_cons_self, h⟩
      · exact .inl h
    · rcases joinT_mem h with h | ⟨z, hz, h⟩
      · exact .inl h
      · exact .inr ⟨z, List.mem_cons_of_mem _ hz, h⟩
theorem join_tx (a : List Nat) : ∀ ys : List (List Nat), Str.join (tx a) (ys.map tx) = tx (joinT a ys)
  | [] => rfl
  | [x] => rfl
  | x :: y :: r => by
    show tx x ++ tx a ++ Str.join (tx a) ((y :: r).map tx) = _
    rw [join_tx a (y :: r), tx_append, tx_append]
    rfl
theorem reps_strs {K : PySem.W.Frag} {F : Hp} : ∀ {ds : List D} {bs : List (List Nat)} {vs : List V}, strsOf ds = some bs → Reps K F ds vs → vs = (bs.map tx).map V.str ∧ ∀ b ∈ bs, TxOk b
  | [], _, _, e, h => by cases e; exact ⟨h, by simp⟩
  | .str b :: ds, bs, _, e, ⟨v, us, h1, h2, h3⟩ => by
    obtain ⟨cs, e1, e2⟩ := Option.map_eq_some_iff.mp e
    subst e2 h1
    obtain ⟨g1, g2⟩ := reps_strs e1 h3
    obtain ⟨g3, g4⟩ := (show v = .str (tx b) ∧ TxOk b from h2)
    refine ⟨by rw [g1, g3]; rfl, fun c hc => ?_⟩
    rcases List.mem_cons.mp hc with h | h
    · rw [h]; exact g4
    · exact g2 c h
def joinEnd (a : List Nat) (o : Option (List (List Nat))) : Option Val := match o with
  | some ys => if jsize a ys ≤ 16777216 then some (.fz (.str (joinT a ys))) else none
  | none => none
def oJoin : D → D → Option Val
  | .str a, .lst ds => joinEnd a (strsOf ds)
  | .str a, .tup ds => joinEnd a (strsOf ds)
  | _, _ => none
section
variable {X : Cx} {W : Wx} {pos : Pos}
theorem mtJoin : MtR X "str.join" (rM1 X.K oJoin) := by
  intro pins s σ H x xs v us Q I rx rs ⟨y, e0, E, F, st, σ', dx, dy, res, S, hx, hy, e, p⟩
  have key : ∀ (a : List Nat) (ds : List D) (b : Addr) (vs : List V), TxOk a → x = .str (tx a) → y = .ref b → (SqL X.K H b vs ∨ SqT X.K H b vs) → Reps X.K F ds vs → joinEnd a (strsOf ds) = some res →
      wpAny (model X.prog X.w) X.A (call (.builtin "str.join") (v :: us)) (EP X pins σ Q) X.xe s := fun a ds b vs oka hx' hy' sq rp e => by
    unfold joinEnd at e
    cases hs : strsOf ds with
    | none => rw [hs] at e; cases e
    | some ys =>
      rw [hs] at e
      dsimp only at e
      by_cases hl : jsize a ys ≤ 16777216
      · rw [if_pos hl] at e
        cases e
        obtain ⟨g1, g2⟩ := reps_strs hs rp
        refine mt_join pins s σ H x xs v us Q I rx rs ⟨tx a, b, ys.map tx, hx', by rw [e0, hy'], by rw [g1] at sq; exact sq, ?_, ?_⟩
        · rw [List.map_map, List.length_map, tx_length]
          have : (ys.map ((fun z : Str => z.length) ∘ tx)) = ys.map List.length := List.map_congr_left fun z _ => tx_length z
          rw [this]; exact hl
        · have ej : Txt.join (tx a) (ys.map tx) = tx (joinT a ys) := by
            rw [← join_tx]
            exact StrLaws.glued_eq_join _ _
          rw [ej]
          refine p.fz S ⟨rfl, ?_, fun c hc => ?_⟩
          · rw [sizeLine_eq]; exact Nat.le_trans (joinT_len a ys) hl
          · rcases joinT_mem hc with h | ⟨z, hz, h⟩
            · exact oka.2 c h
            · exact (g2 z hz).2 c h
      · rw [if_neg hl] at e; cases e
  match dx, dy, e with
  | .str a, .lst ds, e =>
    obtain ⟨h1, ok⟩ := hx.str
    obtain ⟨b, vs, h2, h3, h4⟩ := hy.lst S.sub
    exact key a ds b vs ok h1 h2 (.inl h3) h4 e
  | .str a, .tup ds, e =>
    obtain ⟨h1, ok⟩ := hx.str
    obtain ⟨b, vs, h2, h3, h4⟩ := hy.tup S.sub
    exact key a ds b vs ok h1 h2 (.inr h3) h4 e
end
theorem oJoin_lst (a : List Nat) (ds : List D) : oJoin (.str a) (.lst ds) = joinEnd a (strsOf ds) := byDef rfl
theorem oJoin_tup (a : List Nat) (ds : List D) : oJoin (.str a) (.tup ds) = joinEnd a (strsOf ds) := byDef rfl
theorem joinEnd_ap (a : List Nat) (ys : List (List Nat)) : joinEnd a (some ys) = if jsize a ys ≤ 16777216 then some (.fz (.str (joinT a ys))) else none := byDef rfl
theorem strsOf_map {α : Type} (f : α → List Nat) : ∀ ds : List α, strsOf (ds.map fun d => D.str (f d)) = some (ds.map f)
  | [] => rfl
  | d :: ds => by show (strsOf (ds.map fun d => D.str (f d))).map _ = _; rw [strsOf_map f ds]; rfl
/-- ''.join of one-sign texts -/
theorem joinT_ones : ∀ cs : List Nat, joinT [] (cs.map fun c => [c]) = cs
  | [] => rfl
  | [c] => rfl
  | c :: d :: r => by
    show [c] ++ [] ++ joinT [] ((d :: r).map fun c => [c]) = _
    rw [joinT_ones (d :: r)]; rfl
theorem jsize_ones (cs : List Nat) : jsize [] (cs.map fun c => [c]) = cs.length := by
  unfold jsize
  induction cs with
  | nil => rfl
  | cons c cs ih => simp at ih ⊢; omega
end Vl
namespace Vl
open PySem PySem.Spec PyProof.Rows L2
/-! ## dicts whose keys are whole numbers and texts -/
def keyD : D → Option Key
  | .int i => some (.inl i)
  | .str z => some (.inr (tx z))
  | _ => none
theorem tx_inj {a b : List Nat} (h : tx a = tx b) : a = b := by
  have : a.toArray = b.toArray := congrArg Str.cps h
  simpa using this
theorem keyD_inj {a b : D} {k : Key} (h1 : keyD a = some k) (h2 : keyD b = some k) : a = b := by
  cases a with
  | int i =>
    have h1 := Option.some.inj h1
    subst h1
    cases b with
    | int j => have := Sum.inl.inj (Option.some.inj h2); rw [this]
    | str z => cases h2
    | _ => cases h2
  | str i =>
    have h1 := Option.some.inj h1
    subst h1
    cases b with
    | int j => cases h2
    | str z => have := Sum.inr.inj (Option.some.inj h2); rw [tx_inj this]
    | _ => cases h2
  | _ => cases h1
theorem rep_key {K : PySem.W.Frag} {F : Hp} {d : D} {κ : Key} (h : Rep K F d (kV κ)) : keyD d = some κ := by
  cases κ with
  | inl i =>
    cases d with
    | int j => cases h; rfl
    | non => cases h
    | bl b => cases h
    | str z => cases h.1
    | tup ds => obtain ⟨a, vs, e, _⟩ := h; cases e
    | lst ds => obtain ⟨a, vs, e, _⟩ := h; cases e
    | dct ks ds => obtain ⟨a, vs, e, _⟩ := h; cases e
    | dcu ks ds => obtain ⟨a, vs, e, _⟩ := h; cases e
    | ins n ks ds => obtain ⟨a, C, dx, vs, e, _⟩ := h; cases e
  | inr s =>
    cases d with
    | int j => cases h
    | non => cases h
    | bl b => cases h
    | str z =>
      have := V.str.inj h.1
      rw [this]; rfl
    | tup ds => obtain ⟨a, vs, e, _⟩ := h; cases e
    | lst ds => obtain ⟨a, vs, e, _⟩ := h; cases e
    | dct ks ds => obtain ⟨a, vs, e, _⟩ := h; cases e
    | dcu ks ds => obtain ⟨a, vs, e, _⟩ := h; cases e
    | ins n ks ds => obtain ⟨a, C, dx, vs, e, _⟩ := h; cases e
theorem key_rep {K : PySem.W.Frag} {F H : Hp} {d : D} {v : V} {κ : Key} (h : ORel K F H d v) (e : keyD d = some κ) : v = kV κ ∧ Rep K F d v := by
  cases d with
  | int j =>
    cases e
    exact ⟨h.int, h.int⟩
  | str z =>
    cases e
    exact ⟨h.str.1, h.str⟩
  | _ => cases e
def getK : List D → List D → D → Option D
  | k' :: ks, v :: vs, k => if k' = k then some v else getK ks vs k
  | _, _, _ => none
def setK : List D → List D → D → D → List D
  | k' :: ks, w :: ws, k, v => (if k' = k then v else w) :: setK ks ws k v
  | _, ws, _, _ => ws
theorem reps_get {K : PySem.W.Frag} {F : Hp} {k : D} {κ : Key} (hk : keyD k = some κ) : ∀ {kvs : List (Key × V)} {ks vs : List D}, Reps K F ks (kvs.map fun p => kV p.1) → Reps K F vs (kvs.map (·.2)) →
    (∀ d, getK ks vs k = some d → ∃ v, valV kvs κ = some v ∧ Rep K F d v) ∧ (getK ks vs k = none → valV kvs κ = none)
  | [], ks, vs, h1, h2 => by
    cases ks with
    | cons a as => obtain ⟨v, r, e, _⟩ := h1; cases e
    | nil => exact ⟨fun d e => (nomatch e), fun _ => rfl⟩
  | p :: kvs, ks, vs, h1, h2 => by
    cases ks with
    | nil => cases h1
    | cons a as =>
      cases vs with
      | nil => cases h2
      | cons b bs =>
        obtain ⟨v, r, e, r1, r2⟩ := h1
        cases e
        obtain ⟨w, r', e', r3, r4⟩ := h2
        cases e'
        have ha := rep_key r1
        obtain ⟨q1, q2⟩ := reps_get hk r2 r4
        by_cases h : a = k
        · have hp : p.1 = κ := by
            rw [h, hk] at ha
            exact (Option.some.inj ha).symm
          unfold getK
          rw [if_pos h, valV_pos hp]
          exact ⟨fun d e => ⟨_, rfl, Option.some.inj e ▸ r3⟩, fun e => (nomatch e)⟩
        · have hp : ¬ p.1 = κ := fun z => h (keyD_inj (by rw [ha, z]) hk)
          unfold getK
          rw [if_neg h, valV_neg hp]
          exact ⟨q1, q2⟩
theorem reps_set {K : PySem.W.Frag} {F : Hp} {k d : D} {κ : Key} {y : V} (hk : keyD k = some κ) (hd : Rep K F d y) : ∀ {kvs : List (Key × V)} {ks vs : List D}, Reps K F ks (kvs.map fun p => kV p.1) → Reps K F vs (kvs.map (·.2)) →
    Reps K F (setK ks vs k d) ((kvs.map fun kv => if kv.1 = κ then (kv.1, y) else kv).map (·.2)) ∧ ((kvs.map fun kv => if kv.1 = κ then (kv.1, y) else kv).map fun p => kV p.1) = kvs.map fun p => kV p.1
  | [], ks, vs, h1, h2 => by
    cases ks with
    | cons a as => obtain ⟨v, r, e, _⟩ := h1; cases e
    | nil => exact ⟨by unfold setK; exact h2, rfl⟩
  | p :: kvs, ks, vs, h1, h2 => by
    cases ks with
    | nil => cases h1
    | cons a as =>
      cases vs with
      | nil => cases h2
      | cons b bs =>
        obtain ⟨v, r, e, r1, r2⟩ := h1
        cases e
        obtain ⟨w, r', e', r3, r4⟩ := h2
        cases e'
        have ha := rep_key r1
        obtain ⟨q1, q2⟩ := reps_set hk hd r2 r4
        unfold setK
        by_cases h : a = k
        · have hp : p.1 = κ := by
            rw [h, hk] at ha
            exact (Option.some.inj ha).symm
          rw [if_pos h, List.map_cons, if_pos hp]
          exact ⟨⟨y, _, rfl, hd, q1⟩, by rw [List.map_cons, q2]; rfl⟩
        · have hp : ¬ p.1 = κ := fun z => h (keyD_inj (by rw [ha, z]) hk)
          rw [if_neg h, List.map_cons, if_neg hp]
          exact ⟨⟨p.2, _, rfl, r3, q1⟩, by rw [List.map_cons, q2]; rfl⟩
def putKs (ks vs : List D) (k v : D) : M := match getK ks vs k with
  | some _ => .dct ks (setK ks vs k v)
  | none => .dct (ks ++ [k]) (vs ++ [v])
theorem mat_put {K : PySem.W.Frag} {F : Hp} {k d : D} {κ : Key} {y : V} (hk : keyD k = some κ) (hk2 : Rep K F k (kV κ)) (hd : Rep K F d y) {kvs : List (Key × V)} {ks vs : List D} (h1 : Reps K F ks (kvs.map fun p => kV p.1)) (h2 : Reps K F vs (kvs.map (·.2))) :
    MAt K F (putKs ks vs k d) (.dK (putK kvs κ y)) := by
  obtain ⟨g1, g2⟩ := reps_get hk h1 h2
  unfold putKs
  cases e : getK ks vs k with
  | some w =>
    obtain ⟨v, ev, _⟩ := g1 w e
    obtain ⟨q1, q2⟩ := reps_set hk hd h1 h2
    have ep : putK kvs κ y = kvs.map fun kv => if kv.1 = κ then (kv.1, y) else kv := by
      unfold putK
      rw [valV_any, ev]; rfl
    exact ⟨_, rfl, by rw [ep, q2]; exact h1, by rw [ep]; exact q1⟩
  | none =>
    have ev := g2 e
    refine ⟨_, rfl, ?_, ?_⟩
    · rw [putK_new y ev, List.map_append]
      exact h1.append (Reps.one hk2)
    · rw [putK_new y ev, List.map_append]
      exact h2.append (Reps.one hd)
theorem ORel.dct {K : PySem.W.Frag} {F H : Hp} {ks vs : List D} {v : V} (s : Same F H) (h : ORel K F H (.dct ks vs) v) : ∃ a kvs, v = .ref a ∧ Rd H a (.dK kvs) ∧ Reps K F ks (kvs.map fun p => kV p.1) ∧ Reps K F vs (kvs.map (·.2)) := by
  rcases h with ⟨a, kvs, e, h1, h2, h3⟩ | ⟨m, a, o, e, e2, h1, h2⟩
  · exact ⟨a, kvs, e, Same.rd s h1, h2, h3⟩
  · cases m with
    | lst ds => cases e
    | dcu ks' vs' => cases e
    | dct ks' vs' =>
      cases e
      obtain ⟨kvs, rfl, h3, h4⟩ := h2
      exact ⟨a, kvs, e2, .inl h1, h3, h4⟩
section
variable {X : Cx} {W : Wx} {pos : Pos}
/-! ### d[k] -/
def oGet (ks vs : List D) (k : D) : Option Val := match keyD k with
  | some _ => (getK ks vs k).map .fz
  | none => none
def oIxA : D → D → Option Val
  | .dct ks vs, k => oGet ks vs k
  | d, k => oIx d k
theorem opIxA (hu : X.A.units + 1 < cLine) : IxR X (rD X.K oIxA) := by
  intro value slice pins s σ H x y v u Q I rx ry ⟨E, F, st, σ', dx, dy, res, S, hx, hy, e, p⟩ hs
  cases dx with
  | dct ks vs =>
    obtain ⟨a, kvs, rfl, h1, h2, h3⟩ := hx.dct S.sub
    have e : oGet ks vs dy = some res := e
    unfold oGet at e
    cases ek : keyD dy with
    | none => rw [ek] at e; cases e
    | some κ =>
      rw [ek] at e
      obtain ⟨d, eg, er⟩ := Option.map_eq_some_iff.mp e
      subst er
      obtain ⟨ey, ry2⟩ := key_rep hy ek
      obtain ⟨w, ew, rw'⟩ := (reps_get ek h2 h3).1 d eg
      obtain rfl : v = Value.ref a := rx
      subst ey
      have g : DGet H a (kV κ) (some w) := by rw [← ew]; exact (show DGet H a (kV κ) _ from .inl ⟨kvs, κ, h1, rfl, rfl⟩)
      have hT : s.TypeIs (.ref a) "dict" := dict_typeIs I g
      unfold subscriptTail
      refine wpAny_bind ?_
      rw [getitemInPython_of_ne hT.not_modules]
      refine wpAny_bind (wpAny_specialOf hT PySem.F.slot_dict_getitem.lookup ?_)
      have fin : wpAny (model X.prog X.w) X.A (subscripted slice false (.ref a) u) (fun r s₃ => wpAny (model X.prog X.w) X.A (letTemporaryGo value (.ref a) r >>= fun _ => pure r) (EP X pins σ Q) X.xe s₃) X.xe s := by
        rw [hs]
        exact wpAny_operating (thn (d_getItem hu I g ry fun w' s3 I3 rw2 => ⟨w, H, I3, rw2, p.fz S rw'⟩) fun r s3 q => wpAny_bind (wpAny_letTemporaryGo (wpAny_pure q)))
      first
        | exact wpAny_pure (wpAny_bind fin)
        | exact wpAny_bind (wpAny_pure (wpAny_bind fin))
        | exact wpAny_bind fin
  | _ => exact opIx value slice pins s σ H x y v u Q I rx ry ⟨E, F, st, σ', _, dy, res, S, hx, hy, e, p⟩ hs
/-! ### k in d -/
def oHas (ks vs : List D) (k : D) : Option Bool := match keyD k with
  | some _ => some (getK ks vs k).isSome
  | none => none
def oInA : D → D → Option Val
  | k, .dct ks vs => (oHas ks vs k).map fun b => .fz (.bl b)
  | k, d => oIn k d
def oNotInA : D → D → Option Val
  | k, .dct ks vs => (oHas ks vs k).map fun b => .fz (.bl (!b))
  | k, d => oNotIn k d
theorem has_val {K : PySem.W.Frag} {F : Hp} {k : D} {κ : Key} (hk : keyD k = some κ) {kvs : List (Key × V)} {ks vs : List D} (h1 : Reps K F ks (kvs.map fun p => kV p.1)) (h2 : Reps K F vs (kvs.map (·.2))) : (valV kvs κ).isSome = (getK ks vs k).isSome := by
  obtain ⟨g1, g2⟩ := reps_get hk h1 h2
  cases e : getK ks vs k with
  | none => rw [g2 e]; rfl
  | some d =>
    obtain ⟨v, ev, _⟩ := g1 d e
    rw [ev]; rfl
theorem opInA (hu : X.A.units + 65 < cLine) : OpR X (compareOp .In) (rD X.K oInA) := by
  intro pins s σ H x y v u Q I rx ry ⟨E, F, st, σ', dx, dy, res, S, hx, hy, e, p⟩
  cases dy with
  | dct ks vs =>
    obtain ⟨a, kvs, rfl, h1, h2, h3⟩ := hy.dct S.sub
    obtain ⟨b, eb, er⟩ := Option.map_eq_some_iff.mp (show (oHas ks vs dx).map (fun b => Val.fz (.bl b)) = some res from by cases dx <;> exact e)
    subst er
    unfold oHas at eb
    cases ek : keyD dx with
    | none => rw [ek] at eb; cases eb
    | some κ =>
      rw [ek] at eb
      cases eb
      obtain ⟨ey, _⟩ := key_rep hx ek
      subst ey
      obtain rfl : u = Value.ref a := ry
      exact d_in (by omega) I ((show DGet H a (kV κ) _ from .inl ⟨kvs, κ, h1, rfl, rfl⟩)) rx fun s3 I3 => ⟨.bl _, H, I3, rfl, p.fz S (by rw [has_val ek h2 h3]; rfl)⟩
  | _ => exact opIn hu pins s σ H x y v u Q I rx ry ⟨E, F, st, σ', dx, _, res, S, hx, hy, by cases dx <;> exact e, p⟩
theorem opNotInA (hu : X.A.units + 65 < cLine) : OpR X (compareOp .NotIn) (rD X.K oNotInA) := by
  intro pins s σ H x y v u Q I rx ry ⟨E, F, st, σ', dx, dy, res, S, hx, hy, e, p⟩
  cases dy with
  | dct ks vs =>
    obtain ⟨a, kvs, rfl, h1, h2, h3⟩ := hy.dct S.sub
    obtain ⟨b, eb, er⟩ := Option.map_eq_some_iff.mp (show (oHas ks vs dx).map (fun b => Val.fz (.bl (!b))) = some res from by cases dx <;> exact e)
    subst er
    unfold oHas at eb
    cases ek : keyD dx with
    | none => rw [ek] at eb; cases eb
    | some κ =>
      rw [ek] at eb
      cases eb
      obtain ⟨ey, _⟩ := key_rep hx ek
      subst ey
      obtain rfl : u = Value.ref a := ry
      exact d_notIn (by omega) I ((show DGet H a (kV κ) _ from .inl ⟨kvs, κ, h1, rfl, rfl⟩)) rx fun s3 I3 => ⟨.bl _, H, I3, rfl, p.fz S (by rw [has_val ek h2 h3]; rfl)⟩
  | _ => exact opNotIn hu pins s σ H x y v u Q I rx ry ⟨E, F, st, σ', dx, _, res, S, hx, hy, by cases dx <;> exact e, p⟩
/-! ### {} -/
def vNewD : VE := fun st => .ok (.nw (.dct [] []), st)
theorem de_newD : DE X W (.Dict [] [] pos) vNewD := PE.imp pe_dnewK fun σ H Q ⟨E, F, st, S, q⟩ p hp => by
  obtain ⟨S2, vr⟩ := S.newOwn (m := .dct [] []) (o := .dK []) hp ⟨[], rfl, rfl, rfl⟩
  exact q _ F _ (Same.refl _) (same_new hp) S2 vr
/-! ### dict(d) -/
def oDict : List D → Option Val
  | [.dct ks vs] => some (.nw (.dct ks vs))
  | _ => none
theorem callDict : CallR X (.type "dict") (rDN X.K oDict) := by
  intro pins s σ H xs us Q I r ⟨E, F, st, σ', ds, res, S, hx, e, p⟩
  match ds, e with
  | [.dct ks vs], e =>
    obtain ⟨v, rfl, h⟩ := hx.one
    obtain ⟨a, kvs, rfl, h1, h2, h3⟩ := h.dct S.sub
    cases e
    refine call_dictD pins s σ H _ us Q I r ⟨a, kvs, rfl, h1, fun q hq => ?_⟩
    obtain ⟨S2, vr⟩ := S.newOwn (m := .dct ks vs) (o := .dK kvs) hq ⟨kvs, rfl, h2, h3⟩
    exact p _ F _ (Same.refl _) (same_new hq) S2 vr
/-! ### d[k] = v -/
def putEnd (i : Nat) (d : D) (st : Sts) (s : Option Sl) (k : D) : R Flow := match s, keyD k with
  | some (.own (.dct ks vs)), some _ => if ks.length < 16777216 then .ok (.nx (st.set i (.own (putKs ks vs k d)))) else .no
  | _, _ => .no
def kPut2 (i : Nat) (x : Val) (q : Val × Sts) : R Flow := match x with
  | .fz d => putEnd i d q.2 (q.2[i]?) q.1.d
  | _ => .no
def kPut (i : Nat) (g : VE) (p : Val × Sts) : R Flow := match p.2[i]? with
  | some (.own (.dct _ _)) => (g p.2).bind (kPut2 i p.1)
  | _ => .no
def vPut (i : Nat) (f g : VE) : VS := fun st => (f st).bind (kPut i g)
theorem put_inv {K : PySem.W.Frag} {W : Wx} {E : Ent} {F : Hp} {D : Ends} {i : Nat} {d : Vl.D} {st : Sts} {s : Option Sl} {k : Vl.D} (q : EndS K W E F (putEnd i d st s k) D) :
    ∃ ks vs κ, s = some (.own (.dct ks vs)) ∧ keyD k = some κ ∧ ks.length < 16777216 ∧ EndS K W E F (.ok (.nx (st.set i (.own (putKs ks vs k d))))) D := by
  unfold putEnd at q
  split at q
  · rename_i ks vs κ hk
    by_cases hl : ks.length < 16777216
    · rw [if_pos hl] at q
      exact ⟨ks, vs, κ, rfl, hk, hl, q⟩
    · rw [if_neg hl] at q; exact q.elim
  · exact q.elim
theorem put_inv1 {K : PySem.W.Frag} {W : Wx} {E : Ent} {F : Hp} {D : Ends} {i : Nat} {g : VE} {p : Val × Sts} (q : EndS K W E F (kPut i g p) D) : ∃ ks vs d, p.2[i]? = some (.own (.dct ks vs)) ∧ EndS K W E F ((g p.2).bind (kPut2 i p.1)) D ∧ ((∃ c s, g p.2 = .exc c s) ∨ p.1 = .fz d) := by
  unfold kPut at q
  split at q
  · rename_i ks vs h
    cases e : g p.2 with
    | no => rw [e] at q; exact q.elim
    | exc c s => exact ⟨ks, vs, .non, h, by rw [e] at q; exact q, .inl ⟨c, s, rfl⟩⟩
    | ok r =>
      rw [e, R.bind_ok] at q
      unfold kPut2 at q
      split at q
      · rename_i d hd
        exact ⟨ks, vs, d, h, by rw [R.bind_ok]; unfold kPut2; rw [hd]; exact q, .inr hd⟩
      · exact q.elim
  · exact q.elim
theorem ds_put {i : Nat} {o e ix : Expr} {f g : VE} {pos' : Pos} (hu : X.A.units + 1 < cLine) (ho : PE X o (tVar i)) (he : DE X W e f) (hi : DE X W ix g) (hs : swapsWith e (some (.Subscript o ix pos')) pos.line X.env = pure false := by rfl) :
    DS X W (.Assign [.Subscript o ix pos'] e pos) (vPut i f g) := PS.imp (ps_dput hu ho hi he hs) fun D σ H ⟨E, F, st, S, q⟩ => by
  refine ⟨E, F, st, S, ?_⟩
  unfold vPut at q
  cases e1 : f st with
  | no => rw [e1] at q; exact q
  | exc c st' => rw [e1] at q; exact fun F' H' a b S' => q σ F' H' a S'
  | ok p =>
    rw [e1, R.bind_ok] at q
    obtain ⟨x, st1⟩ := p
    intro v F1 H1 a1 b1 S1 vr
    obtain ⟨ks0, vs0, d, e2, q, hx⟩ := put_inv1 q
    obtain ⟨ad, ea, _⟩ := S1.own i _ e2
    refine ⟨_, ea, E, F1, st1, S1, ?_⟩
    dsimp only at q hx
    cases e3 : g st1 with
    | no => rw [e3] at q; exact q
    | exc c st' => rw [e3] at q; exact fun F' H' a b S' => q σ F' H' (a1.trans a) S'
    | ok p3 =>
      rw [e3, R.bind_ok] at q
      obtain ⟨y, st2⟩ := p3
      intro u F2 H2 a2 b2 S2 ur
      rcases hx with ⟨c, s, z⟩ | hx
      · rw [e3] at z; cases z
      subst hx
      obtain ⟨ks, vs, κ, e4, hk, hl, q5⟩ := put_inv (show EndS X.K W E F (putEnd i d st2 (st2[i]?) y.d) D from q)
      obtain ⟨ad2, ea2, ow⟩ := S2.own i _ e4
      rw [ea] at ea2
      cases ea2
      obtain ⟨ob, eo, kvs, rfl, r1, r2⟩ := ow.here
      obtain ⟨ey, rk⟩ := key_rep (VRel.o S2 ur) hk
      subst ey
      have hlen : kvs.length = ks.length := by
        have := r1.length
        rw [List.length_map] at this
        exact this
      refine ⟨ad, _, rfl, DPut.k eo (by rw [hlen, sizeLine_eq]; exact hl), ?_⟩
      have q5 : EndS X.K W E F (.ok (.nx (st2.set i (.own (putKs ks vs y.d d))))) D := q5
      exact q5 σ F2 _ (a1.trans a2) (S2.write e4 ea (mat_put hk rk (Rep.mono a2 _ _ vr) r1 r2))
/-! ### a, b = x, y -/
def kPar (i j : Nat) (p : List Val × Sts) : R Flow := match p.1 with
  | [.fz a, .fz b] => .ok (.nx ((p.2.set i (.val a)).set j (.val b)))
  | _ => .no
def vPar (i j : Nat) (f : VA) : VS := fun st => (f st).bind (kPar i j)
theorem ds_par {i j : Nat} {x y : Str} {a b : Expr} {f : VA} {px py pt pos : Pos} {kt k2 pt2} (hc : X.calm = true) (hN : X.N.Nodup) (hi : X.N[i]? = some x) (hj : X.N[j]? = some y) (hij : i ≠ j)
    (hx : X.env.scope.names.lookup x = some .local) (hy : X.env.scope.names.lookup y = some .local) (ha : DA X W [a, b] f)
    (hw : swappedStores [.Tuple [.Name x px, .Name y py] kt pt] (.Tuple [a, b] k2 pt2) X.env = pure (some [x, y]))
    (hs : swapsWithSole [.Tuple [.Name x px, .Name y py] kt pt] (.Tuple [a, b] k2 pt2) pos.line X.env = pure false := by rfl) :
    DS X W (.Assign [.Tuple [.Name x px, .Name y py] kt pt] (.Tuple [a, b] k2 pt2) pos) (vPar i j f) := PS.imp (ps_par hc hN hi hj hij hx hy ha hw hs) fun D σ H ⟨E, F, st, S, q⟩ => by
  refine ⟨E, F, st, S, ?_⟩
  unfold vPar at q
  cases e1 : f st with
  | no => rw [e1] at q; exact q
  | exc c st' => rw [e1] at q; exact fun F' H' a b S' => q σ F' H' a S'
  | ok p =>
    rw [e1, R.bind_ok] at q
    obtain ⟨rs, st1⟩ := p
    intro vs F1 H1 a1 b1 S1 ar
    unfold kPar at q
    split at q
    · rename_i d1 d2 hd
      have hd : rs = [.fz d1, .fz d2] := hd
      subst hd
      obtain ⟨v, us, rfl, r1, w, us2, rfl, r2, e3⟩ := ar
      rw [show us2 = [] from e3]
      exact ⟨v, w, rfl, q _ F1 H1 a1 ((S1.setVal r1).setVal r2)⟩
    · exact q.elim
/-! ### isinstance(x, (A, B)) -/
def vIsi2 (T U : Ty) (f : VE) : VE := fun st => (f st).bind fun p => .ok (.fz (.bl (isT T p.1.d || isT U p.1.d)), p.2)
theorem kit_isT2 {K : PySem.W.Frag} {t : Value} (T U : Ty) (d : D) (is : TyIs K d t) : PySem.W.kitAny K t [.type T.n, .type U.n] = some (isT T d || isT U d) := by
  have h1 := is T
  have h2 := is U
  unfold PySem.W.kitAny
  rw [h1]
  cases isT T d with
  | true => rfl
  | false =>
    show PySem.W.kitAny K t [.type U.n] = _
    unfold PySem.W.kitAny
    rw [h2]
    cases isT U d <;> rfl
def rIsT2 (K : PySem.W.Frag) (T U : Ty) : List V → Hp → VK → Prop := fun xs H Q => ∃ (E : Ent) (F : Hp) (st : Sts) (σ : L2.St) (d : D) (v : V) (tp : Addr), xs = [v, .ref tp] ∧ H tp = some (.tup [.ty T.n, .ty U.n]) ∧ Sim K E F H st σ ∧ ORel K F H d v ∧ Q (.bl (isT T d || isT U d)) H
theorem callIsT2 (T U : Ty) : CallR X (.builtin "isinstance") (rIsT2 X.K T U) := by
  intro pins s σ H xs us Q I r ⟨E, F, st, σ', d, v, tp, e, hT, S, h, q⟩
  obtain ⟨t, ty, is⟩ := h.ty S.sub
  exact call_isiT pins s σ H xs us Q I r ⟨v, tp, [.ty T.n, .ty U.n], t, [.type T.n, .type U.n], _, e, hT, .cons (.ty _) (.cons (.ty _) .nil), ty, kit_isT2 T U d is, q⟩
theorem de_isi2 {e : Expr} {f : VE} {x y : Str} {k : Nat} {p p2 p3 p4 pos : Pos} (T U : Ty) (hg : Gl X "isinstance") (hm : X.mg "isinstance" = none) (hg2 : Gl X x) (hm2 : X.mg x = none) (hv : bootBuiltins x = some (.type T.n)) (hg3 : Gl X y) (hm3 : X.mg y = none) (hv3 : bootBuiltins y = some (.type U.n)) (he : DE X W e f)
    (hn : x ≠ "__name__" := by decide) (hdb : (x == ("__debug__" : Str)) = false := by decide) (hn3 : y ≠ "__name__" := by decide) (hdb3 : (y == ("__debug__" : Str)) = false := by decide) (hst : starEach [e, .Tuple [.Name x p2, .Name y p3] k p4] X.env = (false, eval e X.env) :: starEach [.Tuple [.Name x p2, .Name y p3] k p4] X.env := by rfl) :
    DE X W (.Call (.Name "isinstance" p) [e, .Tuple [.Name x p2, .Name y p3] k p4] [] pos) (vIsi2 T U f) := by
  refine PE.imp (pe_callB (callIsT2 T U) hg hm boot_isinstance (pa_cons he (pa_cons (pe_tup (pa_cons (pe_bltn (v := .ty T.n) hg2 hm2 hv rfl hn hdb) (pa_cons (pe_bltn (v := .ty U.n) hg3 hm3 hv3 rfl hn3 hdb3) pa_nil))) pa_nil) hst) (by decide) (by decide) hst rfl) fun σ H Q ⟨E, F, st, S, q⟩ => ?_
  refine seqE S q fun r st1 v F1 H1 a b S1 vr k => ?_
  refine ⟨small_size (show 2 ≤ 1000 by decide), fun tp hp => ?_⟩
  have S2 := S1.grow (same_new (o := .tup [.ty T.n, .ty U.n]) hp)
  exact ⟨E, F1, st1, σ, r.d, v, tp, rfl, upd_same, S2, (VRel.o S1 vr).mono (Same.refl _) (same_new hp), k _ F1 _ (Same.refl _) (same_new hp) S2 rfl⟩
theorem hu1 {A : Around} {k : Nat} (hr : Room k A) : A.units + 1 < cLine := by have := hr.un; omega
end
/-! ### run -/
def kIsi2 (T U : Ty) (p : Val × Sts) : R (Val × Sts) := .ok (.fz (.bl (isT T p.1.d || isT U p.1.d)), p.2)
theorem vIsi2_ap (T U : Ty) (f : VE) (st : Sts) : vIsi2 T U f st = (f st).bind (kIsi2 T U) := byDef rfl
theorem kIsi2_ap (T U : Ty) (r : Val) (st : Sts) : kIsi2 T U (r, st) = .ok (.fz (.bl (isT T r.d || isT U r.d)), st) := byDef rfl
theorem oIxA_lst (ds : List D) (k : D) : oIxA (.lst ds) k = oIx (.lst ds) k := byDef rfl
theorem oIxA_tup (ds : List D) (k : D) : oIxA (.tup ds) k = oIx (.tup ds) k := byDef rfl
theorem oIxA_str (ds : List Nat) (k : D) : oIxA (.str ds) k = oIx (.str ds) k := byDef rfl
theorem oIxA_dct (ks vs : List D) (k : D) : oIxA (.dct ks vs) k = oGet ks vs k := byDef rfl
theorem oGet_str (ks vs : List D) (z : List Nat) : oGet ks vs (.str z) = (getK ks vs (.str z)).map .fz := byDef rfl
theorem oGet_int (ks vs : List D) (z : Int) : oGet ks vs (.int z) = (getK ks vs (.int z)).map .fz := byDef rfl
theorem oInA_str (k : List Nat) (x : List Nat) : oInA (.str k) (.str x) = oIn (.str k) (.str x) := byDef rfl
theorem oInA_lst (k : D) (x : List D) : oInA k (.lst x) = oIn k (.lst x) := by cases k <;> rfl
theorem oInA_tup (k : D) (x : List D) : oInA k (.tup x) = oIn k (.tup x) := by cases k <;> rfl
theorem oInA_dstr (k : List Nat) (ks vs : List D) : oInA (.str k) (.dct ks vs) = some (.fz (.bl (getK ks vs (.str k)).isSome)) := byDef rfl
theorem oInA_dint (k : Int) (ks vs : List D) : oInA (.int k) (.dct ks vs) = some (.fz (.bl (getK ks vs (.int k)).isSome)) := byDef rfl
theorem oNotInA_str (k : List Nat) (x : List Nat) : oNotInA (.str k) (.str x) = oNotIn (.str k) (.str x) := byDef rfl
theorem oNotInA_lst (k : D) (x : List D) : oNotInA k (.lst x) = oNotIn k (.lst x) := by cases k <;> rfl
theorem oNotInA_tup (k : D) (x : List D) : oNotInA k (.tup x) = oNotIn k (.tup x) := by cases k <;> rfl
theorem oNotInA_dstr (k : List Nat) (ks vs : List D) : oNotInA (.str k) (.dct ks vs) = some (.fz (.bl (!(getK ks vs (.str k)).isSome))) := byDef rfl
theorem oNotInA_dint (k : Int) (ks vs : List D) : oNotInA (.int k) (.dct ks vs) = some (.fz (.bl (!(getK ks vs (.int k)).isSome))) := byDef rfl
theorem vNewD_ap (st : Sts) : vNewD st = .ok (.nw (.dct [] []), st) := byDef rfl
theorem oDict_ap (ks vs : List D) : oDict [.dct ks vs] = some (.nw (.dct ks vs)) := byDef rfl
theorem vPut_ap (i : Nat) (f g : VE) (st : Sts) : vPut i f g st = (f st).bind (kPut i g) := byDef rfl
def put0 (k : Option Sl) (x : R Flow) : R Flow := match k with
  | some (.own (.dct _ _)) => x
  | _ => .no
theorem kPut_ap (i : Nat) (g : VE) (r : Val) (st : Sts) : kPut i g (r, st) = put0 (st[i]?) ((g st).bind (kPut2 i r)) := byDef rfl
theorem put0_ap (ks vs : List D) (x : R Flow) : put0 (some (.own (.dct ks vs))) x = x := byDef rfl
theorem kPut2_ap (i : Nat) (d : D) (r : Val) (st : Sts) : kPut2 i (.fz d) (r, st) = putEnd i d st (st[i]?) r.d := byDef rfl
theorem putEnd_str (i : Nat) (d : D) (st : Sts) (ks vs : List D) (k : List Nat) : putEnd i d st (some (.own (.dct ks vs))) (.str k) = if ks.length < 16777216 then .ok (.nx (st.set i (.own (putKs ks vs (.str k) d)))) else .no := byDef rfl
theorem putEnd_int (i : Nat) (d : D) (st : Sts) (ks vs : List D) (k : Int) : putEnd i d st (some (.own (.dct ks vs))) (.int k) = if ks.length < 16777216 then .ok (.nx (st.set i (.own (putKs ks vs (.int k) d)))) else .no := byDef rfl
theorem vPar_ap (i j : Nat) (f : VA) (st : Sts) : vPar i j f st = (f st).bind (kPar i j) := byDef rfl
theorem kPar_ap (i j : Nat) (a b : D) (st : Sts) : kPar i j ([.fz a, .fz b], st) = .ok (.nx ((st.set i (.val a)).set j (.val b))) := byDef rfl
end Vl
/-! sorting of tuples, the empty one among them -/
namespace Vl
section
open PySem PySem.W PySem.Calls PyProof.Rows SeqAt
variable {prog : Program} {w : World} {A : Around} {E : Value → Shared → Prop} {s : Shared}
def neT : PyData → Bool
  | .tuple (_ :: _) => true
  | _ => false
theorem call_tuple_lt {Q : Value → Shared → Prop} {l b : Addr} {items items2 : Array Value} {e r : Nat → Bool} (hl : s.heap.IsTuple l items) (hb : s.heap.IsTuple b items2)
    (he : ∀ j (h1 : j < items.size) (h2 : j < items2.size), EqAt A.in1 s items[j] items2[j] (e j)) (hr : ∀ j (h1 : j < items.size) (h2 : j < items2.size), e j = false → RcLt A.in1 s items[j] items2[j] (r j))
    (h : Q (.bool (firstLt e r (decide (items.size < items2.size)) (List.range (min items.size items2.size)))) s) : wpAny (model prog w) A (call (.builtin "tuple.__lt__") [.ref l, .ref b]) Q E s := by
  obtain ⟨⟨cls, dd, data, sl⟩, ho, hc, n, hd⟩ := id hl
  obtain ⟨⟨cls2, dd2, data2, sl2⟩, ho2, hc2, n2, hd2⟩ := id hb
  simp only at hc hd hc2 hd2
  subst hc hd hc2 hd2
  exact call_meets F.slot_tuple_lt ⟨_, ho, rfl⟩ F.entry_tuple_lt (F.args_tuple_lt_2 _ _) (tuple_ltAt l b items items2 n n2 dd dd2 sl sl2 e r) ⟨ho, ho2, he, hr, h⟩
theorem oneLt_tup {xs ys : List PyData} {a b : Value} {as bs : List Addr} {Q : Bool → Shared → Prop} (ra : Reads s.heap a (.tuple xs) as) (rb : Reads s.heap b (.tuple ys) bs) (h : alike (.tuple xs) (.tuple ys) = true)
    (hu : A.units + min (PyData.tuple xs).depth (PyData.tuple ys).depth < cLine) (hq : Q (dataLt (.tuple xs) (.tuple ys)) s) : wpAny (model prog w) A (oneLt' true a b) Q E s := by
  have hal : alikeAll xs ys = true := by simpa [alike] using h
  cases ra with
  | @tuple l o vs n _ as₁ h1 h2 h3 h4 =>
    cases rb with
    | @tuple l' o' vs' n' _ bs₁ k1 k2 k3 k4 =>
      have n1 : vs.size = xs.length := by simpa using SeqAt.ReadsAll.length _ _ _ h4
      have n2 : vs'.size = ys.length := by simpa using SeqAt.ReadsAll.length _ _ _ k4
      rw [dataLt_tuple, ← firstLt_toks xs ys hal, ← n1, ← n2] at hq
      rw [oneLt'_eq]
      simp only [if_true]
      refine wpAny_bind (wpAny_cRoomFor (SeqAt.room_here hu) ?_)
      refine wpAny_bind (wpAny_callSpecialIfBound?_slot (T := "tuple") ⟨_, h1, h2⟩ F.slot_tuple_lt (call_tuple_lt (e := pairEq xs ys) (r := fun j => dataLt (xs.getD j .none) (ys.getD j .none)) ⟨_, h1, h2, _, h3⟩ ⟨_, k1, k2, _, k3⟩ (fun j j1 j2 => ?_) (fun j j1 j2 hj => ?_) ?_))
      · have := eqAt_alikeAll xs ys A.in1 s vs.toList vs'.toList _ _ h4 k4 hal (SeqAt.room_in hu) j (by simpa using j1) (by simpa using j2)
        simpa using this
      · have := rcLt_alikeAll xs ys A.in1 s vs.toList vs'.toList _ _ h4 k4 hal (SeqAt.room_in hu) j (by simpa using j1) (by simpa using j2) hj
        simpa using this
      · exact wpAny_truthy_bool hq
theorem firsts_run {M : Model} : ∀ (vs : List Value) (ds : List PyData) {Q : List (Option Value) → Shared → Prop}, EachIs (fun v d => ∃ as, Reads s.heap v d as) vs ds → (∀ d, d ∈ ds → ∃ xs, d = .tuple xs) →
    (∀ os : List (Option Value), os.map Option.isSome = ds.map neT → Q os s) → wpAny M A (vs.mapM firstOfTuple') Q E s
  | _, _, _, .nil, _, h => by rw [List.mapM_nil]; exact wpAny_pure (h [] rfl)
  | v :: vs, d :: ds, Q, .cons ⟨as, r⟩ t, ht, h => by
    obtain ⟨xs, rfl⟩ := ht d (List.mem_cons_self ..)
    cases r with
    | @tuple a o its n _ as₁ ho hc hd hr =>
      rw [List.mapM_cons]
      refine wpAny_bind ?_
      rw [kas_first_eq]
      refine wpAny_bind (Looks.here (show Looks M s.heap (typeOf (.ref a)) o.cls from (Looks.ld ho).andThen .now) ?_)
      rw [hc, if_neg (by first | decide | simp)]
      refine wpAny_bind (listItems_at ho hd (wpAny_pure ?_))
      refine wpAny_bind (firsts_run vs ds t (fun d hd => ht d (List.mem_cons_of_mem _ hd)) fun os ho2 => wpAny_pure (h _ ?_))
      rw [List.map_cons, List.map_cons, ho2]
      congr 1
      have n1 : its.size = xs.length := by simpa using SeqAt.ReadsAll.length _ _ _ hr
      cases xs with
      | nil =>
        have : its[0]? = none := by rw [Array.getElem?_eq_none]; rw [n1]; simp
        rw [this]; rfl
      | cons x r =>
        have : ∃ f, its[0]? = some f := ⟨_, Array.getElem?_eq_getElem (by rw [n1]; simp)⟩
        obtain ⟨f, e⟩ := this
        rw [e]; rfl
theorem kind_mix {vs : List Value} {ds : List PyData} {Q : SortKind → Shared → Prop} {M : Model} (e : EachIs (fun v d => ∃ as, Reads s.heap v d as) vs ds) (ht : ∀ d, d ∈ ds → ∃ xs, d = .tuple xs) (hx : ∃ d ∈ ds, neT d = false)
    (h1 : (ds.head?.map neT) = some true → Q general' s) (h2 : (ds.head?.map neT) = some false → Q oneType' s) : wpAny M A (keyKind' vs.toArray) Q E s := by
  have hT : ∀ v ∈ vs, Looks M s.heap (typeOf v) (Value.type "tuple") := fun v hv => by
    obtain ⟨d, hd, as, r⟩ := e.left v hv
    obtain ⟨xs, rfl⟩ := ht d hd
    exact looks_reads r
  have hne : vs ≠ [] := by
    rintro rfl
    cases e
    obtain ⟨d, hd, _⟩ := hx
    cases hd
  rw [kat_kind_eq, List.mapM_toArray, map_eq_pure_bind]
  refine wpAny_bind (wpAny_bind (firsts_run vs ds e ht fun os ho => wpAny_pure ?_))
  have hall : ¬ ((os.toArray.all fun x => x.isSome) = true) := by
    rw [List.all_toArray, List.all_eq_true]
    intro q
    obtain ⟨d, hd, hf⟩ := hx
    have : neT d ∈ ds.map neT := List.mem_map.mpr ⟨d, hd, rfl⟩
    rw [← ho] at this
    obtain ⟨o, ho1, ho2⟩ := List.mem_map.mp this
    rw [q o ho1, hf] at ho2
    cases ho2
  rw [if_neg hall]
  have hd0 : (os.head?.map Option.isSome) = ds.head?.map neT := by
    rw [← List.head?_map, ← List.head?_map, ho]
  cases os with
  | nil =>
    cases ds with
    | nil => obtain ⟨d, hd, _⟩ := hx; cases hd
    | cons d ds => cases ho
  | cons o os =>
    have h0 : ((o :: os).toArray[0]?.bind id) = o := by simp
    rw [h0]
    cases o with
    | some f =>
      rw [if_pos (by simp)]
      exact wpAny_pure (h1 hd0.symm)
    | none =>
      rw [if_neg (by simp)]
      rw [oneTypeOnly'_eq, List.mapM_toArray, map_eq_pure_bind]
      refine wpAny_bind (wpAny_bind (wpAny_bind (kas_mapM (r := Value.type "tuple") _ (fun v hv Q' hq => (hT v hv).here hq) (wpAny_pure ?_))))
      obtain ⟨v₁, vr, rfl⟩ : ∃ v₁ vr, vs = v₁ :: vr := by
        cases vs with
        | nil => exact (hne rfl).elim
        | cons v vr => exact ⟨v, vr, rfl⟩
      have hall2 : ((List.map (fun _ => Value.type "tuple") (v₁ :: vr)).toArray.all fun x => x == Value.type "tuple") = true := by
        simp only [List.all_toArray, List.all_map, List.all_eq_true]
        intro _ _
        rfl
      have h00 : (List.map (fun _ => Value.type "tuple") (v₁ :: vr)).toArray[0]? = some (Value.type "tuple") := by simp
      rw [h00]
      simp only [hall2, if_true]
      exact wpAny_pure (wpAny_pure (h2 hd0.symm))
theorem sorts_tups {vs : List Value} {ds : List PyData} (e : EachIs (fun v d => ∃ as, Reads s.heap v d as) vs ds) (hal : AllAlike ds) (ht : ∀ d, d ∈ ds → ∃ xs, d = .tuple xs) (hu : ∀ d, d ∈ ds → A.units + d.depth < cLine) : SortsAt prog w A s (dataKind s.heap ds) vs := by
  by_cases hall : ∀ d, d ∈ ds → ∃ x r, d = .tuple (x :: r)
  · exact SortsAt.data e hal (.inl hall) hu
  have hx : ∃ d ∈ ds, neT d = false := by
    rw [Classical.not_forall] at hall
    obtain ⟨d, hd⟩ := hall
    rw [Classical.not_imp] at hd
    refine ⟨d, hd.1, ?_⟩
    obtain ⟨xs, rfl⟩ := ht d hd.1
    cases xs with
    | nil => rfl
    | cons x r => exact (hd.2 ⟨x, r, rfl⟩).elim
  have room : ∀ {d d' : PyData}, d ∈ ds → A.units + min d.depth d'.depth < cLine := fun {d d'} hd => Nat.lt_of_le_of_lt (Nat.add_le_add_left (Nat.min_le_left _ _) _) (hu d hd)
  refine ⟨fun v hv => ?_, ?_⟩
  · obtain ⟨d, hd, as, r⟩ := e.left v hv
    exact ⟨_, dataKind_some hal hd r⟩
  · cases hh : ds.head?.map neT with
    | none =>
      cases ds with
      | nil => obtain ⟨d, hd, _⟩ := hx; cases hd
      | cons d ds => cases hh
    | some b =>
      cases b with
      | true =>
        refine ⟨general', ?_, fun h2 E Q hq => kind_mix e ht hx (fun _ => hq) (fun z => by rw [hh] at z; cases z)⟩
        intro E x y a b Q ha hb hq
        obtain ⟨d, as, hd, ra, rfl⟩ := dataKind_inv ha
        obtain ⟨d', as', hd', rb, rfl⟩ := dataKind_inv hb
        obtain ⟨xs, rfl⟩ := ht d hd
        exact oneLt_alike (f := false) (fun z => by cases z) ra rb (hal _ hd _ hd') (fun z => by cases z) (room hd) hq
      | false =>
        refine ⟨oneType', ?_, fun h2 E Q hq => kind_mix e ht hx (fun z => by rw [hh] at z; cases z) (fun _ => hq)⟩
        intro E x y a b Q ha hb hq
        obtain ⟨d, as, hd, ra, rfl⟩ := dataKind_inv ha
        obtain ⟨d', as', hd', rb, rfl⟩ := dataKind_inv hb
        obtain ⟨xs, rfl⟩ := ht d hd
        obtain ⟨ys, rfl⟩ := ht d' hd'
        rw [keyLt'_oneType]
        exact oneLt_tup ra rb (hal _ hd _ hd') (room hd) hq
theorem sorted_tups {β : Type} {vs : List Value} {bs : List β} {enc : β → PyData} {R : Value → β → Prop} {l : Addr} {Q : Value → Shared → Prop} (hl : s.heap.IsList l vs.toArray) (e : EachIs R vs bs) (er : EachIs (fun v b => ∃ as, Reads s.heap v (enc b) as) vs bs) (hal : AllAlike (bs.map enc)) (ht : ∀ b ∈ bs, ∃ xs, enc b = .tuple xs) (hL : bs.length ≤ sizeLine)
    (hu : ∀ b, b ∈ bs → A.units + 2 + (enc b).depth < cLine) (h : ∀ out, out.length = bs.length → EachIs R out (bs.mergeSort (dataLe false enc)) → Q (.ref (s.heap.objs.size + 1)) { s with heap := sortedAll s.heap vs (List.toArray out) }) :
    wpAny (model prog w) A (call (.builtin "sorted") [.ref l]) Q E s := by
  have er' : EachIs (fun v b => ∃ as, Reads (sortingHeap (copyHeap s.heap vs) (s.heap.objs.size + 1) vs) v (enc b) as) vs bs := er.mono fun _ _ ⟨as, r⟩ => ⟨as, PyProof.Rows.Reads.keeps (fun _ _ => sorting_copy_old) r⟩
  have ht' : ∀ d, d ∈ bs.map enc → ∃ xs, d = .tuple xs := fun d hd => by
    obtain ⟨b, hb, rfl⟩ := List.mem_map.mp hd
    exact ht b hb
  exact sorted_vals hl (sorts_tups (s := { s with heap := sortingHeap (copyHeap s.heap vs) (s.heap.objs.size + 1) vs }) (each_map (R := fun v d => ∃ as, Reads (sortingHeap (copyHeap s.heap vs) (s.heap.objs.size + 1) vs) v d as) enc er') hal ht' (bound_map hu)) (by rw [e.length]; exact hL)
    (h _ (by rw [sortVals_length false rfl]; exact e.length) (sortVals_data false e er' hal))
end
open PySem PySem.Spec PyProof.Rows L2
def isStrD : D → Bool
  | .str _ => true
  | _ => false
def isIntD : D → Bool
  | .int _ => true
  | _ => false
def isTupS : D → Bool
  | .tup es => es.all isStrD
  | _ => false
def leD (a b : D) : Bool := PySem.W.dataLe false D.py a b
def sortD (ds : List D) : List D := ds.mergeSort leD
def srtOk (ds : List D) : Bool := ds.all isStrD || (ds.all isIntD || ds.all isTupS)
def oSorted : List D → Option Val
  | [.lst ds] => if srtOk ds = true then some (.nw (.lst (sortD ds))) else none
  | _ => none
theorem each_zip {K : PySem.W.Frag} {F : Hp} : ∀ {es : List D} {vs : List V} {its : List Value}, Reps K F es vs → Vals vs its → PySem.W.EachIs (fun u (p : D × V) => RelV p.2 u ∧ Rep K F p.1 p.2) its (es.zip vs)
  | [], _, _, h, r => by
    rw [show _ = [] from h] at r
    cases r
    exact .nil
  | e :: es, _, _, ⟨v, us, h1, h2, h3⟩, r => by
    subst h1
    cases r with
    | cons r1 r2 =>
      rw [List.zip_cons_cons]
      exact .cons ⟨r1, h2⟩ (each_zip h3 r2)
theorem each_vals {K : PySem.W.Frag} {F : Hp} : ∀ {ps : List (D × V)} {out : List Value}, PySem.W.EachIs (fun u (p : D × V) => RelV p.2 u ∧ Rep K F p.1 p.2) out ps → Vals (ps.map (·.2)) out ∧ Reps K F (ps.map (·.1)) (ps.map (·.2))
  | [], _, h => by cases h; exact ⟨.nil, rfl⟩
  | p :: ps, _, h => by
    cases h with
    | cons h1 h2 =>
      obtain ⟨q1, q2⟩ := each_vals h2
      exact ⟨.cons h1.1 q1, p.2, _, rfl, h1.2, q2⟩
theorem zip_rep {K : PySem.W.Frag} {F : Hp} : ∀ {es : List D} {vs : List V}, Reps K F es vs → ∀ b ∈ es.zip vs, Rep K F b.1 b.2
  | [], vs, _, b, hb => by rw [List.zip_nil_left] at hb; cases hb
  | e :: es, _, ⟨v, us, h1, h2, h3⟩, b, hb => by
    subst h1
    rw [List.zip_cons_cons] at hb
    rcases List.mem_cons.mp hb with rfl | hb
    · exact h2
    · exact zip_rep h3 b hb
theorem map_fst_zip {α β : Type} : ∀ {a : List α} {b : List β}, b.length = a.length → (a.zip b).map (·.1) = a
  | [], b, _ => by rw [List.zip_nil_left]; rfl
  | x :: a, [], h => by cases h
  | x :: a, y :: b, h => by
    rw [List.zip_cons_cons, List.map_cons, map_fst_zip (by simpa using h)]
theorem alike_strs : ∀ {es fs : List D}, es.all isStrD = true → fs.all isStrD = true → PySem.W.alikeAll (D.pys es) (D.pys fs) = true
  | [], [], _, _ => rfl
  | [], _ :: _, _, _ => rfl
  | _ :: _, [], _, _ => rfl
  | e :: es, f :: fs, h1, h2 => by
    rw [List.all_cons, Bool.and_eq_true] at h1 h2
    show (PySem.W.alike e.py f.py && PySem.W.alikeAll (D.pys es) (D.pys fs)) = true
    rw [alike_strs h1.2 h2.2, Bool.and_true]
    cases e <;> cases h1.1
    cases f <;> cases h2.1
    rfl
theorem lay_strs : ∀ {es : List D} {n : Nat}, es.all isStrD = true → D.lays n es = true
  | [], n, _ => by cases n <;> rfl
  | e :: es, n, h => by
    rw [List.all_cons, Bool.and_eq_true] at h
    have : D.lays n (e :: es) = (D.lay n e && D.lays n es) := by cases n <;> rfl
    rw [this, lay_strs h.2, Bool.and_true]
    cases e <;> cases h.1
    cases n <;> rfl
section
variable {X : Cx}
theorem callSorted (hu : X.A.units + 65 < cLine) : CallR X (.builtin "sorted") (rDN X.K oSorted) := by
  intro pins s σ H xs us Q I r ⟨E, F, st, σ', ds, res, S, hx, e, p⟩
  match ds, e with
  | [.lst es], e =>
    obtain ⟨v, rfl, h⟩ := hx.one
    obtain ⟨a, vs, rfl, h1, r1⟩ := h.lst S.sub
    have e : (if srtOk es = true then some (Val.nw (.lst (sortD es))) else none) = some res := e
    by_cases hok : srtOk es = true
    · rw [if_pos hok] at e
      cases e
      obtain ⟨its, rv, hl, hz⟩ := I.list h1
      rw [Vals.ref1 r]
      have hlen : vs.length = es.length := r1.length
      have eb := each_zip r1 rv
      have bl : (es.zip vs).length = es.length := by rw [List.length_zip]; omega
      have hmem : ∀ b ∈ es.zip vs, b.1 ∈ es := fun b hb => (List.of_mem_zip hb).1
      have hlay : ∀ d ∈ es, D.lay 2 d = true := by
        unfold srtOk at hok
        rw [Bool.or_eq_true, Bool.or_eq_true, List.all_eq_true, List.all_eq_true, List.all_eq_true] at hok
        intro d hd
        rcases hok with q | q | q
        · have := q d hd
          cases d <;> cases this
          rfl
        · have := q d hd
          cases d <;> cases this
          rfl
        · have := q d hd
          cases d <;> first | cases this | skip
          exact lay_strs this
      have hal : PySem.W.AllAlike ((es.zip vs).map fun p => p.1.py) := by
        intro d hd d' hd'
        obtain ⟨b, hb, rfl⟩ := List.mem_map.mp hd
        obtain ⟨b', hb', rfl⟩ := List.mem_map.mp hd'
        have m1 := hmem b hb
        have m2 := hmem b' hb'
        generalize b.1 = x at m1 ⊢
        generalize b'.1 = y at m2 ⊢
        unfold srtOk at hok
        rw [Bool.or_eq_true, Bool.or_eq_true, List.all_eq_true, List.all_eq_true, List.all_eq_true] at hok
        rcases hok with q | q | q
        · have q1 := q x m1
          have q2 := q y m2
          cases x <;> cases q1
          cases y <;> cases q2
          rfl
        · have q1 := q x m1
          have q2 := q y m2
          cases x <;> cases q1
          cases y <;> cases q2
          rfl
        · have q1 := q x m1
          have q2 := q y m2
          cases x <;> first | cases q1 | skip
          cases y <;> first | cases q2 | skip
          show PySem.W.alikeAll (D.pys _) (D.pys _) = true
          exact alike_strs q1 q2
      have er : PySem.W.EachIs (fun u (b : D × V) => ∃ as, Reads s.heap u b.1.py as) its (es.zip vs) :=
        (PySem.W.each_mem eb).mono fun u b q => Dp.reads I b.1.py b.2 u (Rep.dp 2 b.1 b.2 (hlay _ (hmem b q.2)) (Rep.mono S.sub _ _ q.1.2)) q.1.1
      have hdep : ∀ b, b ∈ es.zip vs → X.A.units + 2 + (b.1.py).depth < cLine := fun b hb => by
        have := (D.depth_lay 2 b.1 b.2 (hlay _ (hmem b hb)) (zip_rep r1 b hb)).1
        omega
      have fin : ∀ out : List Value, out.length = (es.zip vs).length → PySem.W.EachIs (fun u (b : D × V) => RelV b.2 u ∧ Rep X.K F b.1 b.2) out ((es.zip vs).mergeSort (PySem.W.dataLe false fun p => p.1.py)) → EP X pins σ Q (.ref (s.heap.objs.size + 1)) { s with heap := sortedAll s.heap its out.toArray } := by
        intro out ol eo
        obtain ⟨q1, q2⟩ := each_vals eo
        have em : ((es.zip vs).mergeSort (PySem.W.dataLe false fun p => p.1.py)).map (·.1) = sortD es := by
          have hm := List.map_mergeSort (r := PySem.W.dataLe false fun p : D × V => p.1.py) (s := leD) (f := fun p : D × V => p.1) (l := es.zip vs) (fun a _ b _ => rfl)
          rw [map_fst_zip hlen] at hm
          exact hm
        rw [em] at q2
        obtain ⟨ep, he'⟩ := PyProof.Rows.sortedAll_at s.heap its out.toArray
        have hl2 : (((es.zip vs).mergeSort (PySem.W.dataLe false fun p => p.1.py)).map (·.2)).length ≤ sizeLine := by
          rw [List.length_map, List.length_mergeSort, bl, ← hlen]; exact hz
        exact ⟨.ref _, upd H (s.heap.objs.size + 1) (.lst _), I.laid (t' := s.toks) (fun _ _ => PyProof.Rows.sortedAll_old) (Nat.le_succ _) ⟨hl2, out, ep, q1, he'⟩, rfl, p.newL S q2 _ (I.hok.fresh (Nat.le_succ _))⟩
      have hok2 := hok
      unfold srtOk at hok2
      rw [Bool.or_eq_true, Bool.or_eq_true, List.all_eq_true, List.all_eq_true, List.all_eq_true] at hok2
      have hzz : (es.zip vs).length ≤ sizeLine := by rw [bl, ← hlen]; exact hz
      rcases hok2 with q | q | q
      · refine PySem.W.sorted_data hl.isList eb er hal (.inr fun d hd => ?_) hzz hdep fin
        obtain ⟨b, hb, rfl⟩ := List.mem_map.mp hd
        have q1 := q _ (hmem b hb)
        generalize b.1 = x at q1 ⊢
        cases x <;> cases q1
        exact ⟨fun z => (nomatch z), fun xs z => (nomatch z)⟩
      · refine PySem.W.sorted_data hl.isList eb er hal (.inr fun d hd => ?_) hzz hdep fin
        obtain ⟨b, hb, rfl⟩ := List.mem_map.mp hd
        have q1 := q _ (hmem b hb)
        generalize b.1 = x at q1 ⊢
        cases x <;> cases q1
        exact ⟨fun z => (nomatch z), fun xs z => (nomatch z)⟩
      · refine sorted_tups hl.isList eb er hal (fun b hb => ?_) hzz hdep fin
        have q1 := q _ (hmem b hb)
        generalize b.1 = x at q1 ⊢
        cases x <;> first | cases q1 | exact ⟨_, rfl⟩
    · rw [if_neg hok] at e; cases e
end
theorem oSorted_ap (ds : List D) : oSorted [.lst ds] = if srtOk ds = true then some (.nw (.lst (sortD ds))) else none := byDef rfl
end Vl
namespace Vl
open PySem PySem.Spec PyProof.Rows L2
/-! ## dicts whose keys are tuples of whole numbers and texts -/
def keysOf : List D → Option (List Key)
  | [] => some []
  | d :: ds => (keyD d).bind fun k => (keysOf ds).map (k :: ·)
def keyT : D → Option (List Key)
  | .tup es => keysOf es
  | _ => none
theorem keyB_of {d : D} {κ : Key} (h : keyD d = some κ) : d = keyB κ := by
  cases d with
  | int i => cases h; rfl
  | str z =>
    have h := Option.some.inj h
    subst h
    rfl
  | _ => cases h
theorem keysOf_eq : ∀ {es : List D} {k : List Key}, keysOf es = some k → es = k.map keyB
  | [], k, h => by cases h; rfl
  | e :: es, k, h => by
    obtain ⟨κ, h1, h2⟩ := Option.bind_eq_some_iff.mp h
    obtain ⟨k', h3, h4⟩ := Option.map_eq_some_iff.mp h2
    subst h4
    rw [keyB_of h1, keysOf_eq h3]
    rfl
theorem keyT_eq {d : D} {k : List Key} (h : keyT d = some k) : d = tupB k := by
  cases d with
  | tup es => exact congrArg D.tup (keysOf_eq h)
  | _ => cases h
theorem keyB_inj {a b : Key} (h : keyB a = keyB b) : a = b := by
  cases a with
  | inl i =>
    cases b with
    | inl j => exact congrArg Sum.inl (D.int.inj h)
    | inr x => cases h
  | inr x =>
    cases b with
    | inl j => cases h
    | inr y =>
      have h := D.str.inj h
      cases x
      cases y
      have : _ = _ := Array.toList_inj.mp h
      subst this
      rfl
theorem keyBs_inj : ∀ {a b : List Key}, a.map keyB = b.map keyB → a = b
  | [], [], _ => rfl
  | [], _ :: _, h => by cases h
  | _ :: _, [], h => by cases h
  | a :: as, b :: bs, h => by
    rw [List.map_cons, List.map_cons] at h
    injection h with h1 h2
    rw [keyB_inj h1, keyBs_inj h2]
theorem tupB_inj {a b : List Key} (h : tupB a = tupB b) : a = b := keyBs_inj (D.tup.inj h)
theorem rep_keys {K : PySem.W.Frag} {F : Hp} : ∀ {es : List D} {vs : List V} {k : List Key}, Reps K F es vs → keysOf es = some k → vs = k.map kV ∧ ∀ κ ∈ k, KeyTx κ
  | [], _, _, h, e => by cases e; exact ⟨h, by simp⟩
  | d :: ds, _, k, ⟨v, us, h1, h2, h3⟩, e => by
    obtain ⟨κ, e1, e2⟩ := Option.bind_eq_some_iff.mp e
    obtain ⟨k', e3, e4⟩ := Option.map_eq_some_iff.mp e2
    subst e4 h1
    obtain ⟨q1, q2⟩ := rep_keys h3 e3
    have q : v = kV κ ∧ KeyTx κ := by
      cases d with
      | int i =>
        cases e1
        exact ⟨h2, trivial⟩
      | str z =>
        have e1 := Option.some.inj e1
        subst e1
        exact ⟨h2.1, h2.2⟩
      | _ => cases e1
    refine ⟨by rw [q1, q.1]; rfl, fun c hc => ?_⟩
    rcases List.mem_cons.mp hc with rfl | hc
    · exact q.2
    · exact q2 c hc
/-- a tuple that is a key -/
theorem tup_key {K : PySem.W.Frag} {F H : Hp} {d : D} {v : V} {k : List Key} (s : Same F H) (h : ORel K F H d v) (e : keyT d = some k) : ∃ b, v = .ref b ∧ H b = some (.tup (k.map kV)) ∧ ∀ κ ∈ k, KeyTx κ := by
  cases d with
  | tup es =>
    rcases h with ⟨a, vs, h1, h2, h3⟩ | ⟨m, a, o, e1, _⟩
    · obtain ⟨q1, q2⟩ := rep_keys h3 e
      subst q1
      exact ⟨a, h1, s _ _ h2, q2⟩
    · cases m <;> cases e1
  | _ => cases e
/-- the other way: a key's tuple in the frozen part -/
theorem rep_tupB {K : PySem.W.Frag} {F : Hp} {k : List Key} {b : Addr} (h : F b = some (.tup (k.map kV))) (ht : ∀ κ ∈ k, KeyTx κ) : Rep K F (tupB k) (.ref b) := by
  refine ⟨b, _, rfl, h, ?_⟩
  have : ∀ k : List Key, (∀ κ ∈ k, KeyTx κ) → Reps K F (k.map keyB) (k.map kV) := by
    intro k
    induction k with
    | nil => intro _; rfl
    | cons κ k ih =>
      intro ht
      refine ⟨kV κ, k.map kV, rfl, ?_, ih fun c hc => ht c (List.mem_cons_of_mem _ hc)⟩
      have hk := ht κ List.mem_cons_self
      cases κ with
      | inl i => rfl
      | inr x => exact ⟨by cases x; rfl, hk⟩
  exact this k ht
theorem reps_getT {K : PySem.W.Frag} {F : Hp} {k : List Key} : ∀ {kvs : List (List Key × V)} {ks vs : List D}, ks = kvs.map (fun p => tupB p.1) → Reps K F vs (kvs.map (·.2)) →
    (∀ d, getK ks vs (tupB k) = some d → ∃ v, valV kvs k = some v ∧ Rep K F d v) ∧ (getK ks vs (tupB k) = none → valV kvs k = none)
  | [], ks, vs, h1, h2 => by
    subst h1
    exact ⟨fun d e => (by cases vs <;> cases e), fun _ => rfl⟩
  | p :: kvs, ks, vs, h1, h2 => by
    subst h1
    cases vs with
    | nil => cases h2
    | cons b bs =>
      obtain ⟨w, r', e', r3, r4⟩ := h2
      cases e'
      obtain ⟨q1, q2⟩ := reps_getT (k := k) (kvs := kvs) rfl r4
      rw [List.map_cons]
      by_cases h : p.1 = k
      · unfold getK
        rw [if_pos (by rw [h]), valV_pos h]
        exact ⟨fun d e => ⟨_, rfl, Option.some.inj e ▸ r3⟩, fun e => (nomatch e)⟩
      · unfold getK
        rw [if_neg (fun z => h (tupB_inj z)), valV_neg h]
        exact ⟨q1, q2⟩
theorem reps_setT {K : PySem.W.Frag} {F : Hp} {k : List Key} {d : D} {y : V} (hd : Rep K F d y) : ∀ {kvs : List (List Key × V)} {ks vs : List D}, ks = kvs.map (fun p => tupB p.1) → Reps K F vs (kvs.map (·.2)) →
    Reps K F (setK ks vs (tupB k) d) ((kvs.map fun kv => if kv.1 = k then (kv.1, y) else kv).map (·.2)) ∧ ((kvs.map fun kv => if kv.1 = k then (kv.1, y) else kv).map fun p => tupB p.1) = ks
  | [], ks, vs, h1, h2 => by
    subst h1
    exact ⟨by unfold setK; exact h2, rfl⟩
  | p :: kvs, ks, vs, h1, h2 => by
    subst h1
    cases vs with
    | nil => cases h2
    | cons b bs =>
      obtain ⟨w, r', e', r3, r4⟩ := h2
      cases e'
      obtain ⟨q1, q2⟩ := reps_setT (k := k) hd (kvs := kvs) rfl r4
      rw [List.map_cons]
      unfold setK
      by_cases h : p.1 = k
      · rw [if_pos (by rw [h]), List.map_cons, if_pos h]
        exact ⟨⟨y, _, rfl, hd, q1⟩, by rw [List.map_cons, q2]⟩
      · rw [if_neg (fun z => h (tupB_inj z)), List.map_cons, if_neg h]
        exact ⟨⟨p.2, _, rfl, r3, q1⟩, by rw [List.map_cons, q2]⟩
def putKu (ks vs : List D) (k v : D) : M := match getK ks vs k with
  | some _ => .dcu ks (setK ks vs k v)
  | none => .dcu (ks ++ [k]) (vs ++ [v])
theorem mat_putT {K : PySem.W.Frag} {F : Hp} {k : List Key} {d : D} {y : V} (hk : ∀ κ ∈ k, KeyTx κ) (hd : Rep K F d y) {kvs : List (List Key × V)} {ks vs : List D} (h1 : TKeys ks kvs) (h2 : Reps K F vs (kvs.map (·.2))) :
    MAt K F (putKu ks vs (tupB k) d) (.dT (putK kvs k y)) := by
  obtain ⟨g1, g2⟩ := reps_getT (k := k) h1.1 h2
  unfold putKu
  cases e : getK ks vs (tupB k) with
  | some w =>
    obtain ⟨v, ev, _⟩ := g1 w e
    obtain ⟨q1, q2⟩ := reps_setT (k := k) hd h1.1 h2
    have ep : putK kvs k y = kvs.map fun kv => if kv.1 = k then (kv.1, y) else kv := by
      unfold putK
      rw [valV_any, ev]; rfl
    refine ⟨_, rfl, ⟨by rw [ep, q2], fun p hp => ?_⟩, by rw [ep]; exact q1⟩
    rw [ep] at hp
    obtain ⟨p0, hp0, rfl⟩ := List.mem_map.mp hp
    by_cases h : p0.1 = k
    · rw [if_pos h]; exact h1.2 p0 hp0
    · rw [if_neg h]; exact h1.2 p0 hp0
  | none =>
    have ev := g2 e
    refine ⟨_, rfl, ⟨?_, fun p hp => ?_⟩, ?_⟩
    · rw [putK_new y ev, List.map_append, ← h1.1]; rfl
    · rw [putK_new y ev] at hp
      rcases List.mem_append.mp hp with hp | hp
      · exact h1.2 p hp
      · rw [List.mem_singleton.mp hp]; exact hk
    · rw [putK_new y ev, List.map_append]
      exact h2.append (Reps.one hd)
theorem ORel.dcu {K : PySem.W.Frag} {F H : Hp} {ks vs : List D} {v : V} (s : Same F H) (h : ORel K F H (.dcu ks vs) v) : ∃ a kvs, v = .ref a ∧ H a = some (.dT kvs) ∧ TKeys ks kvs ∧ Reps K F vs (kvs.map (·.2)) := by
  rcases h with ⟨a, kvs, e, h1, h2, h3⟩ | ⟨m, a, o, e, e2, h1, h2⟩
  · exact ⟨a, kvs, e, s _ _ h1, h2, h3⟩
  · cases m with
    | lst ds => cases e
    | dct ks' vs' => cases e
    | dcu ks' vs' =>
      cases e
      obtain ⟨kvs, rfl, h3, h4⟩ := h2
      exact ⟨a, kvs, e2, h1, h3, h4⟩
section
variable {X : Cx} {W : Wx} {pos : Pos}
/-! ### d[k], k in d -/
def oGetU (ks vs : List D) (k : D) : Option Val := match keyT k with
  | some _ => (getK ks vs k).map .fz
  | none => none
def oIxU : D → D → Option Val
  | .dcu ks vs, k => oGetU ks vs k
  | d, k => oIxA d k
theorem opIxU (hu : X.A.units + 1 < cLine) : IxR X (rD X.K oIxU) := by
  intro value slice pins s σ H x y v u Q I rx ry ⟨E, F, st, σ', dx, dy, res, S, hx, hy, e, p⟩ hs
  cases dx with
  | dcu ks vs =>
    obtain ⟨a, kvs, rfl, h1, h2, h3⟩ := hx.dcu S.sub
    have e : oGetU ks vs dy = some res := e
    unfold oGetU at e
    cases ek : keyT dy with
    | none => rw [ek] at e; cases e
    | some k =>
      rw [ek] at e
      obtain ⟨d, eg, er⟩ := Option.map_eq_some_iff.mp e
      subst er
      obtain ⟨b, ey, hb, _⟩ := tup_key S.sub hy ek
      rw [keyT_eq ek] at eg
      obtain ⟨w, ew, rw'⟩ := (reps_getT (k := k) h2.1 h3).1 d eg
      obtain rfl : v = Value.ref a := rx
      subst ey
      have g : DGet H a (.ref b) (some w) := by rw [← ew]; exact DGet.t h1 hb
      have hT : s.TypeIs (.ref a) "dict" := dict_typeIs I g
      unfold subscriptTail
      refine wpAny_bind ?_
      rw [getitemInPython_of_ne hT.not_modules]
      refine wpAny_bind (wpAny_specialOf hT PySem.F.slot_dict_getitem.lookup ?_)
      have fin : wpAny (model X.prog X.w) X.A (subscripted slice false (.ref a) u) (fun r s₃ => wpAny (model X.prog X.w) X.A (letTemporaryGo value (.ref a) r >>= fun _ => pure r) (EP X pins σ Q) X.xe s₃) X.xe s := by
        rw [hs]
        exact wpAny_operating (thn (d_getItem hu I g ry fun w' s3 I3 rw2 => ⟨w, H, I3, rw2, p.fz S rw'⟩) fun r s3 q => wpAny_bind (wpAny_letTemporaryGo (wpAny_pure q)))
      first
        | exact wpAny_pure (wpAny_bind fin)
        | exact wpAny_bind (wpAny_pure (wpAny_bind fin))
        | exact wpAny_bind fin
  | _ => exact opIxA hu value slice pins s σ H x y v u Q I rx ry ⟨E, F, st, σ', _, dy, res, S, hx, hy, e, p⟩ hs
def oHasU (ks vs : List D) (k : D) : Option Bool := match keyT k with
  | some _ => some (getK ks vs k).isSome
  | none => none
def oInU : D → D → Option Val
  | k, .dcu ks vs => (oHasU ks vs k).map fun b => .fz (.bl b)
  | k, d => oInA k d
theorem has_valT {K : PySem.W.Frag} {F : Hp} {k : List Key} {kvs : List (List Key × V)} {ks vs : List D} (h1 : TKeys ks kvs) (h2 : Reps K F vs (kvs.map (·.2))) : (valV kvs k).isSome = (getK ks vs (tupB k)).isSome := by
  obtain ⟨g1, g2⟩ := reps_getT (k := k) h1.1 h2
  cases e : getK ks vs (tupB k) with
  | none => rw [g2 e]; rfl
  | some d =>
    obtain ⟨v, ev, _⟩ := g1 d e
    rw [ev]; rfl
theorem opInU (hu : X.A.units + 65 < cLine) : OpR X (compareOp .In) (rD X.K oInU) := by
  intro pins s σ H x y v u Q I rx ry ⟨E, F, st, σ', dx, dy, res, S, hx, hy, e, p⟩
  cases dy with
  | dcu ks vs =>
    obtain ⟨a, kvs, rfl, h1, h2, h3⟩ := hy.dcu S.sub
    obtain ⟨b, eb, er⟩ := Option.map_eq_some_iff.mp (show (oHasU ks vs dx).map (fun b => Val.fz (.bl b)) = some res from by cases dx <;> exact e)
    subst er
    unfold oHasU at eb
    cases ek : keyT dx with
    | none => rw [ek] at eb; cases eb
    | some k =>
      rw [ek] at eb
      cases eb
      obtain ⟨b, ey, hb, _⟩ := tup_key S.sub hx ek
      subst ey
      obtain rfl : u = Value.ref a := ry
      exact d_in (by omega) I (DGet.t h1 hb) rx fun s3 I3 => ⟨.bl _, H, I3, rfl, p.fz S (by rw [has_valT h2 h3, ← keyT_eq ek]; rfl)⟩
  | _ => exact opInA hu pins s σ H x y v u Q I rx ry ⟨E, F, st, σ', dx, _, res, S, hx, hy, by cases dx <;> exact e, p⟩
/-! ### {} -/
def vNewU : VE := fun st => .ok (.nw (.dcu [] []), st)
theorem de_newU : DE X W (.Dict [] [] pos) vNewU := PE.imp pe_dnewT fun σ H Q ⟨E, F, st, S, q⟩ p hp => by
  obtain ⟨S2, vr⟩ := S.newOwn (m := .dcu [] []) (o := .dT []) hp ⟨[], rfl, ⟨rfl, by simp⟩, rfl⟩
  exact q _ F _ (Same.refl _) (same_new hp) S2 vr
/-! ### d[k] = v -/
def putEndU (i : Nat) (d : D) (st : Sts) (s : Option Sl) (k : D) : R Flow := match s, keyT k with
  | some (.own (.dcu ks vs)), some _ => if ks.length < 16777216 then .ok (.nx (st.set i (.own (putKu ks vs k d)))) else .no
  | _, _ => .no
def kPutU2 (i : Nat) (x : Val) (q : Val × Sts) : R Flow := match x with
  | .fz d => putEndU i d q.2 (q.2[i]?) q.1.d
  | _ => .no
def kPutU (i : Nat) (g : VE) (p : Val × Sts) : R Flow := match p.2[i]? with
  | some (.own (.dcu _ _)) => (g p.2).bind (kPutU2 i p.1)
  | _ => .no
def vPutU (i : Nat) (f g : VE) : VS := fun st => (f st).bind (kPutU i g)
theorem putU_inv {K : PySem.W.Frag} {W : Wx} {E : Ent} {F : Hp} {D : Ends} {i : Nat} {d : Vl.D} {st : Sts} {s : Option Sl} {k : Vl.D} (q : EndS K W E F (putEndU i d st s k) D) :
    ∃ ks vs κ, s = some (.own (.dcu ks vs)) ∧ keyT k = some κ ∧ ks.length < 16777216 ∧ EndS K W E F (.ok (.nx (st.set i (.own (putKu ks vs k d))))) D := by
  unfold putEndU at q
  split at q
  · rename_i ks vs κ hk
    by_cases hl : ks.length < 16777216
    · rw [if_pos hl] at q
      exact ⟨ks, vs, κ, rfl, hk, hl, q⟩
    · rw [if_neg hl] at q; exact q.elim
  · exact q.elim
theorem putU_inv1 {K : PySem.W.Frag} {W : Wx} {E : Ent} {F : Hp} {D : Ends} {i : Nat} {g : VE} {p : Val × Sts} (q : EndS K W E F (kPutU i g p) D) : ∃ ks vs d, p.2[i]? = some (.own (.dcu ks vs)) ∧ EndS K W E F ((g p.2).bind (kPutU2 i p.1)) D ∧ ((∃ c s, g p.2 = .exc c s) ∨ p.1 = .fz d) := by
  unfold kPutU at q
  split at q
  · rename_i ks vs h
    cases e : g p.2 with
    | no => rw [e] at q; exact q.elim
    | exc c s => exact ⟨ks, vs, .non, h, by rw [e] at q; exact q, .inl ⟨c, s, rfl⟩⟩
    | ok r =>
      rw [e, R.bind_ok] at q
      unfold kPutU2 at q
      split at q
      · rename_i d hd
        exact ⟨ks, vs, d, h, by rw [R.bind_ok]; unfold kPutU2; rw [hd]; exact q, .inr hd⟩
      · exact q.elim
  · exact q.elim
theorem ds_putU {i : Nat} {o e ix : Expr} {f g : VE} {pos' : Pos} (hu : X.A.units + 1 < cLine) (ho : PE X o (tVar i)) (he : DE X W e f) (hi : DE X W ix g) (hs : swapsWith e (some (.Subscript o ix pos')) pos.line X.env = pure false := by rfl) :
    DS X W (.Assign [.Subscript o ix pos'] e pos) (vPutU i f g) := PS.imp (ps_dput hu ho hi he hs) fun D σ H ⟨E, F, st, S, q⟩ => by
  refine ⟨E, F, st, S, ?_⟩
  unfold vPutU at q
  cases e1 : f st with
  | no => rw [e1] at q; exact q
  | exc c st' => rw [e1] at q; exact fun F' H' a b S' => q σ F' H' a S'
  | ok p =>
    rw [e1, R.bind_ok] at q
    obtain ⟨x, st1⟩ := p
    intro v F1 H1 a1 b1 S1 vr
    obtain ⟨ks0, vs0, d, e2, q, hx⟩ := putU_inv1 q
    obtain ⟨ad, ea, _⟩ := S1.own i _ e2
    refine ⟨_, ea, E, F1, st1, S1, ?_⟩
    dsimp only at q hx
    cases e3 : g st1 with
    | no => rw [e3] at q; exact q
    | exc c st' => rw [e3] at q; exact fun F' H' a b S' => q σ F' H' (a1.trans a) S'
    | ok p3 =>
      rw [e3, R.bind_ok] at q
      obtain ⟨y, st2⟩ := p3
      intro u F2 H2 a2 b2 S2 ur
      rcases hx with ⟨c, s, z⟩ | hx
      · rw [e3] at z; cases z
      subst hx
      obtain ⟨ks, vs, κ, e4, hk, hl, q5⟩ := putU_inv (show EndS X.K W E F (putEndU i d st2 (st2[i]?) y.d) D from q)
      obtain ⟨ad2, ea2, ow⟩ := S2.own i _ e4
      rw [ea] at ea2
      cases ea2
      obtain ⟨ob, eo, kvs, rfl, r1, r2⟩ := ow.here
      obtain ⟨b, ey, hb, hkt⟩ := tup_key S2.sub (VRel.o S2 ur) hk
      have hkd := keyT_eq hk
      subst ey
      have hlen : kvs.length = ks.length := by rw [r1.1, List.length_map]
      refine ⟨ad, _, rfl, DPut.t eo hb (by rw [hlen, sizeLine_eq]; exact hl), ?_⟩
      have q5 : EndS X.K W E F (.ok (.nx (st2.set i (.own (putKu ks vs y.d d))))) D := q5
      rw [hkd] at q5
      exact q5 σ F2 _ (a1.trans a2) (S2.write e4 ea (mat_putT hkt (Rep.mono a2 _ _ vr) r1 r2))
end
end Vl
namespace Vl
open PySem PySem.Spec PyProof.Rows L2
/-! ## d.get(k, x) of a dict by tuple keys -/
def getEnd (ks vs : List D) (k : D) (r : Val) (st : Sts) : R (Val × Sts) := match keyT k, r with
  | some _, .fz x => .ok (.fz ((getK ks vs k).getD x), st)
  | _, _ => .no
def kGet3 (ks vs : List D) (k : Val) (r : Val × Sts) : R (Val × Sts) := getEnd ks vs k.d r.1 r.2
def kGet2 (h : VE) (ks vs : List D) (q : Val × Sts) : R (Val × Sts) := (h q.2).bind (kGet3 ks vs q.1)
def kGet1 (g h : VE) (p : Val × Sts) : R (Val × Sts) := match p.1.d with
  | .dcu ks vs => (g p.2).bind (kGet2 h ks vs)
  | _ => .no
def vGet (f g h : VE) : VE := fun st => (f st).bind (kGet1 g h)
section
variable {X : Cx} {W : Wx} {pos : Pos}
theorem get_inv {K : PySem.W.Frag} {E : Ent} {F H : Hp} {σ : L2.St} {Q : VK} {ks vs : List D} {k : D} {r : Val} {st : Sts} (q : EndE K W E F H σ (getEnd ks vs k r st) Q) :
    ∃ kk x, keyT k = some kk ∧ r = .fz x ∧ EndE K W E F H σ (.ok (.fz ((getK ks vs k).getD x), st)) Q := by
  unfold getEnd at q
  split at q
  · rename_i kk x h
    exact ⟨kk, x, h, rfl, q⟩
  · exact q.elim
theorem de_get {o e d : Expr} {f g h : VE} {apos cpos : Pos} (hu : X.A.units + 1 < cLine) (ho : DE X W o f) (he : DE X W e g) (hd : DE X W d h) (m : M2 X o "get" apos e d cpos) : DE X W (.Call (.Attribute o "get" apos) [e, d] [] cpos) (vGet f g h) :=
  PE.imp (pe_dget2 hu ho he hd m) fun σ H Q ⟨E, F, st, S, q⟩ => by
  refine seqE (Q := Q) (k := kGet1 g h) S q fun r1 st1 v F1 H1 a b S1 vr k => ?_
  unfold kGet1 at k
  split at k
  · rename_i ks vs hr
    have hr : r1.d = .dcu ks vs := hr
    have hx := VRel.o S1 vr
    rw [hr] at hx
    obtain ⟨ad, kvs, e1, h1, h2, h3⟩ := hx.dcu S1.sub
    refine ⟨ad, e1, .inr ⟨kvs, .inl h1⟩, ?_⟩
    refine seqE (Q := Q) (k := kGet2 h ks vs) S1 k fun r2 st2 u F2 H2 a2 b2 S2 vr2 k2 => ?_
    refine seqE (Q := Q) (k := kGet3 ks vs r2) S2 k2 fun r3 st3 w F3 H3 a3 b3 S3 vr3 k3 => ?_
    have k3 : EndE X.K W E F3 H3 σ (getEnd ks vs r2.d r3 st3) Q := k3
    obtain ⟨kk, x, hk, hx3, k4⟩ := get_inv k3
    subst hx3
    have hy := ORel.mono a3 b3 (VRel.o S2 vr2)
    obtain ⟨b', ey, hb, _⟩ := tup_key S3.sub hy hk
    subst ey
    have g3 := h3
    have h1' := b3 _ _ (b2 _ _ h1)
    refine ⟨valV kvs kk, DGet.t h1' hb, ?_⟩
    obtain ⟨g1, g2⟩ := reps_getT (k := kk) h2.1 (Reps.mono (a2.trans a3) _ _ h3)
    rw [keyT_eq hk] at k4
    cases eg : getK ks vs (tupB kk) with
    | none =>
      rw [g2 eg]
      rw [eg] at k4
      exact k4 w F3 H3 (Same.refl _) (Same.refl _) S3 vr3
    | some dv =>
      obtain ⟨vv, ev, rv⟩ := g1 dv eg
      rw [ev]
      rw [eg] at k4
      exact k4 vv F3 H3 (Same.refl _) (Same.refl _) S3 rv
  · exact k.elim
end
theorem vGet_ap (f g h : VE) (st : Sts) : vGet f g h st = (f st).bind (kGet1 g h) := byDef rfl
def get0 (d : D) (x : List D → List D → R (Val × Sts)) : R (Val × Sts) := match d with
  | .dcu ks vs => x ks vs
  | _ => .no
theorem kGet1_ap (g h : VE) (r : Val) (st : Sts) : kGet1 g h (r, st) = get0 r.d fun ks vs => (g st).bind (kGet2 h ks vs) := by
  unfold kGet1 get0
  cases r.d <;> rfl
theorem get0_ap (ks vs : List D) (x : List D → List D → R (Val × Sts)) : get0 (.dcu ks vs) x = x ks vs := byDef rfl
theorem kGet2_ap (h : VE) (ks vs : List D) (r : Val) (st : Sts) : kGet2 h ks vs (r, st) = (h st).bind (kGet3 ks vs r) := byDef rfl
theorem kGet3_ap (ks vs : List D) (k r : Val) (st : Sts) : kGet3 ks vs k (r, st) = getEnd ks vs k.d r st := byDef rfl
theorem oIxU_lst (ds : List D) (k : D) : oIxU (.lst ds) k = oIxA (.lst ds) k := byDef rfl
theorem oIxU_tup (ds : List D) (k : D) : oIxU (.tup ds) k = oIxA (.tup ds) k := byDef rfl
theorem oIxU_str (ds : List Nat) (k : D) : oIxU (.str ds) k = oIxA (.str ds) k := byDef rfl
theorem oIxU_dct (ks vs : List D) (k : D) : oIxU (.dct ks vs) k = oIxA (.dct ks vs) k := byDef rfl
theorem oIxU_dcu (ks vs : List D) (k : D) : oIxU (.dcu ks vs) k = oGetU ks vs k := byDef rfl
theorem oInU_str (k : D) (x : List Nat) : oInU k (.str x) = oInA k (.str x) := by cases k <;> rfl
theorem oInU_lst (k : D) (x : List D) : oInU k (.lst x) = oInA k (.lst x) := by cases k <;> rfl
theorem oInU_tup (k : D) (x : List D) : oInU k (.tup x) = oInA k (.tup x) := by cases k <;> rfl
theorem vNewU_ap (st : Sts) : vNewU st = .ok (.nw (.dcu [] []), st) := byDef rfl
theorem vPutU_ap (i : Nat) (f g : VE) (st : Sts) : vPutU i f g st = (f st).bind (kPutU i g) := byDef rfl
def put0U (k : Option Sl) (x : R Flow) : R Flow := match k with
  | some (.own (.dcu _ _)) => x
  | _ => .no
theorem kPutU_ap (i : Nat) (g : VE) (r : Val) (st : Sts) : kPutU i g (r, st) = put0U (st[i]?) ((g st).bind (kPutU2 i r)) := byDef rfl
theorem put0U_ap (ks vs : List D) (x : R Flow) : put0U (some (.own (.dcu ks vs))) x = x := byDef rfl
theorem kPutU2_ap (i : Nat) (d : D) (r : Val) (st : Sts) : kPutU2 i (.fz d) (r, st) = putEndU i d st (st[i]?) r.d := byDef rfl
end Vl
/-! sorted(d): the keys of a dict collected, up to the sort -/
namespace Vl
section
open PySem PySem.Spec PyProof.Rows PySem.Calls DT PySem.W
variable {prog : Program} {w : World} {A : Around} {E : Value → Shared → Prop} {s : Shared}
theorem collectK {R : List Value → Shared → Prop} {d : Addr} {n : Nat} {P : Nat → Value → Prop} {OK : Heap → Prop} (K : KdlSrc prog w "dict" d d n P OK) (hh : A.handled = none) (hok : OK s.heap) (hn : n ≤ sizeLine)
    (h : ∀ (h' : Heap) (tk : Nat) (acc' : Array Value), (∀ b o, s.heap.get? b = some o → h'.get? b = some o) → s.heap.objs.size < h'.objs.size → ItemsOf P acc' n → R acc'.toList { s with heap := h', toks := tk }) :
    wpAny (model prog w) A (collect (.ref d)) R E s := by
  have hd : d < s.heap.objs.size := (K.there _ hok).2
  unfold collect
  refine wpAny_bind (wpAny_runValue (codeAny_builtin entry_proto_collect' ?_))
  rw [Around.under_plainId PySem.F.plain_proto_collect _]
  show wpAny _ A.in1 (newList [] >>= fun l => again (.builtin "list.__iadd__" ⟨[l, .ref d], []⟩)) _ _ s
  refine wpAny_bind (wpAny_newObj_type ?_)
  refine wpAny_pure ⟨plainId_quiet PySem.F.plain_list_iadd _, codeAny_builtin entry_list_iadd' ?_⟩
  rw [Around.under_plainId PySem.F.plain_list_iadd _]
  have hS₁ : (s.heap.push { cls := .type "list", data := .seq ([] : List Value).toArray }).get? s.heap.objs.size = some { cls := .type "list", data := .seq #[] } := Heap.get?_push_size _ rfl
  show wpAny _ A.in1 (Builtin.List.listExtendWith (.ref s.heap.objs.size) (.ref d) (.ref s.heap.objs.size)) _ _ _
  have key := kdl_extend (prog := prog) (w := w) (A := A) (s := { s with heap := s.heap.push { cls := .type "list", data := .seq ([] : List Value).toArray } })
    (R := fun (q : Result) (s' : Shared) => ∃ (h' : Heap) (tk : Nat) (acc' : Array Value) (c' : Nat), q = .ok (.ret (.ref s.heap.objs.size)) ∧ s' = { s with heap := h', toks := tk } ∧
      (∀ b o, s.heap.get? b = some o → h'.get? b = some o) ∧ h'.get? s.heap.objs.size = some { cls := .type "list", dict := none, data := .seq acc' c', slots := #[] } ∧ ItemsOf P acc' n)
    K hh (K.keep _ _ hok fun b _ o e => Heap.get?_push_of_some _ e) s.heap.objs.size (Nat.ne_of_gt hd) (Nat.ne_of_gt hd) (.ref s.heap.objs.size) 0 hS₁
    (fun h' tk acc' c' hk hS' hacc => ⟨h', tk, acc', c', rfl, rfl, fun b o e => hk b o (Nat.ne_of_lt (Heap.lt_size e)) (Heap.get?_push_of_some _ e), hS', hacc⟩) hn
  refine wpAny_mono key (fun fin s' x => ?_) fun e s' x => ?_
  · cases fin with
    | done f =>
      obtain ⟨h', tk, acc', c', e, rfl, hk, hS', hacc⟩ := x
      cases e
      show wpAny _ A (load s.heap.objs.size >>= _) _ _ _
      refine wpAny_bind (wpAny_load hS' ?_)
      refine wpAny_pure ?_
      exact h h' tk acc' hk (Heap.lt_size hS') hacc
    | again c₁ =>
      refine ⟨x.1, codeAny_mono x.2 fun q s₂ y => ?_⟩
      obtain ⟨h', tk, acc', c', rfl, rfl, hk, hS', hacc⟩ := y
      show wpAny _ A (load s.heap.objs.size >>= _) _ _ _
      refine wpAny_bind (wpAny_load hS' ?_)
      refine wpAny_pure ?_
      exact h h' tk acc' hk (Heap.lt_size hS') hacc
  · obtain ⟨_, _, _, _, e', _⟩ := x
    cases e'
/-- sorted(d) up to the sort of the keys -/
theorem sortedK {Q : Value → Shared → Prop} {d : Addr} {n : Nat} {P : Nat → Value → Prop} {OK : Heap → Prop} (K : KdlSrc prog w "dict" d d n P OK) (hh : A.handled = none) (hok : OK s.heap) (hn : n ≤ sizeLine)
    (h : ∀ (h' : Heap) (tk : Nat) (acc' : Array Value), (∀ b o, s.heap.get? b = some o → h'.get? b = some o) → s.heap.objs.size < h'.objs.size → ItemsOf P acc' n →
      wpAny (model prog w) A.in1 (call (.builtin "list.sort") [.ref h'.objs.size]) (fun _ s' => Q (.ref h'.objs.size) s') E { s with heap := h'.push { cls := .type "list", data := .seq acc'.toList.toArray }, toks := tk }) :
    wpAny (model prog w) A (call (.builtin "sorted") [.ref d]) Q E s := by
  refine call_function_entry kind_sorted plain_sorted entry_sorted (args_sorted1 _) ?_
  unfold Builtin.«sorted»
  refine wpAny_bind (m := checkCount "sorted" 1 1 _) (wpAny_pure ?_)
  refine wpAny_bind (collectK (A := A.in1) K hh hok hn fun h' tk acc' hk hlt hacc => ?_)
  refine wpAny_bind (wpAny_newList ?_ (by rw [Array.length_toList, hacc.1]; exact hn))
  have hg := h h' tk acc' hk hlt hacc
  refine wpAny_bind (wpAny_holding (wpAny_mono hg (fun _ s' x => ?_) fun _ _ e => e))
  exact wpAny_pure ⟨_, rfl, x⟩
/-- the sort of a list that was just made, of tuples -/
theorem list_sort_new {β : Type} {vs : List Value} {bs : List β} {enc : β → PyData} {R : Value → β → Prop} {h' : Heap} {tk : Nat} {Q : Value → Shared → Prop} (e : EachIs R vs bs) (er : EachIs (fun v b => ∃ as, Reads h' v (enc b) as) vs bs) (hal : AllAlike (bs.map enc)) (ht : ∀ b ∈ bs, ∃ xs, enc b = .tuple xs) (hL : bs.length ≤ sizeLine)
    (hu : ∀ b, b ∈ bs → A.units + 1 + (enc b).depth < cLine) (h : ∀ out, out.length = bs.length → EachIs R out (bs.mergeSort (dataLe false enc)) → Q .none { s with heap := sortedHeap (h'.push (seqObj "list" vs.toArray 0)) h'.objs.size vs (List.toArray out), toks := tk }) :
    wpAny (model prog w) A (call (.builtin "list.sort") [.ref h'.objs.size]) Q E { s with heap := h'.push (seqObj "list" vs.toArray 0), toks := tk } := by
  have ho : (h'.push (seqObj "list" vs.toArray 0)).get? h'.objs.size = some (seqObj "list" vs.toArray 0) := Heap.get?_push_size _ rfl
  have er' : EachIs (fun v b => ∃ as, Reads (sortingHeap (h'.push (seqObj "list" vs.toArray 0)) h'.objs.size vs) v (enc b) as) vs bs := er.mono fun _ _ ⟨as, r⟩ => ⟨as, PyProof.Rows.Reads.keeps (fun _ _ q => sortingHeap_old (Nat.ne_of_lt (Heap.lt_size q)) (Heap.get?_push_of_some _ q)) r⟩
  have ht' : ∀ d, d ∈ bs.map enc → ∃ xs, d = .tuple xs := fun d hd => by
    obtain ⟨b, hb, rfl⟩ := List.mem_map.mp hd
    exact ht b hb
  refine wpAny_call_entry slot_list_sort ⟨_, ho, rfl⟩ entry_list_sort (list_sort_vals (s := { s with heap := h'.push (seqObj "list" vs.toArray 0), toks := tk }) (κ := dataKind (sortingHeap (h'.push (seqObj "list" vs.toArray 0)) h'.objs.size vs) (bs.map enc)) ho
    (sorts_tups (s := { s with heap := sortingHeap (h'.push (seqObj "list" vs.toArray 0)) h'.objs.size vs, toks := tk }) (each_map (R := fun v d => ∃ as, Reads (sortingHeap (h'.push (seqObj "list" vs.toArray 0)) h'.objs.size vs) v d as) enc er') hal ht' (bound_map hu)) (by rw [e.length]; exact hL) ⟨.none, rfl, ?_⟩) (args_list_sort _)
  exact h _ (by rw [sortVals_length false rfl]; exact e.length) (sortVals_data false e er' hal)
end
end Vl
/-! sorted(d) of a dict by tuple keys -/
namespace Vl
open PySem PySem.Spec PyProof.Rows L2
theorem each_right {α β : Type} {R : α → β → Prop} : ∀ {as : List α} {bs : List β}, PySem.W.EachIs R as bs → ∀ b ∈ bs, ∃ a, R a b
  | _, _, .nil, b, hb => by cases hb
  | _, _, .cons h t, b, hb => by
    rcases List.mem_cons.mp hb with rfl | hb
    · exact ⟨_, h⟩
    · exact each_right t b hb
theorem freezeKeys {K : PySem.W.Frag} {E : Ent} {H : Hp} {st : Sts} {σ : L2.St} {F : Hp} (S : Sim K E F H st σ) : ∀ {kvs : List (List Key × V)} {bs : List Addr}, IsKeys H kvs bs → (∀ p ∈ kvs, ∀ κ ∈ p.1, KeyTx κ) →
    ∃ F', Same F F' ∧ Sim K E F' H st σ ∧ PySem.W.EachIs (fun u (p : D × V) => RelV p.2 u ∧ Rep K F' p.1 p.2) (bs.map Value.ref) ((kvs.map fun p => tupB p.1).zip (bs.map V.ref)) ∧ bs.length = kvs.length
  | _, _, .nil, _ => ⟨F, Same.refl _, S, .nil, rfl⟩
  | _, _, .cons (a := p) (b := b) h t, hk => by
    obtain ⟨F1, a1, S1, e1, l1⟩ := freezeKeys S t fun q hq => hk q (List.mem_cons_of_mem _ hq)
    have a2 : Same F1 (upd F1 b (.tup (p.1.map kV))) := same_upd_of S1.sub h
    refine ⟨_, a1.trans a2, S1.freezeTup h, ?_, by rw [List.length_cons, List.length_cons, l1]⟩
    rw [List.map_cons, List.map_cons, List.map_cons, List.zip_cons_cons]
    exact .cons ⟨rfl, rep_tupB upd_same (hk p List.mem_cons_self)⟩ (e1.mono fun u q hq => ⟨hq.1, Rep.mono a2 _ _ hq.2⟩)
def oSortedU : List D → Option Val
  | [.dcu ks _] => if ks.all isTupS = true then some (.nw (.lst (sortD ks))) else none
  | ds => oSorted ds
theorem cut_butlast {α : Type} (l : List α) : cut l none (some (-1)) = l.take (l.length - 1) := by
  unfold cut
  rw [HT.sIx_none, List.drop_zero, Nat.sub_zero]
  show l.take (if (-1 : Int) < 0 then ((-1 : Int) + (l.length : Int)).toNat else min (-1 : Int).toNat l.length) = _
  rw [if_pos (by decide)]
  congr 1
  omega
theorem atI_one (a b : D) (l : List D) : L2.atI (a :: b :: l) 1 = some b := L2.atI_nat (j := 1) rfl
theorem atI_two (a b c : D) (l : List D) : L2.atI (a :: b :: c :: l) 2 = some c := L2.atI_nat (j := 2) rfl
theorem atI_three (a b c d : D) (l : List D) : L2.atI (a :: b :: c :: d :: l) 3 = some d := L2.atI_nat (j := 3) rfl
theorem atI_four (a b c d e : D) (l : List D) : L2.atI (a :: b :: c :: d :: e :: l) 4 = some e := L2.atI_nat (j := 4) rfl
theorem atI_five (a b c d e f : D) (l : List D) : L2.atI (a :: b :: c :: d :: e :: f :: l) 5 = some f := L2.atI_nat (j := 5) rfl
theorem atI_six (a b c d e f g : D) (l : List D) : L2.atI (a :: b :: c :: d :: e :: f :: g :: l) 6 = some g := L2.atI_nat (j := 6) rfl
theorem atI_seven (a b c d e f g h : D) (l : List D) : L2.atI (a :: b :: c :: d :: e :: f :: g :: h :: l) 7 = some h := L2.atI_nat (j := 7) rfl
section
variable {X : Cx}
theorem callSortedU (hc : X.calm = true) (hu : X.A.units + 65 < cLine) : CallR X (.builtin "sorted") (rDN X.K oSortedU) := by
  intro pins s σ H xs us Q I r ⟨E, F, st, σ', ds, res, S, hx, e, p⟩
  have old : oSorted ds = some res → wpAny (model X.prog X.w) X.A (call (.builtin "sorted") us) (EP X pins σ Q) X.xe s := fun e' => callSorted hu pins s σ H xs us Q I r ⟨E, F, st, σ', ds, res, S, hx, e', p⟩
  match ds, e with
  | [.dcu ks ws], e =>
    obtain ⟨v, rfl, h⟩ := hx.one
    obtain ⟨d, kvs, rfl, h1, h2, h3⟩ := h.dcu S.sub
    have e : (if ks.all isTupS = true then some (Val.nw (.lst (sortD ks))) else none) = some res := e
    by_cases hok : ks.all isTupS = true
    · rw [if_pos hok] at e
      cases e
      rw [Vals.ref1 r]
      obtain ⟨z, hs, kl, pr, o, es, ep, ho, hxd, hdt, he, hn⟩ := (show ObjOk X.prog X.w H s.heap d (.dT kvs) from I.hok d _ h1)
      have l1 : es.size = kl.length := size_of_entries he
      have l2 : kvs.length = kl.length := Paired.length pr
      have hik : IsKeys H kvs (kl.map fun x => x.2.1) := isKeys_of pr
      obtain ⟨F', a', S', eb, lb⟩ := freezeKeys S hik h2.2
      rw [← h2.1] at eb
      have lk : ks.length = kvs.length := by rw [h2.1, List.length_map]
      refine sortedK (A := X.A) (kdl_raw hs hxd hdt) (I.ok.hd hc) ho (by omega) fun h' tk acc' kp hlt it => ?_
      have ea : acc'.toList = (kl.map fun x => x.2.1).map Value.ref := by
        have hl : acc'.toList.length = kl.length := by rw [Array.length_toList, it.1]; exact l1
        rw [List.map_map]
        apply List.ext_getElem?
        intro j
        rw [List.getElem?_map]
        cases hj : acc'.toList[j]? with
        | none =>
          have h1 := List.getElem?_eq_none_iff.mp hj
          rw [List.getElem?_eq_none (by omega)]
          all_goals rfl
        | some v =>
          obtain ⟨en, hen, hv⟩ := it.2 j v (by rw [← Array.getElem?_toList]; exact hj)
          have qe := entry_at he j
          rw [hen] at qe
          cases hb : kl[j]? with
          | none =>
            rw [hb] at qe
            exact nomatch (show some en = none from qe)
          | some b =>
            rw [hb] at qe
            have e2 : en = entryOfKey (tupleKind (mixKind X.prog X.w)) b := Option.some.inj qe
            rw [hv, e2]
            all_goals rfl
      have I' : Inv X pins σ H { s with heap := h', toks := tk } := I.kept kp
      rw [ea]
      generalize hbs : (ks.zip ((kl.map fun x => x.2.1).map V.ref)) = bs at eb
      have blen : bs.length = ks.length := by rw [← hbs, List.length_zip, List.length_map]; omega
      have hmap : bs.map (·.1) = ks := by rw [← hbs]; exact map_fst_zip (by rw [List.length_map]; omega)
      have hmem : ∀ b ∈ bs, b.1 ∈ ks := fun b hb => by rw [← hmap]; exact List.mem_map.mpr ⟨b, hb, rfl⟩
      have hT : ∀ d ∈ ks, isTupS d = true := List.all_eq_true.mp hok
      have hlay : ∀ d ∈ ks, D.lay 2 d = true := fun d hd => by
        have := hT d hd
        cases d <;> first | cases this | skip
        exact lay_strs this
      have hal : PySem.W.AllAlike (bs.map fun p => p.1.py) := by
        intro d hd d' hd'
        obtain ⟨b, hb, rfl⟩ := List.mem_map.mp hd
        obtain ⟨b', hb', rfl⟩ := List.mem_map.mp hd'
        have q1 := hT _ (hmem b hb)
        have q2 := hT _ (hmem b' hb')
        generalize b.1 = x at q1 ⊢
        generalize b'.1 = y at q2 ⊢
        cases x <;> first | cases q1 | skip
        cases y <;> first | cases q2 | skip
        show PySem.W.alikeAll (D.pys _) (D.pys _) = true
        exact alike_strs q1 q2
      have er : PySem.W.EachIs (fun u (b : D × V) => ∃ as, Reads h' u b.1.py as) ((kl.map fun x => x.2.1).map Value.ref) bs :=
        (PySem.W.each_mem eb).mono fun u b q => Dp.reads I' b.1.py b.2 u (Rep.dp 2 b.1 b.2 (hlay _ (hmem b q.2)) (Rep.mono S'.sub _ _ q.1.2)) q.1.1
      have hrep : ∀ b ∈ bs, Rep X.K F' b.1 b.2 := fun b hb => by
        obtain ⟨u, hq⟩ := each_right eb b hb
        exact hq.2
      have hdep : ∀ b, b ∈ bs → X.A.in1.units + 1 + (b.1.py).depth < cLine := fun b hb => by
        have := (D.depth_lay 2 b.1 b.2 (hlay _ (hmem b hb)) (hrep b hb)).1
        have hu2 : X.A.in1.units ≤ X.A.units + 1 := by first | exact Nat.le_refl _ | (simp [Around.in1, Around.units]; done)
        omega
      have hzz : bs.length ≤ sizeLine := by rw [blen, lk, l2]; omega
      refine list_sort_new (A := X.A.in1) eb er hal (fun b hb => ?_) hzz hdep fun out ol eo => ?_
      · have q1 := hT _ (hmem b hb)
        generalize b.1 = x at q1 ⊢
        cases x <;> first | cases q1 | skip
        exact ⟨_, rfl⟩
      · obtain ⟨q1, q2⟩ := each_vals eo
        have em : (bs.mergeSort (PySem.W.dataLe false fun p => p.1.py)).map (·.1) = sortD ks := by
          have hm := List.map_mergeSort (r := PySem.W.dataLe false fun p : D × V => p.1.py) (s := leD) (f := fun p : D × V => p.1) (l := bs) (fun a _ b _ => rfl)
          rw [hmap] at hm
          exact hm
        rw [em] at q2
        have hg0 : (h'.push (seqObj "list" ((kl.map fun x => x.2.1).map Value.ref).toArray 0)).get? h'.objs.size = some (seqObj "list" ((kl.map fun x => x.2.1).map Value.ref).toArray 0) := Heap.get?_push_size _ rfl
        obtain ⟨e2, he2⟩ := PyProof.Rows.sortedHeap_at (out := out.toArray) hg0
        have hl2 : ((bs.mergeSort (PySem.W.dataLe false fun p => p.1.py)).map (·.2)).length ≤ sizeLine := by
          rw [List.length_map, List.length_mergeSort]; exact hzz
        have ha : s.heap.objs.size ≤ h'.objs.size := Nat.le_of_lt hlt
        have hfr : H h'.objs.size = none := I.hok.fresh ha
        obtain ⟨S2, vr⟩ := S'.newOwn (m := .lst (sortD ks)) (o := .lst ((bs.mergeSort (PySem.W.dataLe false fun p => p.1.py)).map (·.2))) hfr ⟨_, rfl, q2⟩
        refine ⟨.ref _, upd H h'.objs.size (.lst _), I.laid (t' := tk) (fun b u hb => ?_) ha ⟨hl2, out, e2, q1, he2⟩, rfl, p _ F' _ a' (same_new hfr) S2 vr⟩
        have hb' := kp b u hb
        exact (sortedHeap_old (Nat.ne_of_lt (Heap.lt_size hb')) (by rw [size_push']; exact Nat.lt_succ_of_lt (Heap.lt_size hb'))).trans (Heap.get?_push_of_some _ hb')
    · rw [if_neg hok] at e; cases e
  | [], e => exact old e
  | .non :: _, e => exact old (by cases ‹List D› <;> exact e)
  | .bl _ :: _, e => exact old (by cases ‹List D› <;> exact e)
  | .int _ :: _, e => exact old (by cases ‹List D› <;> exact e)
  | .str _ :: _, e => exact old (by cases ‹List D› <;> exact e)
  | .tup _ :: _, e => exact old (by cases ‹List D› <;> exact e)
  | .lst _ :: _, e => exact old (by cases ‹List D› <;> exact e)
  | .dct _ _ :: _, e => exact old (by cases ‹List D› <;> exact e)
  | .dcu _ _ :: _ :: _, e => exact old e
end
end Vl
/-! slices with a step, max(.., default=), tuples by <, pop(i) -/
namespace Vl
open PySem PySem.Spec PyProof.Rows L2
/-! ### xs[lo:hi:st] of a list -/
def pickL {α : Type} (l : List α) (lo hi st : Option Int) : List α :=
  (sliceRange (sliceBounds lo hi st l.length).1 (sliceBounds lo hi st l.length).2.1 (sliceBounds lo hi st l.length).2.2).filterMap (l[·]?)
theorem pickL_map {α β : Type} (f : α → β) (l : List α) (lo hi st : Option Int) : pickL (l.map f) lo hi st = (pickL l lo hi st).map f := by
  unfold pickL
  rw [List.length_map, List.map_filterMap]
  refine congrArg (fun g => List.filterMap g _) (funext fun i => ?_)
  rw [List.getElem?_map]
theorem pickL_mem {α : Type} {l : List α} {lo hi st : Option Int} {a : α} (h : a ∈ pickL l lo hi st) : a ∈ l := by
  unfold pickL at h
  obtain ⟨i, _, e⟩ := List.mem_filterMap.mp h
  exact List.mem_of_getElem? e
theorem pick_arr (l : List Value) (lo hi st : Option Int) : slicePick l.toArray lo hi st = (pickL l lo hi st).toArray := by
  unfold slicePick pickL
  rw [List.size_toArray]
  congr 2
  funext i
  rw [List.getElem?_toArray]
theorem pickL_len {α : Type} (l : List α) (lo hi st : Option Int) : (pickL l lo hi st).length ≤ l.length := by
  have h := slicePick_size_le (l.map fun _ => Value.none).toArray lo hi st
  rw [pick_arr, List.size_toArray, List.size_toArray, pickL_map, List.length_map, List.length_map] at h
  exact h
theorem vals_at {vs : List V} {us : List Value} (r : Vals vs us) (i : Nat) : (∃ v u, vs[i]? = some v ∧ us[i]? = some u ∧ RelV v u) ∨ (vs[i]? = none ∧ us[i]? = none) := by
  cases h : vs[i]? with
  | some v =>
    obtain ⟨u, h1, h2⟩ := r.get h
    exact .inl ⟨v, u, rfl, h1, h2⟩
  | none =>
    have := List.getElem?_eq_none_iff.mp h
    exact .inr ⟨rfl, List.getElem?_eq_none (by rw [← r.length]; exact this)⟩
theorem Vals.pick {vs : List V} {us : List Value} (r : Vals vs us) (lo hi st : Option Int) : Vals (pickL vs lo hi st) (pickL us lo hi st) := by
  unfold pickL
  rw [r.length]
  generalize sliceRange _ _ _ = is
  induction is with
  | nil => exact .nil
  | cons i is ih =>
    rw [List.filterMap_cons, List.filterMap_cons]
    rcases vals_at r i with ⟨v, u, h1, h2, h3⟩ | ⟨h1, h2⟩
    · rw [h1, h2]; exact .cons h3 ih
    · rw [h1, h2]; exact ih
theorem Reps.pick {K : PySem.W.Frag} {F : Hp} {ds : List D} {vs : List V} (h : Reps K F ds vs) (lo hi st : Option Int) : Reps K F (pickL ds lo hi st) (pickL vs lo hi st) := by
  unfold pickL
  rw [h.length]
  generalize sliceRange _ _ _ = is
  induction is with
  | nil => rfl
  | cons i is ih =>
    rw [List.filterMap_cons, List.filterMap_cons]
    cases e : ds[i]? with
    | some d =>
      obtain ⟨v, h1, h2⟩ := Reps.get h e
      rw [h1]
      exact ⟨v, _, rfl, h2, ih⟩
    | none =>
      have := List.getElem?_eq_none_iff.mp e
      rw [List.getElem?_eq_none (by rw [h.length]; exact this)]
      exact ih
def oSl3 (d : D) (lo hi st : Option Int) : Option Val := match d, st with
  | .lst ds, some s => if s = 0 then none else some (.nw (.lst (pickL ds lo hi (some s))))
  | _, _ => none
def kSS4 (x : Val) (lo hi : Option Int) (r : Option Int × Sts) : R (Val × Sts) := give (oSl3 x.d lo hi r.1) r.2
def kSS3 (s : VO) (x : Val) (lo : Option Int) (r : Option Int × Sts) : R (Val × Sts) := (s r.2).bind (kSS4 x lo r.1)
def kSS2 (h s : VO) (x : Val) (q : Option Int × Sts) : R (Val × Sts) := (h q.2).bind (kSS3 s x q.1)
def kSS (l h s : VO) (p : Val × Sts) : R (Val × Sts) := (l p.2).bind (kSS2 h s p.1)
def vSlS (f : VE) (l h s : VO) : VE := fun st => (f st).bind (kSS l h s)
theorem vSlS_ap (f : VE) (l h s : VO) (st : Sts) : vSlS f l h s st = (f st).bind (kSS l h s) := byDef rfl
theorem kSS_ap (l h s : VO) (r : Val) (st : Sts) : kSS l h s (r, st) = (l st).bind (kSS2 h s r) := byDef rfl
theorem kSS2_ap (h s : VO) (x : Val) (lo : Option Int) (st : Sts) : kSS2 h s x (lo, st) = (h st).bind (kSS3 s x lo) := byDef rfl
theorem kSS3_ap (s : VO) (x : Val) (lo hi : Option Int) (st : Sts) : kSS3 s x lo (hi, st) = (s st).bind (kSS4 x lo hi) := byDef rfl
theorem kSS4_ap (x : Val) (lo hi s : Option Int) (st : Sts) : kSS4 x lo hi (s, st) = give (oSl3 x.d lo hi s) st := byDef rfl
theorem oSl3_lst (ds : List D) (lo hi : Option Int) (s : Int) : oSl3 (.lst ds) lo hi (some s) = if s = 0 then none else some (.nw (.lst (pickL ds lo hi (some s)))) := byDef rfl
theorem sl3_inv {d : D} {lo hi st : Option Int} {res : Val} (h : oSl3 d lo hi st = some res) : ∃ ds s, d = .lst ds ∧ st = some s ∧ s ≠ 0 ∧ res = .nw (.lst (pickL ds lo hi (some s))) := by
  unfold oSl3 at h
  split at h
  · rename_i ds s
    by_cases hs : s = 0
    · rw [if_pos hs] at h; cases h
    · rw [if_neg hs] at h
      cases h
      exact ⟨ds, s, rfl, rfl, hs, rfl⟩
  · cases h
section
variable {X : Cx} {W : Wx} {pos : Pos}
theorem seqO {K : PySem.W.Frag} {W : Wx} {E : Ent} {F H : Hp} {st : Sts} {σ : L2.St} {f : VO} {k : Option Int × Sts → R (Val × Sts)} {Q : VK} {B : Option Int → Hp → Prop} (S : Sim K E F H st σ) (q : EndE K W E F H σ ((f st).bind k) Q)
    (h : ∀ r st1 F1 H1, Same F F1 → Same H H1 → Sim K E F1 H1 st1 σ → EndE K W E F1 H1 σ (k (r, st1)) Q → B r H1) : upO K W f σ H B := by
  refine ⟨E, F, st, S, ?_⟩
  cases e : f st with
  | no => rw [e] at q; exact q.elim
  | exc c st' => rw [e] at q; exact q
  | ok p =>
    rw [e, R.bind_ok] at q
    obtain ⟨r, st1⟩ := p
    intro F' H' a b S'
    refine h r st1 F' H' a b S' ?_
    cases e2 : k (r, st1) with
    | no => rw [e2] at q; exact q.elim
    | exc c st' => rw [e2] at q; exact fun F2 H2 a2 b2 S2 => q F2 H2 (a.trans a2) (b.trans b2) S2
    | ok p2 =>
      rw [e2] at q
      obtain ⟨x, st2⟩ := p2
      exact fun v F2 H2 a2 b2 S2 vr => q v F2 H2 (a.trans a2) (b.trans b2) S2 vr

def tSlS (K : PySem.W.Frag) (te : TE) (tl th ts : TO) : TE := fun σ H Q => te σ H fun x H1 => tl σ H1 fun lo H2 => th σ H2 fun hi H3 => ts σ H3 fun st H4 => ∃ a xs, x = .ref a ∧ SqL K H4 a xs ∧ st ≠ some 0 ∧ ∀ p, H4 p = none → Q (.ref p) (upd H4 p (.lst (pickL xs lo hi st)))
theorem pe_slS {e se : Expr} {lo hi : Option Expr} {te : TE} {tl th ts : TO} {p2 : Pos} (he : PE X e te) (hl : PO X lo tl) (hh : PO X hi th) (hs : PO X (some se) ts) : PE X (.Subscript e (.Slice lo hi (some se) p2) pos) (tSlS X.K te tl th ts) := by
  refine ⟨fun pins s σ H Q I h => ?_⟩
  refine Subscript_ (thn (he.run pins s σ H _ I h) fun v s1 ⟨x, H1, I1, r1, q1⟩ => ?_)
  refine wpAny_Slice (thn (hl.run pins s1 σ H1 _ I1 q1) fun vl s2 ⟨l, H2, I2, pl, q2⟩ => thn (hh.run pins s2 σ H2 _ I2 q2) fun vu s3 ⟨u, H3, I3, pu, q3⟩ => thn (hs.run pins s3 σ H3 _ I3 q3) fun vs s4 ⟨o, H4, I4, ps, q4⟩ => ?_)
  obtain ⟨a, xs, ex, hx, h0, q⟩ := q4
  subst ex
  cases r1
  have I5 : Inv X pins σ H4 { s4 with heap := s4.heap.push { cls := .type "slice", data := .fields #[vl, vu, vs] } } := I4.kept (t' := s4.toks) fun b ob q => Heap.get?_push_of_some _ q
  obtain ⟨its, r, ht, hz⟩ := I5.list hx
  have hlen := r.length
  show wpAny (model X.prog X.w) X.A (subscriptTail e (.Slice lo hi (some se) p2) (.ref a) (.ref s4.heap.objs.size)) (EP X pins σ Q) X.xe { s4 with heap := s4.heap.push { cls := .type "slice", data := .fields #[vl, vu, vs] } }
  refine tail_any (ops := [.ref a, .ref s4.heap.objs.size]) ht.isList.typeIs (PySem.slot_list_getitem.lookup) ?_ (by with_unfolding_all rfl)
  refine wpAny_getItem_list_slice ht.isList (Heap.IsSliceOf.new _ vl vu vs) pl pu ps h0 ?_ (by rw [List.size_toArray]; omega)
  rw [pick_arr]
  refine ⟨.ref _, _, I5.laid (t' := s4.toks) (o := .lst (pickL xs l u o)) (fun b ob q => Heap.get?_push_of_some _ q) (Nat.le_refl _) ?_, rfl, q _ (I5.hok.fresh (Nat.le_refl _))⟩
  exact ⟨Nat.le_trans (pickL_len _ _ _ _) hz, _, 0, Vals.pick r _ _ _, Heap.get?_push_size _ rfl⟩
theorem de_slS {e se : Expr} {lo hi : Option Expr} {f : VE} {l h s : VO} {p2 : Pos} (he : DE X W e f) (hl : DO X W lo l) (hh : DO X W hi h) (hs : DO X W (some se) s) : DE X W (.Subscript e (.Slice lo hi (some se) p2) pos) (vSlS f l h s) :=
  PE.imp (pe_slS he hl hh hs) fun σ H Q ⟨E, F, st, S, q⟩ => by
  refine seqE (Q := Q) (k := kSS l h s) S q fun r1 st1 v F1 H1 a b S1 vr k => ?_
  refine seqO (Q := Q) (k := kSS2 h s r1) S1 k fun lo st2 F2 H2 a2 b2 S2 k => ?_
  refine seqO (Q := Q) (k := kSS3 s r1 lo) S2 k fun hi st3 F3 H3 a3 b3 S3 k => ?_
  refine seqO (Q := Q) (k := kSS4 r1 lo hi) S3 k fun st st4 F4 H4 a4 b4 S4 k => ?_
  have k : EndE X.K W E F4 H4 σ (give (oSl3 r1.d lo hi st) st4) Q := k
  cases e3 : oSl3 r1.d lo hi st with
  | none => rw [e3] at k; exact k.elim
  | some res =>
    rw [e3] at k
    obtain ⟨ds, s', ed, es, h0, er⟩ := sl3_inv e3
    subst es er
    have hx := ORel.mono (a2.trans (a3.trans a4)) (b2.trans (b3.trans b4)) (VRel.o S1 vr)
    rw [ed] at hx
    obtain ⟨ad, vs, e1, h1, r1'⟩ := hx.lst S4.sub
    refine ⟨ad, vs, e1, h1, fun z => h0 (Option.some.inj z), fun p hp => ?_⟩
    obtain ⟨S5, vr5⟩ := S4.newOwn (m := .lst (pickL ds lo hi (some s'))) (o := .lst (pickL vs lo hi (some s'))) hp ⟨_, rfl, r1'.pick _ _ _⟩
    exact k _ F4 _ (Same.refl _) (same_new hp) S5 vr5
/-! ### max(list, default=d) of whole numbers -/
def intsI : List D → Option (List Int)
  | [] => some []
  | .int i :: ds => (intsI ds).map (i :: ·)
  | _ => none
def maxI : List Int → Int → Int
  | [], d => d
  | i :: is, _ => is.foldl max i
def oMaxD : D → D → Option Val
  | .lst ds, .int d => (intsI ds).map fun is => .fz (.int (maxI is d))
  | _, _ => none
theorem intsI_map (is : List Int) : intsI (is.map D.int) = some is := by
  induction is with
  | nil => rfl
  | cons i is ih =>
    show (intsI (is.map D.int)).map (i :: ·) = _
    rw [ih]; rfl
theorem oMaxD_ints (is : List Int) (d : Int) : oMaxD (.lst (is.map D.int)) (.int d) = some (.fz (.int (maxI is d))) := by
  show (intsI (is.map D.int)).map _ = _
  rw [intsI_map]; rfl
theorem intsI_eq : ∀ {ds : List D} {is : List Int}, intsI ds = some is → ds = is.map D.int
  | [], is, h => by cases h; rfl
  | d :: ds, is, h => by
    cases d with
    | int i =>
      obtain ⟨js, h1, h2⟩ := Option.map_eq_some_iff.mp (show (intsI ds).map (i :: ·) = some is from h)
      rw [← h2, List.map_cons, ← intsI_eq h1]
    | _ => cases h
def kMD3 (x : Val) (r : Val × Sts) : R (Val × Sts) := give (oMaxD x.d r.1.d) r.2
def kMD (g : VE) (p : Val × Sts) : R (Val × Sts) := (g p.2).bind (kMD3 p.1)
def vMaxD (f g : VE) : VE := fun st => (f st).bind (kMD g)
theorem vMaxD_ap (f g : VE) (st : Sts) : vMaxD f g st = (f st).bind (kMD g) := byDef rfl
theorem kMD_ap (g : VE) (r : Val) (st : Sts) : kMD g (r, st) = (g st).bind (kMD3 r) := byDef rfl
theorem kMD3_ap (x r : Val) (st : Sts) : kMD3 x (r, st) = give (oMaxD x.d r.d) st := byDef rfl
def rMaxD (K : PySem.W.Frag) : List V → List V → Hp → VK → Prop := fun xs zs H Q => ∃ (a : Addr) (is : List Int) (d : V), xs = [.ref a] ∧ zs = [d] ∧ SqL K H a (is.map V.int) ∧ (is = [] → Q d H) ∧ ∀ i js, is = i :: js → Q (.int (js.foldl max i)) H
theorem callMaxD (hc : X.calm = true) (hu : X.A.units + 3 < cLine) : CallRK X (.builtin "max") [Str.ofString "default"] (rMaxD X.K) := by
  intro pins s σ H xs zs us ws Q I rx rz ⟨a, is, d, ex, ez, hs, q1, q2⟩
  subst ex ez
  rw [Vals.ref1 rx]
  obtain ⟨w, ew, rw'⟩ := rz.one
  subst ew
  obtain ⟨its, r, hl, hz⟩ := I.list hs
  have hi : IntsAre its is := intsAre_of r
  have hr : ∀ {its : List Value} {is : List Int}, IntsAre its is → ReadsAll s.heap its (is.map PyData.int) [] := by
    intro its is h
    induction h with
    | nil => exact .nil
    | cons n t _ ih => exact .cons (as := []) (bs := []) (.int _ _) ih
  have hd : PyData.depthAll (is.map PyData.int) ≤ 1 := by
    clear q1 q2 hs hi r hl hz
    induction is with
    | nil => exact Nat.zero_le _
    | cons i is ih => simp [PyData.depthAll, PyData.depth]; omega
  have hal : PySem.W.AlikeAll (is.map PyData.int) := by
    refine ⟨fun x hx y hy => ?_, fun x hx => ?_⟩
    · obtain ⟨i, _, rfl⟩ := List.mem_map.mp hx
      obtain ⟨j, _, rfl⟩ := List.mem_map.mp hy
      rfl
    · obtain ⟨i, _, rfl⟩ := List.mem_map.mp hx
      exact fun z => nomatch z
  refine PySem.W.max_list_default (I.ok.hd hc) hl.isList (by rw [List.toList_toArray]; exact hr hi) hal (by omega) (fun h0 h' tk kp => ?_) fun y ys i v h' tk bs e1 e2 e3 kp => ?_
  · have : is = [] := by simpa using h0
    exact ⟨d, H, I.kept kp, rw', q1 this⟩
  · cases is with
    | nil => cases e1
    | cons j js =>
      rw [List.map_cons] at e1
      injection e1 with e4 e5
      subst e4 e5
      rw [PySem.W.maxD_ints] at e3
      cases e3 with
      | int => exact ⟨.int _, H, I.kept kp, ⟨_, rfl⟩, q2 j js rfl⟩

theorem de_maxD {x : Str} {p pos kpos : Pos} {e d : Expr} {f g : VE} (hc : X.calm = true) (hu : X.A.units + 3 < cLine) (hg : Gl X x) (hm : X.mg x = none) (hv : bootBuiltins x = some (.builtin "max")) (he : DE X W e f) (hd : DE X W d g) (hn : x ≠ "__name__" := by decide) (hdb : (x == ("__debug__" : Str)) = false := by decide)
    (hs : backTo pos (starEach [e] X.env) = (false, eval e X.env) :: backTo pos (starEach [] X.env) := by rfl) (hpl : (backTo pos (starEach [e] X.env)).any (·.1) = false := by rfl) (hse : starEach [e] X.env = (false, eval e X.env) :: starEach [] X.env := by rfl)
    (hall : (backToKw pos (keywordEach [⟨some (Str.ofString "default"), d, kpos⟩] X.env)).all (·.1.isSome) = true := by rfl) (hnone : (backToKw pos (keywordEach [⟨some (Str.ofString "default"), d, kpos⟩] X.env)).any (·.1.isNone) = false := by rfl) (hks : (backToKw pos (keywordEach [⟨some (Str.ofString "default"), d, kpos⟩] X.env)).filterMap (·.1) = [Str.ofString "default"] := by rfl) :
    DE X W (.Call (.Name x p) [e] [⟨some (Str.ofString "default"), d, kpos⟩] pos) (vMaxD f g) :=
  PE.imp (pe_callBK (callMaxD hc hu) hg hm hv (pa_cons he pa_nil hse) (pk_cons hd pk_nil) hn hdb hs hpl hall hnone hks) fun σ H Q ⟨E, F, st, S, q⟩ => by
  refine seqE (Q := Q) (k := kMD g) S q fun r1 st1 v F1 H1 a b S1 vr k => ?_
  refine seqE (Q := Q) (k := kMD3 r1) S1 k fun r2 st2 u F2 H2 a2 b2 S2 ur k => ?_
  have k : EndE X.K W E F2 H2 σ (give (oMaxD r1.d r2.d) st2) Q := k
  cases e3 : oMaxD r1.d r2.d with
  | none => rw [e3] at k; exact k.elim
  | some res =>
    rw [e3] at k
    have hx := ORel.mono a2 b2 (VRel.o S1 vr)
    have hy := VRel.o S2 ur
    obtain ⟨ds, j, is, hd1, hd2, h1, h2⟩ : ∃ ds j is, r1.d = .lst ds ∧ r2.d = .int j ∧ intsI ds = some is ∧ res = .fz (.int (maxI is j)) := by
      revert e3
      generalize r1.d = d1
      generalize r2.d = d2
      intro e3
      unfold oMaxD at e3
      split at e3
      · rename_i ds j
        obtain ⟨is, q1, q2⟩ := Option.map_eq_some_iff.mp e3
        exact ⟨ds, j, is, rfl, rfl, q1, q2.symm⟩
      · cases e3
    rw [hd1] at hx
    rw [hd2] at hy
    have hu' := hy.int
    subst hu' h2
    have hds := intsI_eq h1
    obtain ⟨ad, vs, e1, hq, r1'⟩ := hx.lst S2.sub
    rw [hds] at r1'
    have hvs : vs = is.map V.int := by
      clear e3 k h1 hds hx hq hd1
      induction is generalizing vs with
      | nil => exact r1'
      | cons i is ih =>
        obtain ⟨w, r, q1, q2, q3⟩ := r1'
        rw [q1, ih _ q3, show w = .int i from q2]; rfl
    subst hvs
    refine ⟨ad, is, .int j, by rw [e1], rfl, hq, fun h0 => ?_, fun i js h0 => ?_⟩
    · subst h0
      exact k _ F2 H2 (Same.refl _) (Same.refl _) S2 rfl
    · subst h0
      exact k _ F2 H2 (Same.refl _) (Same.refl _) S2 rfl
/-! ### tuples by < -/
def oLtU : D → D → Option Val
  | .tup a, .tup b => if (D.lays 62 a && D.lays 62 b && PySem.W.alikeAll (D.pys a) (D.pys b)) = true then some (.fz (.bl (PySem.W.dataLt (D.tup a).py (D.tup b).py))) else none
  | a, b => oLt a b
theorem opLtU (hu : X.A.units + 65 < cLine) : OpR X (compareOp .Lt) (rD X.K oLtU) := by
  intro pins s σ H x y v u Q I rx ry ⟨E, F, st, σ', dx, dy, res, S, hx, hy, e, p⟩
  have old : oLt dx dy = some res → _ := fun e' => opLt pins s σ H x y v u Q I rx ry ⟨E, F, st, σ', dx, dy, res, S, hx, hy, e', p⟩
  cases dx with
  | tup a =>
    cases dy with
    | tup b =>
      have e : (if (D.lays 62 a && D.lays 62 b && PySem.W.alikeAll (D.pys a) (D.pys b)) = true then some (Val.fz (D.bl (PySem.W.dataLt (D.tup a).py (D.tup b).py))) else none) = some res := e
      by_cases hc : (D.lays 62 a && D.lays 62 b && PySem.W.alikeAll (D.pys a) (D.pys b)) = true
      · rw [if_pos hc] at e
        cases e
        rw [Bool.and_eq_true, Bool.and_eq_true] at hc
        have r1 := hx.rep S.sub
        have r2 := hy.rep S.sub
        have l1 : D.lay 63 (.tup a) = true := hc.1.1
        have l2 : D.lay 63 (.tup b) = true := hc.1.2
        obtain ⟨as, q1⟩ := Dp.reads I (D.tup a).py x v (Rep.dp 63 _ _ l1 r1) rx
        obtain ⟨bs, q2⟩ := Dp.reads I (D.tup b).py y u (Rep.dp 63 _ _ l2 r2) ry
        have hd := (D.depth_lay 63 _ _ l1 r1).1
        refine PySem.W.lt_data q1 q2 hc.2 (fun z => nomatch z) (by omega) ⟨.bl _, H, I, rfl, p.fz S rfl⟩
      · rw [if_neg hc] at e; cases e
    | _ => exact old (by exact e)
  | _ => exact old (by exact e)
/-! ### xs.pop(0) -/
def mPop0 : M → List D → Option (Val × M)
  | .lst (d :: ds), [.int 0] => some (.fz d, .lst ds)
  | _, _ => none
theorem mut_pop0 {K : PySem.W.Frag} : MutR K rPopAt mPop0 := fun E F H st σ i m m' a ds xs res Q S e ea r op q => by
  match m, ds, op with
  | .lst (d :: es), [.int 0], op =>
    cases op
    obtain ⟨v, rfl, rv⟩ := r.one'
    obtain ⟨b, e1, ow⟩ := S.own i _ e
    rw [ea] at e1
    cases e1
    obtain ⟨o, e2, vs, rfl, w, vs', rfl, r1, r2⟩ := ow.here
    have rv : v = .int 0 := rv
    subst rv
    refine ⟨a, w :: vs', 0, 0, w, rfl, rfl, e2, by decide, by decide, ?_, rfl, q _ F _ (Same.refl _) (S.write e ea ⟨_, rfl, r2⟩) r1⟩
    unfold seqIndex?
    simp
end
end Vl
namespace Vl
theorem oLtU_int (a : Int) (k : D) : oLtU (.int a) k = oLt (.int a) k := byDef rfl
theorem oLtU_str (a : List Nat) (k : D) : oLtU (.str a) k = oLt (.str a) k := byDef rfl
theorem mPop0_ap (d : D) (ds : List D) : mPop0 (.lst (d :: ds)) [.int 0] = some (.fz d, .lst ds) := byDef rfl
end Vl
/-! sorted(d) of a dict by texts -/
namespace Vl
section
open PySem PySem.Spec PyProof.Rows PySem.Calls DT PySem.W
variable {prog : Program} {w : World} {A : Around} {E : Value → Shared → Prop} {s : Shared}
/-- the sort of a list that was just made, of texts or numbers -/
theorem list_sort_newS {β : Type} {vs : List Value} {bs : List β} {enc : β → PyData} {R : Value → β → Prop} {h' : Heap} {tk : Nat} {Q : Value → Shared → Prop} (e : EachIs R vs bs) (er : EachIs (fun v b => ∃ as, Reads h' v (enc b) as) vs bs) (hal : AllAlike (bs.map enc)) (hso : Sortable (bs.map enc)) (hL : bs.length ≤ sizeLine)
    (hu : ∀ b, b ∈ bs → A.units + 1 + (enc b).depth < cLine) (h : ∀ out, out.length = bs.length → EachIs R out (bs.mergeSort (dataLe false enc)) → Q .none { s with heap := sortedHeap (h'.push (seqObj "list" vs.toArray 0)) h'.objs.size vs (List.toArray out), toks := tk }) :
    wpAny (model prog w) A (call (.builtin "list.sort") [.ref h'.objs.size]) Q E { s with heap := h'.push (seqObj "list" vs.toArray 0), toks := tk } := by
  have ho : (h'.push (seqObj "list" vs.toArray 0)).get? h'.objs.size = some (seqObj "list" vs.toArray 0) := Heap.get?_push_size _ rfl
  have er' : EachIs (fun v b => ∃ as, Reads (sortingHeap (h'.push (seqObj "list" vs.toArray 0)) h'.objs.size vs) v (enc b) as) vs bs := er.mono fun _ _ ⟨as, r⟩ => ⟨as, PyProof.Rows.Reads.keeps (fun _ _ q => sortingHeap_old (Nat.ne_of_lt (Heap.lt_size q)) (Heap.get?_push_of_some _ q)) r⟩
  refine wpAny_call_entry slot_list_sort ⟨_, ho, rfl⟩ entry_list_sort (list_sort_vals (s := { s with heap := h'.push (seqObj "list" vs.toArray 0), toks := tk }) (κ := dataKind (sortingHeap (h'.push (seqObj "list" vs.toArray 0)) h'.objs.size vs) (bs.map enc)) ho
    (SortsAt.data (s := { s with heap := sortingHeap (h'.push (seqObj "list" vs.toArray 0)) h'.objs.size vs, toks := tk }) (each_map (R := fun v d => ∃ as, Reads (sortingHeap (h'.push (seqObj "list" vs.toArray 0)) h'.objs.size vs) v d as) enc er') hal hso (bound_map hu)) (by rw [e.length]; exact hL) ⟨.none, rfl, ?_⟩) (args_list_sort _)
  exact h _ (by rw [sortVals_length false rfl]; exact e.length) (sortVals_data false e er' hal)
end
open PySem PySem.Spec PyProof.Rows L2
def oSortedA : List D → Option Val
  | [.dct ks _] => if ks.all isStrD = true then some (.nw (.lst (sortD ks))) else none
  | ds => oSorted ds
section
variable {X : Cx}
theorem callSortedA (hc : X.calm = true) (hu : X.A.units + 65 < cLine) : CallR X (.builtin "sorted") (rDN X.K oSortedA) := by
  intro pins s σ H xs us Q I r ⟨E, F, st, σ', ds, res, S, hx, e, p⟩
  have old : oSorted ds = some res → wpAny (model X.prog X.w) X.A (call (.builtin "sorted") us) (EP X pins σ Q) X.xe s := fun e' => callSorted hu pins s σ H xs us Q I r ⟨E, F, st, σ', ds, res, S, hx, e', p⟩
  match ds, e with
  | [.dct ks ws], e =>
    obtain ⟨v, rfl, h⟩ := hx.one
    obtain ⟨d, kvs, rfl, h1, h2, h3⟩ := h.dct S.sub
    have e : (if ks.all isStrD = true then some (Val.nw (.lst (sortD ks))) else none) = some res := e
    by_cases hok : ks.all isStrD = true
    · rw [if_pos hok] at e
      cases e
      rw [Vals.ref1 r]
      obtain ⟨z, lo, vs, rk, hd⟩ := (show ObjOk X.prog X.w H s.heap d (.dK kvs) from h1.ok I.hok)
      obtain ⟨ep, hat⟩ := hd.dictAt
      have hl : kvs.length = vs.length := Paired.length rk
      refine sortedK (A := X.A) (PySem.W.kdl_dict (knd := mixKind X.prog X.w) (kvs := vs) (ep := ep) lo) (I.ok.hd hc) hat (by rw [← hl]; exact z) fun h' tk acc' kp hlt hacc => ?_
      have rv : Vals (kvs.map fun kv => kV kv.1) acc'.toList := by
        have el : acc'.toList.length = acc'.size := by simp
        refine vals_of_at (by rw [List.length_map, el, hacc.1, hl]) fun j x w h1 h2 => ?_
        obtain ⟨k, y, hky, hi⟩ := hacc.2 j w (by rw [← Array.getElem?_toList]; exact h2)
        have e1 : (kvs.map (·.1))[j]? = some k := by
          rw [KV.keys rk, List.getElem?_map, hky] <;> rfl
        have e2 : (kvs.map fun kv => kV kv.1)[j]? = some (kV k) := by
          have e3 : (kvs.map fun kv => kV kv.1) = (kvs.map (·.1)).map kV := by rw [List.map_map] <;> rfl
          rw [e3, List.getElem?_map, e1] <;> rfl
        rw [e2] at h1
        cases h1
        exact keyIs_rel hi
      have lk : ks.length = kvs.length := by rw [← h2.length, List.length_map]
      have I' : Inv X pins σ H { s with heap := h', toks := tk } := I.kept kp
      have eb := each_zip h2 rv
      generalize hbs : ks.zip (kvs.map fun kv => kV kv.1) = bs at eb
      have blen : bs.length = ks.length := by rw [← hbs, List.length_zip, List.length_map]; omega
      have hmap : bs.map (·.1) = ks := by rw [← hbs]; exact map_fst_zip (by rw [List.length_map]; omega)
      have hmem : ∀ b ∈ bs, b.1 ∈ ks := fun b hb => by rw [← hmap]; exact List.mem_map.mpr ⟨b, hb, rfl⟩
      have hT : ∀ d ∈ ks, isStrD d = true := List.all_eq_true.mp hok
      have hlay : ∀ d ∈ ks, D.lay 2 d = true := fun d hd => by
        have := hT d hd
        cases d <;> first | cases this | skip
        rfl
      have hal : PySem.W.AllAlike (bs.map fun p => p.1.py) := by
        intro d hd d' hd'
        obtain ⟨b, hb, rfl⟩ := List.mem_map.mp hd
        obtain ⟨b', hb', rfl⟩ := List.mem_map.mp hd'
        have q1 := hT _ (hmem b hb)
        have q2 := hT _ (hmem b' hb')
        generalize b.1 = x at q1 ⊢
        generalize b'.1 = y at q2 ⊢
        cases x <;> first | cases q1 | skip
        cases y <;> first | cases q2 | skip
        rfl
      have er : PySem.W.EachIs (fun u (b : D × V) => ∃ as, Reads h' u b.1.py as) acc'.toList bs :=
        (PySem.W.each_mem eb).mono fun u b q => Dp.reads I' b.1.py b.2 u (Rep.dp 2 b.1 b.2 (hlay _ (hmem b q.2)) (Rep.mono S.sub _ _ q.1.2)) q.1.1
      have hrep : ∀ b ∈ bs, Rep X.K F b.1 b.2 := fun b hb => by
        obtain ⟨u, hq⟩ := each_right eb b hb
        exact hq.2
      have hdep : ∀ b, b ∈ bs → X.A.in1.units + 1 + (b.1.py).depth < cLine := fun b hb => by
        have := (D.depth_lay 2 b.1 b.2 (hlay _ (hmem b hb)) (hrep b hb)).1
        have hu2 : X.A.in1.units ≤ X.A.units + 1 := by first | exact Nat.le_refl _ | (simp [Around.in1, Around.units]; done)
        omega
      have hzz : bs.length ≤ sizeLine := by rw [blen, lk]; exact z
      refine list_sort_newS (A := X.A.in1) eb er hal (.inr fun d hd => ?_) hzz hdep fun out ol eo => ?_
      · obtain ⟨b, hb, rfl⟩ := List.mem_map.mp hd
        have q1 := hT _ (hmem b hb)
        generalize b.1 = x at q1 ⊢
        cases x <;> cases q1
        exact ⟨fun z => (nomatch z), fun xs z => (nomatch z)⟩
      · obtain ⟨q1, q2⟩ := each_vals eo
        have em : (bs.mergeSort (PySem.W.dataLe false fun p => p.1.py)).map (·.1) = sortD ks := by
          have hm := List.map_mergeSort (r := PySem.W.dataLe false fun p : D × V => p.1.py) (s := leD) (f := fun p : D × V => p.1) (l := bs) (fun a _ b _ => rfl)
          rw [hmap] at hm
          exact hm
        rw [em] at q2
        have hg0 : (h'.push (seqObj "list" acc'.toList.toArray 0)).get? h'.objs.size = some (seqObj "list" acc'.toList.toArray 0) := Heap.get?_push_size _ rfl
        obtain ⟨e2, he2⟩ := PyProof.Rows.sortedHeap_at (out := out.toArray) hg0
        have hl2 : ((bs.mergeSort (PySem.W.dataLe false fun p => p.1.py)).map (·.2)).length ≤ sizeLine := by
          rw [List.length_map, List.length_mergeSort]; exact hzz
        have ha : s.heap.objs.size ≤ h'.objs.size := Nat.le_of_lt hlt
        have hfr : H h'.objs.size = none := I.hok.fresh ha
        obtain ⟨S2, vr⟩ := S.newOwn (m := .lst (sortD ks)) (o := .lst ((bs.mergeSort (PySem.W.dataLe false fun p => p.1.py)).map (·.2))) hfr ⟨_, rfl, q2⟩
        refine ⟨.ref _, upd H h'.objs.size (.lst _), I.laid (t' := tk) (fun b u hb => ?_) ha ⟨hl2, out, e2, q1, he2⟩, rfl, p _ F _ (Same.refl _) (same_new hfr) S2 vr⟩
        have hb' := kp b u hb
        exact (sortedHeap_old (Nat.ne_of_lt (Heap.lt_size hb')) (by rw [size_push']; exact Nat.lt_succ_of_lt (Heap.lt_size hb'))).trans (Heap.get?_push_of_some _ hb')
    · rw [if_neg hok] at e; cases e
  | [], e => exact old e
  | .non :: _, e => exact old (by cases ‹List D› <;> exact e)
  | .bl _ :: _, e => exact old (by cases ‹List D› <;> exact e)
  | .int _ :: _, e => exact old (by cases ‹List D› <;> exact e)
  | .str _ :: _, e => exact old (by cases ‹List D› <;> exact e)
  | .tup _ :: _, e => exact old (by cases ‹List D› <;> exact e)
  | .lst _ :: _, e => exact old (by cases ‹List D› <;> exact e)
  | .dcu _ _ :: _, e => exact old (by cases ‹List D› <;> exact e)
  | .dct _ _ :: _ :: _, e => exact old e
end
theorem oSortedA_dct (ks vs : List D) : oSortedA [.dct ks vs] = if ks.all isStrD = true then some (.nw (.lst (sortD ks))) else none := byDef rfl
theorem oSortedA_lst (ds : List D) : oSortedA [.lst ds] = oSorted [.lst ds] := byDef rfl
end Vl
/-! sorted(t) of a tuple of texts -/
namespace Vl
section
open PySem PySem.Spec PyProof.Rows PySem.Calls PySem.W
variable {prog : Program} {w : World} {A : Around} {E : Value → Shared → Prop} {s : Shared}
theorem collect_tup {l : Addr} {vs : List Value} {Q : List Value → Shared → Prop} (hl : IsTup s.heap l vs.toArray)
    (h : Q vs { s with heap := (s.heap.push (seqObj "list" #[] 0)).update s.heap.objs.size (Obj.mapSeq (· ++ vs.toArray)) }) (hsz : vs.length ≤ sizeLine) :
    wpAny (model prog w) A (collect (.ref l)) Q E s := by
  obtain ⟨o, ho, hc, n, hd⟩ := id hl
  unfold collect
  refine wpAny_bind (wpAny_runValue (codeAny_builtin entry_proto_collect' ?_))
  show wpAny _ _ (do again (.builtin "list.__iadd__" ⟨[← newList [], .ref l], []⟩)) _ _ s
  refine wpAny_bind (wpAny_newList (wpAny_pure ⟨Code.quiet_builtin _ (by decide +kernel), codeAny_builtin entry_list_iadd' ?_⟩))
  show wpAny _ _ (Builtin.List.listExtendWith (.ref s.heap.objs.size) (.ref l) (.ref s.heap.objs.size)) _ _ { s with heap := s.heap.push (seqObj "list" #[] 0) }
  unfold Builtin.List.listExtendWith
  have ho' : (s.heap.push (seqObj "list" #[] 0)).get? l = some o := Heap.get?_push_of_some _ ho
  refine wpAny_bind (wpAny_typeOf (T := "tuple") ⟨o, ho', hc⟩ ?_)
  have ht : (Value.type "tuple" == Value.type "tuple") = true := by rfl
  rw [if_pos (by rw [ht]; simp)]
  refine wpAny_bind (listItems_at ho' hd ?_)
  refine wpAny_bind (listItems_at (xs := #[]) (n := 0) (Heap.get?_push_size _ rfl) rfl ?_)
  rw [if_neg (by simp)]
  refine wpAny_bind (listUpdate_at (xs := #[]) (n := 0) (Heap.get?_push_size _ rfl) rfl ?_ (Nat.zero_le _) (by show (#[] ++ vs.toArray).size ≤ sizeLine + 1; simp only [Array.size_append, List.size_toArray, List.length_nil]; omega))
  refine wpAny_pure ?_
  show wpAny (model prog w) A (do
      let o ← load s.heap.objs.size
      match o.data with
      | .seq xs _ => pure xs.toList
      | _ => unsupported "internal:collect") Q E { s with heap := (s.heap.push (seqObj "list" #[] 0)).update s.heap.objs.size (Obj.mapSeq (· ++ vs.toArray)) }
  refine wpAny_bind (wpAny_load (get?_update_seq (Heap.get?_push_size _ rfl) _) ?_)
  show wpAny _ _ (pure ((#[] : Array Value) ++ vs.toArray).toList) Q E _
  rw [show ((#[] : Array Value) ++ vs.toArray).toList = vs by simp]
  exact wpAny_pure h
theorem sorted_of_sortT {l : Addr} {vs : List Value} {kw : List (Str × Value)} {Q : Value → Shared → Prop} (hl : IsTup s.heap l vs.toArray) (hL : vs.length ≤ sizeLine) (ha1 : argsOk "sorted" ⟨[.ref l], kw⟩) (ha2 : ∀ x, argsOk "list.sort" ⟨[.ref x], kw⟩)
    (body : ∀ E' : Value → Shared → Prop, wpAny (model prog w) A.in1.in1 (Builtin.«list.sort» ⟨[.ref (s.heap.objs.size + 1)], kw⟩) (fun f s' => f = .done (.ret .none) ∧ Q (.ref (s.heap.objs.size + 1)) s') E' { s with heap := copyHeap s.heap vs }) :
    wpAny (model prog w) A (call (.builtin "sorted") [.ref l] kw) Q E s := by
  refine call_function_entry_kw kind_sorted plain_sorted entry_sorted ha1 ?_
  unfold Builtin.«sorted»
  refine wpAny_bind (m := checkCount "sorted" 1 1 _) (wpAny_pure ?_)
  refine wpAny_bind (collect_tup hl ?_ hL)
  refine wpAny_bind (wpAny_newList ?_ hL)
  have hsz : ((s.heap.push (seqObj "list" #[] 0)).update s.heap.objs.size (Obj.mapSeq (· ++ vs.toArray))).objs.size = s.heap.objs.size + 1 := by
    rw [Heap.size_update, size_push']
  show wpAny _ _ _ _ _ { s with heap := copyHeap s.heap vs }
  rw [hsz]
  refine wpAny_bind (wpAny_holding (wpAny_call_entry_kw slot_list_sort ⟨_, copyHeap_at s.heap vs, rfl⟩ entry_list_sort ?body (ha2 _)))
  case body =>
    show wpAny (model prog w) A.in1.in1 (Builtin.«list.sort» ⟨[.ref (s.heap.objs.size + 1)], kw⟩) _ _ _
    refine wpAny_mono (body _) (fun f s' hf => ?_) fun _ _ e => e
    obtain ⟨rfl, hq⟩ := hf
    exact ⟨_, rfl, wpAny_pure ⟨_, rfl, hq⟩⟩
theorem sorted_dataT {β : Type} {vs : List Value} {bs : List β} {enc : β → PyData} {R : Value → β → Prop} {l : Addr} {Q : Value → Shared → Prop} (hl : IsTup s.heap l vs.toArray) (e : EachIs R vs bs) (er : EachIs (fun v b => ∃ as, Reads s.heap v (enc b) as) vs bs) (hal : AllAlike (bs.map enc)) (hk : Sortable (bs.map enc)) (hL : bs.length ≤ sizeLine)
    (hu : ∀ b, b ∈ bs → A.units + 2 + (enc b).depth < cLine) (h : ∀ out, out.length = bs.length → EachIs R out (bs.mergeSort (dataLe false enc)) → Q (.ref (s.heap.objs.size + 1)) { s with heap := sortedAll s.heap vs (List.toArray out) }) :
    wpAny (model prog w) A (call (.builtin "sorted") [.ref l]) Q E s := by
  have er' : EachIs (fun v b => ∃ as, Reads (sortingHeap (copyHeap s.heap vs) (s.heap.objs.size + 1) vs) v (enc b) as) vs bs := er.mono fun _ _ ⟨as, r⟩ => ⟨as, PyProof.Rows.Reads.keeps (fun _ _ => sorting_copy_old) r⟩
  have hL' : vs.length ≤ sizeLine := by rw [e.length]; exact hL
  exact sorted_of_sortT hl hL' (args_sorted1 _) (fun _ => args_list_sort _) fun _ => list_sort_vals (s := { s with heap := copyHeap s.heap vs }) (copyHeap_at s.heap vs)
    (SortsAt.data (s := { s with heap := sortingHeap (copyHeap s.heap vs) (s.heap.objs.size + 1) vs }) (each_map (R := fun v d => ∃ as, Reads (sortingHeap (copyHeap s.heap vs) (s.heap.objs.size + 1) vs) v d as) enc er') hal hk (bound_map hu)) hL'
    ⟨rfl, h _ (by rw [sortVals_length false rfl]; exact e.length) (sortVals_data false e er' hal)⟩
end
open PySem PySem.Spec PyProof.Rows L2
def oSortedX : List D → Option Val
  | [.tup ds] => if ds.all isStrD = true then some (.nw (.lst (sortD ds))) else none
  | ds => oSortedU ds
section
variable {X : Cx}
theorem callSortedX (hc : X.calm = true) (hu : X.A.units + 65 < cLine) : CallR X (.builtin "sorted") (rDN X.K oSortedX) := by
  intro pins s σ H xs us Q I r ⟨E, F, st, σ', ds, res, S, hx, e, p⟩
  have old : oSortedU ds = some res → wpAny (model X.prog X.w) X.A (call (.builtin "sorted") us) (EP X pins σ Q) X.xe s := fun e' => callSortedU hc hu pins s σ H xs us Q I r ⟨E, F, st, σ', ds, res, S, hx, e', p⟩
  match ds, e with
  | [.tup es], e =>
    obtain ⟨v, rfl, h⟩ := hx.one
    obtain ⟨a, vs, rfl, h1, r1⟩ := h.tup S.sub
    have e : (if es.all isStrD = true then some (Val.nw (.lst (sortD es))) else none) = some res := e
    by_cases hok : es.all isStrD = true
    · rw [if_pos hok] at e
      cases e
      obtain ⟨its, rv, hl, hz⟩ := I.tuple h1
      rw [Vals.ref1 r]
      have hlen : vs.length = es.length := r1.length
      have eb := each_zip r1 rv
      have bl : (es.zip vs).length = es.length := by rw [List.length_zip]; omega
      have hmem : ∀ b ∈ es.zip vs, b.1 ∈ es := fun b hb => (List.of_mem_zip hb).1
      have hT : ∀ d ∈ es, isStrD d = true := List.all_eq_true.mp hok
      have hlay : ∀ d ∈ es, D.lay 2 d = true := fun d hd => by
        have := hT d hd
        cases d <;> first | cases this | skip
        rfl
      have hal : PySem.W.AllAlike ((es.zip vs).map fun p => p.1.py) := by
        intro d hd d' hd'
        obtain ⟨b, hb, rfl⟩ := List.mem_map.mp hd
        obtain ⟨b', hb', rfl⟩ := List.mem_map.mp hd'
        have q1 := hT _ (hmem b hb)
        have q2 := hT _ (hmem b' hb')
        generalize b.1 = x at q1 ⊢
        generalize b'.1 = y at q2 ⊢
        cases x <;> first | cases q1 | skip
        cases y <;> first | cases q2 | skip
        rfl
      have er : PySem.W.EachIs (fun u (b : D × V) => ∃ as, Reads s.heap u b.1.py as) its (es.zip vs) :=
        (PySem.W.each_mem eb).mono fun u b q => Dp.reads I b.1.py b.2 u (Rep.dp 2 b.1 b.2 (hlay _ (hmem b q.2)) (Rep.mono S.sub _ _ q.1.2)) q.1.1
      have hdep : ∀ b, b ∈ es.zip vs → X.A.units + 2 + (b.1.py).depth < cLine := fun b hb => by
        have := (D.depth_lay 2 b.1 b.2 (hlay _ (hmem b hb)) (zip_rep r1 b hb)).1
        omega
      have hzz : (es.zip vs).length ≤ sizeLine := by rw [bl, ← hlen]; exact hz
      refine sorted_dataT hl eb er hal (.inr fun d hd => ?_) hzz hdep fun out ol eo => ?_
      · obtain ⟨b, hb, rfl⟩ := List.mem_map.mp hd
        have q1 := hT _ (hmem b hb)
        generalize b.1 = x at q1 ⊢
        cases x <;> cases q1
        exact ⟨fun z => (nomatch z), fun xs z => (nomatch z)⟩
      · obtain ⟨q1, q2⟩ := each_vals eo
        have em : ((es.zip vs).mergeSort (PySem.W.dataLe false fun p => p.1.py)).map (·.1) = sortD es := by
          have hm := List.map_mergeSort (r := PySem.W.dataLe false fun p : D × V => p.1.py) (s := leD) (f := fun p : D × V => p.1) (l := es.zip vs) (fun a _ b _ => rfl)
          rw [map_fst_zip hlen] at hm
          exact hm
        rw [em] at q2
        obtain ⟨ep, he'⟩ := PyProof.Rows.sortedAll_at s.heap its out.toArray
        have hl2 : (((es.zip vs).mergeSort (PySem.W.dataLe false fun p => p.1.py)).map (·.2)).length ≤ sizeLine := by
          rw [List.length_map, List.length_mergeSort, bl, ← hlen]; exact hz
        exact ⟨.ref _, upd H (s.heap.objs.size + 1) (.lst _), I.laid (t' := s.toks) (fun _ _ => PyProof.Rows.sortedAll_old) (Nat.le_succ _) ⟨hl2, out, ep, q1, he'⟩, rfl, p.newL S q2 _ (I.hok.fresh (Nat.le_succ _))⟩
    · rw [if_neg hok] at e; cases e
  | [], e => exact old e
  | .non :: _, e => exact old (by cases ‹List D› <;> exact e)
  | .bl _ :: _, e => exact old (by cases ‹List D› <;> exact e)
  | .int _ :: _, e => exact old (by cases ‹List D› <;> exact e)
  | .str _ :: _, e => exact old (by cases ‹List D› <;> exact e)
  | .lst _ :: _, e => exact old (by cases ‹List D› <;> exact e)
  | .dct _ _ :: _, e => exact old (by cases ‹List D› <;> exact e)
  | .dcu _ _ :: _, e => exact old (by cases ‹List D› <;> exact e)
  | .tup _ :: _ :: _, e => exact old e
end
end Vl
/-! len(d) -/
namespace Vl
open PySem PySem.Spec PyProof.Rows L2
def oLenU : List D → Option Val
  | [.dct ks _] => some (.fz (.int ks.length))
  | [.dcu ks _] => some (.fz (.int ks.length))
  | ds => oLen ds
section
variable {X : Cx}
theorem callLenU : CallR X (.builtin "len") (rDN X.K oLenU) := by
  intro pins s σ H xs us Q I r ⟨E, F, st, σ', ds, res, S, hx, e, p⟩
  have old : oLen ds = some res → wpAny (model X.prog X.w) X.A (call (.builtin "len") us) (EP X pins σ Q) X.xe s := fun e' => callLen pins s σ H xs us Q I r ⟨E, F, st, σ', ds, res, S, hx, e', p⟩
  match ds, e with
  | [.dct ks ws], e =>
    obtain ⟨v, rfl, h⟩ := hx.one
    obtain ⟨a, kvs, rfl, h1, h2, h3⟩ := h.dct S.sub
    cases e
    rw [Vals.ref1 r]
    have hl : kvs.length = ks.length := by rw [← h2.length, List.length_map]
    refine d_len I h1 fun t s' I' => ⟨.int _, H, I', ⟨t, rfl⟩, ?_⟩
    have := p.fz S (v := .int (ks.length : Int)) rfl
    rw [← hl] at this
    exact this
  | [.dcu ks ws], e =>
    obtain ⟨v, rfl, h⟩ := hx.one
    obtain ⟨a, kvs, rfl, h1, h2, h3⟩ := h.dcu S.sub
    cases e
    have hl : kvs.length = ks.length := by rw [h2.1, List.length_map]
    refine call_len_dT pins s σ H _ us Q I r ⟨a, kvs, rfl, h1, ?_⟩
    have := p.fz S (v := .int (ks.length : Int)) rfl
    rw [← hl] at this
    exact this
  | [], e => exact old e
  | .non :: _, e => exact old (by cases ‹List D› <;> exact e)
  | .bl _ :: _, e => exact old (by cases ‹List D› <;> exact e)
  | .int _ :: _, e => exact old (by cases ‹List D› <;> exact e)
  | .str _ :: _, e => exact old (by cases ‹List D› <;> exact e)
  | .tup _ :: _, e => exact old (by cases ‹List D› <;> exact e)
  | .lst _ :: _, e => exact old (by cases ‹List D› <;> exact e)
  | .dct _ _ :: _ :: _, e => exact old e
  | .dcu _ _ :: _ :: _, e => exact old e
end
theorem oLenU_lst (ds : List D) : oLenU [.lst ds] = some (.fz (.int ds.length)) := byDef rfl
theorem oLenU_tup (ds : List D) : oLenU [.tup ds] = some (.fz (.int ds.length)) := byDef rfl
theorem oLenU_str (x : List Nat) : oLenU [.str x] = some (.fz (.int x.length)) := byDef rfl
theorem oLenU_dct (ks vs : List D) : oLenU [.dct ks vs] = some (.fz (.int ks.length)) := byDef rfl
theorem oLenU_dcu (ks vs : List D) : oLenU [.dcu ks vs] = some (.fz (.int ks.length)) := byDef rfl
end Vl
/-! for over one's own list, the body an if that returns: the list stays one's own -/
namespace Vl
open PySem PySem.Spec PyProof.Rows L2
section
variable {X : Cx} {W : Wx} {pos : Pos}
def upGH (K : PySem.W.Frag) (g : VG) : TG := fun v σ H Q => ∃ E F st d st', Sim K E F H st σ ∧ Rep K F d v ∧ g d st = some st' ∧ ∀ σ' F', Same F F' → Sim K E F' H st' σ' → Q σ' H
abbrev DGH (X : Cx) (e : Expr) (g : VG) : Prop := PG X e (upGH X.K g)
theorem dgh_name {i : Nat} {x : Str} (hN : X.N.Nodup) (hi : X.N[i]? = some x) (hx : Loc X.env.scope x) (hf : X.fn x = true ∨ X.env.scope.names.lookup x = some .local := by first | exact .inl rfl | exact .inr rfl | assumption) : DGH X (.Name x pos) (gN i) :=
  PG.imp (pg_name hN hi hx hf) fun v σ H Q ⟨E, F, st, d, st', S, r, e, q⟩ => by
    cases e
    exact q _ F (Same.refl _) (S.setVal r)
def upGsH (K : PySem.W.Frag) (gs : List VG) : TGs := fun vs σ H Q => ∃ E F st ds st', Sim K E F H st σ ∧ Reps K F ds vs ∧ gsRun gs ds st = some st' ∧ ∀ σ' F', Same F F' → Sim K E F' H st' σ' → Q σ' H
abbrev DGsH (X : Cx) (es : List Expr) (gs : List VG) : Prop := PGs X es (upGsH X.K gs)
theorem dgsh_nil : DGsH X [] [] := PGs.imp pgs_nil fun vs σ H Q ⟨E, F, st, ds, st', S, r, e, q⟩ => by
  cases ds with
  | nil =>
    cases e
    exact ⟨r, q σ F (Same.refl _) S⟩
  | cons d ds => cases e
theorem dgsh_cons {e : Expr} {es : List Expr} {g : VG} {gs : List VG} (h1 : DGH X e g) (h2 : DGsH X es gs) (hs : (assignEach (e :: es) X.env).map (·.2) = assign e X.env :: (assignEach es X.env).map (·.2) := by rfl) : DGsH X (e :: es) (g :: gs) :=
  PGs.imp (pgs_cons h1 h2 hs) fun vs σ H Q ⟨E, F, st, ds, st', S, r, e, q⟩ => by
    cases ds with
    | nil => cases e
    | cons d ds =>
      obtain ⟨v, us, e1, r1, r2⟩ := r
      obtain ⟨st1, e2, e3⟩ := Option.bind_eq_some_iff.mp e
      exact ⟨v, us, e1, E, F, st, d, st1, S, r1, e2, fun σ' F' a S' => ⟨E, F', st1, ds, st', S', Reps.mono a _ _ r2, e3, fun σ2 F2 b S2 => q σ2 F2 (a.trans b) S2⟩⟩
theorem dgh_tup {es : List Expr} {k : Nat} {gs : List VG} (hc : X.calm = true) (h : DGsH X es gs) (hn : (assignEach es X.env).length = gs.length := by rfl) (hst : (assignEach es X.env).findIdx? (·.1) = none := by rfl) : DGH X (.Tuple es k pos) (gT gs) :=
  PG.imp (pg_tup hc h hn hst) fun v σ H Q ⟨E, F, st, d, st', S, r, e, q⟩ => by
    cases d with
    | tup ds =>
      obtain ⟨a, vs, e1, sq, rs⟩ := r
      exact ⟨a, vs, e1, SqT.of (S.sub _ _ sq), by rw [rs.length]; exact gsRun_len e, E, F, st, ds, st', S, rs, e, q⟩
    | _ => cases e
def rtOnly (x : R Flow) : R Flow := match x with
  | .ok (.rt v) => .ok (.rt v)
  | .exc c s => .exc c s
  | _ => .no
def kIfR (r : VS) (p : Bool × Sts) : R Flow := if p.1 = true then rtOnly (r p.2) else .ok (.nx p.2)
def vIfR (t : VT) (r : VS) : VS := fun st => (t st).bind (kIfR r)
def forK0 (o : Option Sl) (x : List D → R Flow) : R Flow := match o with
  | some (.own (.lst ds)) => x ds
  | _ => .no
def vForK (k : Nat) (g : VG) (t : VT) (r : VS) : VS := fun st => forK0 (st[k]?) fun ds => loop g (vIfR t r) ds st
def LoopK (K : PySem.W.Frag) (W : Wx) (E : Ent) (F : Hp) (g : VG) (body : VS) (ds : List D) (a : Addr) (vs : List V) (D : Ends) (i m : Nat) (σ : L2.St) (H : Hp) : Prop :=
  ∃ F2 st2, Same F F2 ∧ Sim K E F2 H st2 σ ∧ H a = some (.lst vs) ∧ EndS K W E F2 (loop g body (ds.drop i) st2) D ∧ m = ds.length - i ∧ i ≤ ds.length
theorem ds_forK {tg e c : Expr} {ss : List Stmt} {k : Nat} {g : VG} {t : VT} {r : VS} {ipos : Pos} (hp : PassesOwn (model X.prog X.w) X.A X.env X.xe) (hc : X.calm = true) (ho : DE X W e (vPeek k)) (hg : DGH X tg g) (ht : DT X W c t) (hr : DSs X W ss r)
    (hs : ∀ x, foldedSetIterable e X.env x = pure x := by intro _; rfl) : DS X W (.For tg e [.If c ss [] ipos] [] pos) (vForK k g t r) :=
  PS.imp (ps_for hp hc (pi_up ho) hg (pss_one (ps_if ht hr pss_nil)) hs) fun D σ H ⟨E, F, st, S, q⟩ => by
  refine ⟨E, F, st, S, ?_⟩
  unfold vForK forK0 at q
  split at q
  · rename_i ds e0
    have ep : vPeek k st = .ok (.pk k (.lst ds), st) := by unfold vPeek; rw [e0]
    rw [ep]
    intro v F1 H1 a1 b1 S1 vr
    obtain ⟨ad, ea, ow⟩ := S1.own k _ e0
    have ev : v = .ref ad := by
      have h2 := vr.2
      rw [ea] at h2
      exact (Option.some.inj (Option.some.inj h2)).symm
    obtain ⟨o, eo, vs, eo2, rs⟩ := ow.here
    subst eo2
    refine ⟨ad, vs, ev, SqL.of eo, LoopK X.K W E F1 g (vIfR t r) ds ad vs D, ⟨ds.length, F1, st, Same.refl _, S1, eo, EndS.mono a1 q, by simp, Nat.zero_le _⟩, ?_⟩
    rintro i m σ' H' ⟨F2, st2, sF, S2, hH, q, rfl, hi⟩
    by_cases hlt : i < ds.length
    · have ed : ds.drop i = ds[i] :: ds.drop (i + 1) := List.drop_eq_getElem_cons hlt
      rw [ed] at q
      obtain ⟨w, ew, rw'⟩ := Reps.get rs (List.getElem?_eq_getElem hlt)
      refine .inr ⟨⟨vs, w, SqL.of hH, ew⟩, fun σ' H' => LoopK X.K W E F1 g (vIfR t r) ds ad vs D (i + 1) (ds.length - (i + 1)) σ' H', fun σ' H' n => ⟨_, by omega, n⟩, fun x H3 y => ?_⟩
      obtain ⟨e3, yx⟩ := y
      have := yx vs (SqL.of (e3 ▸ hH))
      subst e3
      rw [ew] at this
      have ex := Option.some.inj this
      subst ex
      unfold loop at q
      cases e1 : g ds[i] st2 with
      | none => rw [e1] at q; exact q.elim
      | some st1 =>
        rw [e1] at q
        dsimp only at q
        refine ⟨E, F2, st2, ds[i], st1, S2, Rep.mono sF _ _ rw', e1, fun σ4 F4 a4 S4 => ?_⟩
        -- the test
        have q4 := EndS.mono a4 q
        unfold vIfR at q4
        refine ⟨E, F4, st1, S4, ?_⟩
        cases et : t st1 with
        | no => rw [et] at q4; exact q4.elim
        | exc cc s' =>
          rw [et] at q4
          exact fun F' H' a b S' => q4 σ4 F' H' a S'
        | ok p =>
          obtain ⟨bb, st3⟩ := p
          rw [et, R.bind_ok] at q4
          intro F5 H5 a5 b5 S5
          cases bb with
          | true =>
            rw [if_pos rfl]
            have q5 : EndS X.K W E F4 ((rtOnly (r st3)).bind fun fl => match fl with
              | .nx st2 => loop g (vIfR t r) (ds.drop (i + 1)) st2
              | .ct st2 => loop g (vIfR t r) (ds.drop (i + 1)) st2
              | .bk st2 => .ok (.nx st2)
              | .rt v => .ok (.rt v)) D := q4
            refine ⟨E, F5, st3, S5, ?_⟩
            cases er : r st3 with
            | no => rw [er] at q5; exact q5.elim
            | exc cc s' =>
              rw [er] at q5
              exact fun σ' F' H' a S' => q5 σ' F' H' (a5.trans a) S'
            | ok fl =>
              rw [er] at q5
              cases fl with
              | rt vv => exact fun v st σ' F' H' a S' vr => q5 v st σ' F' H' (a5.trans a) S' vr
              | _ => exact q5.elim
          | false =>
            rw [if_neg Bool.false_ne_true]
            have q5 : EndS X.K W E F4 (loop g (vIfR t r) (ds.drop (i + 1)) st3) D := q4
            exact ⟨F5, st3, sF.trans (a4.trans a5), S5, b5 _ _ hH, EndS.mono a5 q5, rfl, hlt⟩
    · have ei : i = ds.length := by omega
      have ed : ds.drop i = [] := List.drop_eq_nil_of_le (by omega)
      rw [ed] at q
      exact .inl ⟨⟨vs, SqL.of hH, by rw [rs.length]; omega⟩, q σ' F2 H' (Same.refl _) S2⟩
  · exact q.elim
end
theorem vForK_ap (k : Nat) (g : VG) (t : VT) (r : VS) (st : Sts) : vForK k g t r st = forK0 (st[k]?) fun ds => loop g (vIfR t r) ds st := byDef rfl
theorem forK0_ap (ds : List D) (x : List D → R Flow) : forK0 (some (.own (.lst ds))) x = x ds := byDef rfl
theorem vIfR_ap (t : VT) (r : VS) (st : Sts) : vIfR t r st = (t st).bind (kIfR r) := byDef rfl
theorem kIfR_ap (r : VS) (b : Bool) (st : Sts) : kIfR r (b, st) = if b = true then rtOnly (r st) else .ok (.nx st) := byDef rfl
theorem rtOnly_rt (v : Val) : rtOnly (.ok (.rt v)) = .ok (.rt v) := byDef rfl
end Vl
/-! text * n; a def that calls itself -/
namespace Vl
open PySem PySem.Spec PyProof.Rows L2
def repS (x : List Nat) (n : Nat) : List Nat := (List.replicate n x).flatten
def oMulS : D → D → Option Val
  | .str x, .int n => if (decide (n < 100000) && decide (-100000 < n) && decide (x.length ≤ 100)) = true then some (.fz (.str (repS x n.toNat))) else none
  | a, b => oMul a b
theorem rep_arr (x : List Nat) : ∀ (n : Nat) (acc : List Nat), (List.replicate n x.toArray).foldl (· ++ ·) acc.toArray = (acc ++ (List.replicate n x).flatten).toArray
  | 0, acc => by simp
  | n + 1, acc => by
    rw [List.replicate_succ, List.foldl_cons, List.replicate_succ, List.flatten_cons]
    have h := rep_arr x n (acc ++ x)
    rw [List.append_assoc] at h
    rw [← h]
    simp
theorem repS_len (x : List Nat) (n : Nat) : (repS x n).length = n * x.length := by
  unfold repS
  induction n with
  | zero => simp
  | succ n ih => rw [List.replicate_succ, List.flatten_cons, List.length_append, ih, Nat.add_mul]; omega
theorem repS_mem {x : List Nat} {n : Nat} {c : Nat} (h : c ∈ repS x n) : c ∈ x := by
  unfold repS at h
  obtain ⟨l, hl, hc⟩ := List.mem_flatten.mp h
  rw [(List.mem_replicate.mp hl).2] at hc
  exact hc
section
variable {X : Cx}
theorem opMulS : OpR X (binaryOp .Mult) (rD X.K oMulS) := by
  intro pins s σ H x y v u Q I rx ry ⟨E, F, st, σ', dx, dy, res, S, hx, hy, e, p⟩
  have old : oMul dx dy = some res → _ := fun e' => opMul pins s σ H x y v u Q I rx ry ⟨E, F, st, σ', dx, dy, res, S, hx, hy, e', p⟩
  cases dx with
  | str a =>
    cases dy with
    | int n =>
      have e : (if (decide (n < 100000) && decide (-100000 < n) && decide (a.length ≤ 100)) = true then some (Val.fz (.str (repS a n.toNat))) else none) = some res := e
      by_cases hc : (decide (n < 100000) && decide (-100000 < n) && decide (a.length ≤ 100)) = true
      · rw [if_pos hc] at e
        cases e
        rw [Bool.and_eq_true, Bool.and_eq_true, decide_eq_true_eq, decide_eq_true_eq, decide_eq_true_eq] at hc
        obtain ⟨e1, ok⟩ := hx.str
        have e2 := hy.int
        subst e1 e2
        obtain ⟨t, rfl⟩ := rx
        obtain ⟨t', rfl⟩ := ry
        have hl : n.toNat * a.length ≤ 100000 * 100 := Nat.mul_le_mul (by omega) hc.2
        have okR : TxOk (repS a n.toNat) := ⟨by rw [repS_len, sizeLine_eq]; omega, fun c h => ok.2 c (repS_mem h)⟩
        have fin : ∀ s' tk, Inv X pins σ H s' → EP X pins σ Q (.str (tx (repS a n.toNat)) tk) s' := fun s' tk I' => ⟨.str (tx (repS a n.toNat)), H, I', ⟨_, rfl⟩, p.fz S ⟨rfl, okR⟩⟩
        have hlen : (tx a).length = a.length := tx_length a
        refine PySem.P.mul_str ?_ (fun h1 h2 => ?_) (fun h1 h2 => ?_) ?_
        · rw [decide_eq_false (by omega), decide_eq_false (by omega)]; rfl
        · intro hgt
          rw [hlen] at hgt
          have h3 : (a.length : Int) * n ≤ 2 ^ 63 - 1 := by
            have h4 : (a.length : Int) * n ≤ 100 * n := Int.mul_le_mul_of_nonneg_right (by omega) (by omega)
            omega
          have := Int.le_ediv_of_mul_le (show 0 < n by omega) h3
          omega
        · rw [hlen, Nat.mul_comm]
          show decide (n.toNat * a.length > sizeLine) = false
          rw [decide_eq_false]
          rw [sizeLine_eq]
          omega
        · by_cases h1 : n < 1
          · rw [if_pos h1]
            have h0 : n.toNat = 0 := by omega
            have e0 : repS a n.toNat = [] := by rw [h0]; rfl
            rw [e0] at fin
            exact ⟨by decide, fin _ _ (I.tok _)⟩
          · rw [if_neg h1]
            by_cases h2 : (n == 1 || (tx a).length == 0) = true
            · rw [if_pos h2]
              rw [Bool.or_eq_true, beq_iff_eq, beq_iff_eq] at h2
              have e0 : repS a n.toNat = a := by
                rcases h2 with h2 | h2
                · rw [h2]
                  show ([a] : List (List Nat)).flatten = a
                  simp
                · rw [hlen] at h2
                  have : a = [] := List.length_eq_zero_iff.mp h2
                  subst this
                  refine List.length_eq_zero_iff.mp ?_
                  rw [repS_len]; rfl
              rw [e0] at fin
              exact fin _ _ I
            · rw [if_neg h2]
              have e1 : (⟨(List.replicate n.toNat (tx a).cps).foldl (· ++ ·) #[]⟩ : Str) = tx (repS a n.toNat) := by
                have := rep_arr a n.toNat []
                show Str.mk _ = Str.mk _
                congr 1
              rw [e1]
              exact ⟨by rw [tx_length, repS_len, sizeLine_eq]; omega, fin _ _ (I.tok _)⟩
      · rw [if_neg hc] at e; cases e
    | _ => exact old (by exact e)
  | _ => exact old (by exact e)
end
theorem fnok_no {P : Program} {w : World} {K : PySem.W.Frag} {mg : Str → Option Value} {base : Heap} {CX : CXT} {k : Nat} {f : Addr} {fd : FuncData} {ps : List Str} {cls : Nat → Value} : FnOk P w K mg base CX k f fd ps (spF K cls fun _ => .no) :=
  ⟨fun vs H Q E h => by obtain ⟨_, _, _, _, h⟩ := h; exact h.elim, fun A outer s H args us vs Q E _ _ _ _ h => by obtain ⟨_, _, _, _, h⟩ := h; exact h.elim⟩
end Vl
namespace Vl
theorem oMulS_str (x : List Nat) (n : Int) (h : n < 100000) (h2 : -100000 < n) (h3 : x.length ≤ 100) : oMulS (.str x) (.int n) = some (.fz (.str (repS x n.toNat))) := by
  show (if (decide (n < 100000) && decide (-100000 < n) && decide (x.length ≤ 100)) = true then some (Val.fz (.str (repS x n.toNat))) else none) = _
  rw [decide_eq_true h, decide_eq_true h2, decide_eq_true h3]
  rfl
end Vl
/-! xs.extend(t), t a tuple -/
namespace Vl
open PySem PySem.Spec PyProof.Rows L2
theorem list_extend_tup (l : Addr) (items : Array Value) (n : Nat) (b : Addr) (items2 : Array Value) (hlong : ¬ (!items.isEmpty && Builtin.List.listTooLong (items.size + items2.size)) = true) (h1 : items.size ≤ sizeLine) (h2 : items.size + items2.size ≤ sizeLine + 1) :
    Meets (Builtin.«list.extend» ⟨[.ref l, .ref b], []⟩) (fun _ R s => s.heap.get? l = some { cls := .type "list", dict := none, data := .seq items n, slots := #[] } ∧ IsTup s.heap b items2 ∧ R (.ok (.ret Value.none)) { s with heap := s.heap.update l (Obj.mapSeq fun x => x ++ items2), toks := s.toks }) :=
  .of_wp fun prog w A R s h => by
  obtain ⟨hl, ⟨o, ho, hc, n2, hd⟩, hR⟩ := h
  unfold Builtin.«list.extend»
  refine wpAny_bind (wpAny_of_eq (a := (Value.ref l, Value.ref b)) rfl ?_)
  show wpAny _ _ (Builtin.List.listExtendWith (.ref l) (.ref b) .none) _ _ s
  unfold Builtin.List.listExtendWith
  refine wpAny_bind (wpAny_typeOf (T := "tuple") ⟨o, ho, hc⟩ ?_)
  have ht : (Value.type "tuple" == Value.type "tuple") = true := by rfl
  rw [if_pos (by rw [ht]; simp)]
  refine wpAny_bind (listItems_at ho hd ?_)
  refine wpAny_bind (listItems_at hl rfl ?_)
  rw [if_neg hlong]
  refine wpAny_bind (listUpdate_at hl rfl ?_ h1 (by rw [Array.size_append]; exact h2))
  exact wpAny_pure ⟨_, rfl, hR⟩
def rExtendT : V → List V → Hp → VK → Prop := fun x vs H Q => ∃ l b xs zs, x = .ref l ∧ vs = [.ref b] ∧ H l = some (.lst xs) ∧ H b = some (.tup zs) ∧ xs.length + zs.length ≤ sizeLine ∧ Q .non (upd H l (.lst (xs ++ zs)))
theorem mt_extendT {X : Cx} : MtM X "list.extend" rExtendT := by
  intro pins s σ H x vs v us Q I rx rv h
  obtain ⟨l, b, xs, zs, rfl, rfl, hH, hB, hz, q⟩ := h
  cases rx
  obtain ⟨u, rfl, ru⟩ := rv.one
  cases ru
  obtain ⟨z, its, n, r, hl, e⟩ := I.lstM hH
  obtain ⟨its2, r2, p2, hz2⟩ := I.tuple (SqT.of hB)
  have hl2 := r2.length
  have hsz : its.toArray.size + its2.toArray.size ≤ sizeLine := by rw [List.size_toArray, List.size_toArray]; omega
  have hlong : ¬ (!its.toArray.isEmpty && Builtin.List.listTooLong (its.toArray.size + its2.toArray.size)) = true := by
    rw [notLongL hsz, Bool.and_false]
    exact Bool.false_ne_true
  refine call_meets PySem.F.slot_list_extend ⟨_, e, rfl⟩ PySem.F.entry_list_extend (PySem.F.args_list_extend_2 _ _)
    (list_extend_tup l its.toArray n b its2.toArray hlong (by rw [List.size_toArray]; omega) (by omega)) ⟨e, p2, ?_⟩
  refine ⟨.non, _, I.lset (its' := its ++ its2) hH e (by simp) (r.append r2) ?_, rfl, q⟩
  rw [List.length_append]
  omega
def mExtendT : M → List D → Option (Val × M)
  | .lst ds, [.tup es] => if ds.length + es.length ≤ 16777216 then some (.fz .non, .lst (ds ++ es)) else none
  | _, _ => none
theorem mut_extendT {K : PySem.W.Frag} : MutR K rExtendT mExtendT := fun E F H st σ i m m' a ds xs res Q S e ea r op q => by
  match m, ds, op with
  | .lst es, [.tup fs], op =>
    dsimp only [mExtendT] at op
    by_cases hl : es.length + fs.length ≤ 16777216
    · rw [if_pos hl] at op
      cases op
      obtain ⟨v, rfl, rv⟩ := r.one'
      obtain ⟨b, e1, ow⟩ := S.own i _ e
      rw [ea] at e1
      cases e1
      obtain ⟨o, e2, vs, rfl, rs⟩ := ow.here
      obtain ⟨c, ws, rfl, hc, rw'⟩ := rv
      exact ⟨a, c, vs, ws, rfl, rfl, e2, S.sub _ _ hc, by rw [rs.length, rw'.length, sizeLine_eq]; exact hl, q _ F _ (Same.refl _) (S.write e ea ⟨_, rfl, rs.append rw'⟩) rfl⟩
    · rw [if_neg hl] at op; cases op
theorem mExtendT_ap (ds es : List D) : mExtendT (.lst ds) [.tup es] = if ds.length + es.length ≤ 16777216 then some (.fz .non, .lst (ds ++ es)) else none := byDef rfl
end Vl
/-! == and != of dicts; d.setdefault; lower; for over a dict -/
namespace Vl
open PySem PySem.Spec PyProof.Rows L2
/-! ### ==, != of two dicts -/
def dEq (ks vs ks' vs' : List D) : Bool := (ks.length == ks'.length) && (ks.zip vs).all fun p => match getK ks' vs' p.1 with
  | some w => D.eqv p.2 w
  | none => false
def dLay (vs vs' : List D) : Bool := (vs.all fun d => d.lay 64) && (vs'.all fun d => d.lay 64)
def oEqA : D → D → Option Val
  | .dct ks vs, .dct ks' vs' => if dLay vs vs' = true then some (.fz (.bl (dEq ks vs ks' vs'))) else none
  | a, b => oEq a b
def oNeA : D → D → Option Val
  | .dct ks vs, .dct ks' vs' => if dLay vs vs' = true then some (.fz (.bl (!dEq ks vs ks' vs'))) else none
  | a, b => oNe a b
theorem getK_mem {ks vs : List D} {k w : D} (h : getK ks vs k = some w) : w ∈ vs := by
  induction ks generalizing vs with
  | nil => simp [getK] at h
  | cons a as ih =>
    cases vs with
    | nil => simp [getK] at h
    | cons b bs =>
      unfold getK at h
      split at h
      · cases h; exact List.mem_cons_self
      · exact List.mem_cons_of_mem _ (ih h)
section
variable {X : Cx}
theorem deq_run {pins : List (Addr × Obj)} {σ : L2.St} {H : Hp} {s : Shared} (I : Inv X pins σ H s) {A : Around} (hu : A.units + 65 < cLine) {ks' vs' : List D} {ls : List (Key × V)} {vb : List (Key × Value)} (rb : KV ls vb) (g1 : Reps X.K H ks' (ls.map fun p => kV p.1)) (g2 : Reps X.K H vs' (ls.map (·.2))) (hl' : ∀ d ∈ vs', d.lay 64 = true) :
    ∀ {kvs : List (Key × V)} {va : List (Key × Value)} {ks vs : List D}, KV kvs va → Reps X.K H ks (kvs.map fun p => kV p.1) → Reps X.K H vs (kvs.map (·.2)) → (∀ d ∈ vs, d.lay 64 = true) →
    PySem.W.KeqHits A.in1 s vb va ((ks.zip vs).all fun p => match getK ks' vs' p.1 with | some w => D.eqv p.2 w | none => false) := by
  intro kvs va ks vs ra
  unfold KV at ra
  induction ra generalizing ks vs with
  | nil =>
    intro h1 h2 _
    cases ks with
    | nil => exact .nil
    | cons a as => obtain ⟨v, r, e, _⟩ := h1; cases e
  | @cons p q ps qs h t ih =>
    intro h1 h2 hl
    cases ks with
    | nil => cases h1
    | cons a as =>
      cases vs with
      | nil => cases h2
      | cons b bs =>
        obtain ⟨v, r, e, r1, r2⟩ := h1
        cases e
        obtain ⟨w, r', e', r3, r4⟩ := h2
        cases e'
        obtain ⟨q1, q2⟩ := h
        obtain ⟨key, qv⟩ := q
        have q1 : p.1 = key := q1
        have q2 : RelV p.2 qv := q2
        have hk := rep_key r1
        obtain ⟨s1, s2⟩ := reps_get hk g1 g2
        have rr := rb.val p.1
        rw [List.zip_cons_cons, List.all_cons]
        dsimp only
        have ih' := ih r2 r4 fun d hd => hl d (List.mem_cons_of_mem _ hd)
        cases eg : getK ks' vs' a with
        | none =>
          rw [s2 eg] at rr
          dsimp only
          rw [Bool.false_and]
          refine .miss ?_
          rw [← q1]
          cases ev : valueAt vb p.1 with
          | none => rfl
          | some y => rw [ev] at rr; exact (show False from rr).elim
        | some d' =>
          obtain ⟨u, eu, ru⟩ := s1 d' eg
          rw [eu] at rr
          obtain ⟨y, hy, ry⟩ := rr.some_of
          dsimp only
          have lb := hl b List.mem_cons_self
          have ld := hl' d' (getK_mem eg)
          obtain ⟨as1, e1⟩ := Dp.reads I _ _ _ (Rep.dp 64 _ _ lb r3) q2
          obtain ⟨as2, e2⟩ := Dp.reads I _ _ _ (Rep.dp 64 _ _ ld ru) ry
          have := PySem.W.keq_at (A := A) e1 e2 (D.shaped lb r3) (D.shaped ld ru) (by show A.units + 1 + 64 < cLine; omega)
          rw [D.eqv_py 64 _ _ lb ld] at this
          rw [q1] at hy
          exact .hit hy this ih'
theorem dLay_of {vs vs' : List D} (h : dLay vs vs' = true) : (∀ d ∈ vs, d.lay 64 = true) ∧ ∀ d ∈ vs', d.lay 64 = true := by
  unfold dLay at h
  rw [Bool.and_eq_true, List.all_eq_true, List.all_eq_true] at h
  exact h
theorem opEqA (hu : X.A.units + 65 < cLine) : OpR X (compareOp .Eq) (rD X.K oEqA) := by
  intro pins s σ H x y v u Q I rx ry ⟨E, F, st, σ', dx, dy, res, S, hx, hy, e, p⟩
  by_cases hd : (∃ ks vs ks' vs', dx = .dct ks vs ∧ dy = .dct ks' vs')
  · obtain ⟨ks, vs, ks', vs', rfl, rfl⟩ := hd
    have e : (if dLay vs vs' = true then some (Val.fz (.bl (dEq ks vs ks' vs'))) else none) = some res := e
    by_cases hq : dLay vs vs' = true
    · rw [if_pos hq] at e
      cases e
      obtain ⟨l1, l2⟩ := dLay_of hq
      obtain ⟨a, kvs, rfl, h1, h2, h3⟩ := hx.dct S.sub
      obtain ⟨b, ls, rfl, g1, g2, g3⟩ := hy.dct S.sub
      cases (show v = Value.ref a from rx)
      cases (show u = Value.ref b from ry)
      obtain ⟨_, ya, va, ra, da⟩ := (show ObjOk X.prog X.w H s.heap a (.dK kvs) from h1.ok I.hok)
      obtain ⟨_, yb, vb, rb, db⟩ := (show ObjOk X.prog X.w H s.heap b (.dK ls) from g1.ok I.hok)
      refine PySem.W.keq_eq (knd := mixKind X.prog X.w) ya yb da db (by omega) (fun _ => deq_run I hu rb (Reps.mono S.sub _ _ g2) (Reps.mono S.sub _ _ g3) l2 ra (Reps.mono S.sub _ _ h2) (Reps.mono S.sub _ _ h3) l1) ⟨.bl _, H, I, rfl, p.fz S ?_⟩
      have e1 : va.length = ks.length := by rw [← ra.length, ← h2.length, List.length_map]
      have e2 : vb.length = ks'.length := by rw [← rb.length, ← g2.length, List.length_map]
      rw [e1, e2]
      rfl
    · rw [if_neg hq] at e; cases e
  · have e' : oEq dx dy = some res := by
      cases dx <;> cases dy <;> first | exact e | exact (hd ⟨_, _, _, _, rfl, rfl⟩).elim
    exact opEq (by omega) pins s σ H x y v u Q I rx ry ⟨E, F, st, σ', dx, dy, res, S, hx, hy, e', p⟩
theorem opNeA (hu : X.A.units + 65 < cLine) : OpR X (compareOp .NotEq) (rD X.K oNeA) := by
  intro pins s σ H x y v u Q I rx ry ⟨E, F, st, σ', dx, dy, res, S, hx, hy, e, p⟩
  by_cases hd : (∃ ks vs ks' vs', dx = .dct ks vs ∧ dy = .dct ks' vs')
  · obtain ⟨ks, vs, ks', vs', rfl, rfl⟩ := hd
    have e : (if dLay vs vs' = true then some (Val.fz (.bl (!dEq ks vs ks' vs'))) else none) = some res := e
    by_cases hq : dLay vs vs' = true
    · rw [if_pos hq] at e
      cases e
      obtain ⟨l1, l2⟩ := dLay_of hq
      obtain ⟨a, kvs, rfl, h1, h2, h3⟩ := hx.dct S.sub
      obtain ⟨b, ls, rfl, g1, g2, g3⟩ := hy.dct S.sub
      cases (show v = Value.ref a from rx)
      cases (show u = Value.ref b from ry)
      obtain ⟨_, ya, va, ra, da⟩ := (show ObjOk X.prog X.w H s.heap a (.dK kvs) from h1.ok I.hok)
      obtain ⟨_, yb, vb, rb, db⟩ := (show ObjOk X.prog X.w H s.heap b (.dK ls) from g1.ok I.hok)
      refine PySem.W.keq_ne (knd := mixKind X.prog X.w) ya yb da db (by omega) (fun _ => deq_run I hu rb (Reps.mono S.sub _ _ g2) (Reps.mono S.sub _ _ g3) l2 ra (Reps.mono S.sub _ _ h2) (Reps.mono S.sub _ _ h3) l1) ⟨.bl _, H, I, rfl, p.fz S ?_⟩
      have e1 : va.length = ks.length := by rw [← ra.length, ← h2.length, List.length_map]
      have e2 : vb.length = ks'.length := by rw [← rb.length, ← g2.length, List.length_map]
      rw [e1, e2]
      rfl
    · rw [if_neg hq] at e; cases e
  · have e' : oNe dx dy = some res := by
      cases dx <;> cases dy <;> first | exact e | exact (hd ⟨_, _, _, _, rfl, rfl⟩).elim
    exact opNe (by omega) pins s σ H x y v u Q I rx ry ⟨E, F, st, σ', dx, dy, res, S, hx, hy, e', p⟩
/-! ### d.setdefault -/
def rSetD : V → List V → Hp → VK → Prop := fun x vs H Q => ∃ a kvs k z, x = V.ref a ∧ vs = [kV k, z] ∧ H a = some (.dK kvs) ∧ kvs.length < sizeLine ∧ (∀ v, valV kvs k = some v → Q v H) ∧ (valV kvs k = none → Q z (upd H a (.dK (putK kvs k z))))
theorem mt_setd : MtM X "dict.setdefault" rSetD := by
  intro pins s σ H x vs v us Q I rx rv h
  obtain ⟨a, kvs, k, z, rfl, rfl, hH, hl, q1, q2⟩ := h
  cases rx
  cases rv with
  | cons r1 rv =>
    cases rv with
    | cons r2 rv =>
      cases rv
      exact d_setd I hH r1 r2 hl (fun v hv w' s4 I4 rw' => ⟨v, _, I4, rw', q1 v hv⟩) fun hn w' s4 I4 rw' => ⟨z, _, I4, rw', q2 hn⟩
def mSetD : M → List D → Option (Val × M)
  | .dct ks vs, [k, d] => match keyD k with
    | some _ => if ks.length < 16777216 then match getK ks vs k with
      | some w => some (.fz w, .dct ks vs)
      | none => some (.fz d, .dct (ks ++ [k]) (vs ++ [d])) else none
    | none => none
  | _, _ => none
theorem mut_setd {K : PySem.W.Frag} : MutR K rSetD mSetD := fun E F H st σ i m m' a ds xs res Q S e ea r op q => by
  match m, ds, op with
  | .dct ks vs, [k, d], op =>
    dsimp only [mSetD] at op
    cases ek : keyD k with
    | none => rw [ek] at op; cases op
    | some κ =>
      rw [ek] at op
      dsimp only at op
      by_cases hl : ks.length < 16777216
      · rw [if_pos hl] at op
        obtain ⟨v, u, rfl, rv, ru⟩ := r.two'
        obtain ⟨ey, _⟩ := key_rep (H := F) (.inl rv) ek
        subst ey
        obtain ⟨b, e1, ow⟩ := S.own i _ e
        rw [ea] at e1
        cases e1
        obtain ⟨o, e2, kvs, rfl, r1, r2⟩ := ow.here
        have lk : kvs.length = ks.length := by rw [← r1.length, List.length_map]
        refine ⟨a, kvs, κ, u, rfl, rfl, e2, by rw [lk, sizeLine_eq]; exact hl, fun w hw => ?_, fun hn => ?_⟩
        · cases eg : getK ks vs k with
          | none =>
            rw [(reps_get ek r1 r2).2 eg] at hw
            cases hw
          | some d' =>
            rw [eg] at op
            cases op
            obtain ⟨w', ew, rw'⟩ := (reps_get ek r1 r2).1 d' eg
            rw [hw] at ew
            cases ew
            have S2 := S.write (m' := .dct ks vs) (o' := .dK kvs) e ea ⟨kvs, rfl, r1, r2⟩
            have es : upd H a (.dK kvs) = H := by
              funext b
              by_cases hb : b = a
              · subst hb; rw [upd_same, e2]
              · rw [upd_ne hb]
            rw [es] at S2
            exact q _ F _ (Same.refl _) S2 rw'
        · cases eg : getK ks vs k with
          | some d' =>
            obtain ⟨w', ew, _⟩ := (reps_get ek r1 r2).1 d' eg
            rw [hn] at ew
            cases ew
          | none =>
            rw [eg] at op
            cases op
            have hp := mat_put (d := d) ek rv ru r1 r2
            have e3 : putKs ks vs k d = .dct (ks ++ [k]) (vs ++ [d]) := by
              unfold putKs
              rw [eg]
            rw [e3] at hp
            exact q _ F _ (Same.refl _) (S.write e ea hp) ru
      · rw [if_neg hl] at op; cases op
end
theorem mSetD_str (ks vs : List D) (x : List Nat) (d : D) : mSetD (.dct ks vs) [.str x, d] = if ks.length < 16777216 then (match getK ks vs (.str x) with
      | some w => some (.fz w, .dct ks vs)
      | none => some (.fz d, .dct (ks ++ [.str x]) (vs ++ [d]))) else none := byDef rfl
/-! ### lower -/
def lowerT (z : List Nat) : List Nat := (Txt.lower (tx z)).cps.toList
def oLower : D → Option Val
  | .str z => if (decide (z.length ≤ 1000) && okTx (lowerT z)) = true then some (.fz (.str (lowerT z))) else none
  | _ => none
section
variable {X : Cx}
theorem mtLower : MtR X "str.lower" (rM0 X.K oLower) := by
  intro pins s σ H x xs v us Q I rx rs ⟨e0, E, F, st, σ', dx, res, S, hx, e, p⟩
  match dx, e with
  | .str z, e =>
    obtain ⟨h1, ok⟩ := hx.str
    unfold oLower at e
    dsimp only at e
    by_cases hl : (decide (z.length ≤ 1000) && okTx (lowerT z)) = true
    · rw [if_pos hl] at e
      cases e
      rw [Bool.and_eq_true, decide_eq_true_eq] at hl
      refine mt_lower pins s σ H x xs v us Q I rx rs ⟨tx z, h1, e0, ?_, p.fz S ⟨?_, okTx_ok hl.2⟩⟩
      · rw [tx_length]; omega
      · rw [ofArr (Txt.lower (tx z))]; rfl
    · rw [if_neg hl] at e; cases e
end
theorem lower_str : ∀ d r, oLower d = some r → ∃ z, d = .str z := by
  intro d r h
  cases d with
  | str z => exact ⟨z, rfl⟩
  | _ => cases h
/-! ### for over a dict -/
theorem Rd.kind {F : Hp} {a : Addr} {u w : HO} (h1 : Rd F a u) (h2 : Rd F a w) (hu : ∀ o x, u ≠ .frz o x) (hw : ∀ o x, w ≠ .frz o x) : u = w := by
  rcases h1 with h1 | ⟨o, h1⟩ <;> rcases h2 with h2 | ⟨o', h2⟩
  · rw [h1] at h2; exact Option.some.inj h2
  · rw [h1] at h2; exact (hu _ _ (Option.some.inj h2)).elim
  · rw [h1] at h2; exact (hw _ _ (Option.some.inj h2).symm).elim
  · rw [h1] at h2; cases h2; rfl
section
variable {K : PySem.W.Frag} {F F' : Hp} {d : Addr} {kvs : List (Key × V)}
mutual
theorem Rep.sw (ne : ∀ b, b ≠ d → F' b = F b) (h : Rd F d (.dK kvs)) (h' : Rd F' d (.dK kvs)) : ∀ (x : D) (v : V), Rep K F x v → Rep K F' x v
  | .non, _, h => h
  | .bl _, _, h => h
  | .int _, _, h => h
  | .str _, _, h => h
  | .tup ds, _, ⟨a, vs, h1, h2, h3⟩ => ⟨a, vs, h1, by
      have hd : a ≠ d := by
        rintro rfl
        cases Rd.kind (.inl h2) h (fun _ _ e => nomatch e) (fun _ _ e => nomatch e)
      rw [ne a hd]; exact h2, Reps.sw ne h h' ds vs h3⟩
  | .lst ds, _, ⟨a, vs, h1, h2, h3⟩ => ⟨a, vs, h1, by
      rcases h2 with h2 | h2
      · have hd : a ≠ d := by
          rintro rfl
          cases Rd.kind h2 h (fun _ _ e => nomatch e) (fun _ _ e => nomatch e)
        refine .inl ?_
        unfold Rd
        rw [ne a hd]; exact h2
      · exact .inr h2, Reps.sw ne h h' ds vs h3⟩
  | .dct ks ds, _, ⟨a, ls, h1, h2, h3, h4⟩ => ⟨a, ls, h1, by
      by_cases hd : a = d
      · subst hd
        cases Rd.kind h2 h (fun _ _ e => nomatch e) (fun _ _ e => nomatch e)
        exact h'
      · unfold Rd
        rw [ne a hd]; exact h2, Reps.sw ne h h' ks _ h3, Reps.sw ne h h' ds _ h4⟩
  | .dcu ks ds, _, ⟨a, ls, h1, h2, h3, h4⟩ => ⟨a, ls, h1, by
      have hd : a ≠ d := by
        rintro rfl
        cases Rd.kind (.inl h2) h (fun _ _ e => nomatch e) (fun _ _ e => nomatch e)
      rw [ne a hd]; exact h2, h3, Reps.sw ne h h' ds _ h4⟩
  | .ins n ks ds, _, ⟨a, C, dx, vs, h1, h2, h3, h4, h5⟩ => ⟨a, C, dx, vs, h1, h2, by
      have hd : a ≠ d := by
        rintro rfl
        cases Rd.kind (.inl h3) h (fun _ _ e => nomatch e) (fun _ _ e => nomatch e)
      rw [ne a hd]; exact h3, h4, Reps.sw ne h h' ds vs h5⟩
theorem Reps.sw (ne : ∀ b, b ≠ d → F' b = F b) (h : Rd F d (.dK kvs)) (h' : Rd F' d (.dK kvs)) : ∀ (xs : List D) (vs : List V), Reps K F xs vs → Reps K F' xs vs
  | [], _, h => h
  | x :: xs, _, ⟨v, r, h1, h2, h3⟩ => ⟨v, r, h1, Rep.sw ne h h' x v h2, Reps.sw ne h h' xs r h3⟩
end
theorem MAt.sw (ne : ∀ b, b ≠ d → F' b = F b) (h : Rd F d (.dK kvs)) (h' : Rd F' d (.dK kvs)) {m : M} {o : HO} (q : MAt K F m o) : MAt K F' m o := by
  cases m with
  | lst ds => obtain ⟨vs, h1, h2⟩ := q; exact ⟨vs, h1, Reps.sw ne h h' _ _ h2⟩
  | dct ks ds => obtain ⟨ls, h1, h2, h3⟩ := q; exact ⟨ls, h1, Reps.sw ne h h' _ _ h2, Reps.sw ne h h' _ _ h3⟩
  | dcu ks ds => obtain ⟨ls, h1, h2, h3⟩ := q; exact ⟨ls, h1, h2, Reps.sw ne h h' _ _ h3⟩
end
/-- where d stands, o stands -/
def lkH (G : Hp) (d : Addr) (o : HO) : Hp := fun b => if b = d then (match G d with | some _ => some o | none => none) else G b
theorem lkH_ne {G : Hp} {d b : Addr} {o : HO} (h : b ≠ d) : lkH G d o b = G b := if_neg h
theorem lkH_some {G : Hp} {d : Addr} {o u : HO} (h : G d = some u) : lkH G d o d = some o := by unfold lkH; rw [if_pos rfl, h]
theorem lkH_none {G : Hp} {d : Addr} {o : HO} (h : G d = none) : lkH G d o d = none := by unfold lkH; rw [if_pos rfl, h]
def Ent.lk (E : Ent) (d : Addr) (o : HO) : Ent := ⟨lkH E.H d o, lkH E.F d o, E.R⟩
section
variable {K : PySem.W.Frag} {E : Ent} {F H : Hp} {st : Sts} {σ : L2.St} {d : Addr} {kvs : List (Key × V)} {od : Obj}
theorem Sim.lock (S : Sim K E F H st σ) (hF : F d = some (.dK kvs)) : Sim K (E.lk d (.frz od (.dK kvs))) (upd F d (.frz od (.dK kvs))) (upd H d (.frz od (.dK kvs))) st σ := by
  have hH := S.sub _ _ hF
  have r1 : Rd F d (.dK kvs) := .inl hF
  have r2 : Rd (upd F d (.frz od (.dK kvs))) d (.dK kvs) := .inr ⟨od, upd_same⟩
  have ne : ∀ b, b ≠ d → upd F d (.frz od (.dK kvs)) b = F b := fun b hb => upd_ne hb
  refine ⟨fun b u e => ?_, fun b u e => ?_, fun b u e => ?_, fun b u e => ?_, S.len, fun i x e => ?_, fun i m e => ?_, S.sep, S.adr⟩
  · by_cases hb : b = d
    · subst hb; rw [upd_same] at e ⊢; exact e
    · rw [upd_ne hb] at e ⊢; exact S.sub _ _ e
  · by_cases hb : b = d
    · subst hb
      have e : lkH E.H b (.frz od (.dK kvs)) b = some u := e
      rw [upd_same]
      cases q : E.H b with
      | none => rw [lkH_none q] at e; cases e
      | some w => rw [lkH_some q] at e; exact e
    · have e : lkH E.H d (.frz od (.dK kvs)) b = some u := e
      rw [lkH_ne hb] at e
      rw [upd_ne hb]; exact S.ent _ _ e
  · by_cases hb : b = d
    · subst hb
      have e : lkH E.F b (.frz od (.dK kvs)) b = some u := e
      rw [upd_same]
      cases q : E.F b with
      | none => rw [lkH_none q] at e; cases e
      | some w => rw [lkH_some q] at e; exact e
    · have e : lkH E.F d (.frz od (.dK kvs)) b = some u := e
      rw [lkH_ne hb] at e
      rw [upd_ne hb]; exact S.fe _ _ e
  · by_cases hb : b = d
    · subst hb
      rw [upd_same] at e
      cases e
      rcases S.gr _ _ hF with q | q | q
      · exact .inl (lkH_some q)
      · exact .inr (.inl (lkH_none q))
      · cases q
    · rw [upd_ne hb] at e
      rcases S.gr _ _ e with q | q | q
      · exact .inl ((lkH_ne hb).trans q)
      · exact .inr (.inl ((lkH_ne hb).trans q))
      · exact .inr (.inr q)
  · obtain ⟨v, e1, e2⟩ := S.val i x e
    exact ⟨v, e1, Rep.sw ne r1 r2 _ _ e2⟩
  · obtain ⟨b, e1, ow⟩ := S.own i m e
    have hb : b ≠ d := by
      rintro rfl
      rw [ow.f] at hF
      cases hF
    obtain ⟨u, h1, h2⟩ := ow.here
    exact ⟨b, e1, by rw [upd_ne hb]; exact ow.f, (lkH_ne hb).trans ow.e, u, by rw [upd_ne hb]; exact h1, h2.sw ne r1 r2⟩
theorem upd_self {G : Hp} {a : Addr} {o : HO} (h : G a = some o) : upd G a o = G := by
  funext b
  by_cases hb : b = a
  · subst hb; rw [upd_same, h]
  · rw [upd_ne hb]
/-- .. and is let go -/
structure Was (E : Ent) (d : Addr) (kvs : List (Key × V)) : Prop where
  h : ∀ u, E.H d = some u → u = .dK kvs
  f : ∀ u, E.F d = some u → u = .dK kvs
  g : E.F d = some (.dK kvs) ∨ E.H d = none
theorem Was.of (S : Sim K E F H st σ) (hF : F d = some (.dK kvs)) : Was E d kvs := by
  refine ⟨fun u e => ?_, fun u e => ?_, ?_⟩
  · have := S.ent _ _ e
    rw [S.sub _ _ hF] at this
    exact (Option.some.inj this).symm
  · have := S.fe _ _ e
    rw [hF] at this
    exact (Option.some.inj this).symm
  · rcases S.gr _ _ hF with q | q | q
    · exact .inl q
    · exact .inr q
    · cases q
theorem Sim.unlock (w : Was E d kvs) (S : Sim K (E.lk d (.frz od (.dK kvs))) F H st σ) (hF : F d = some (.frz od (.dK kvs))) : Sim K E (upd F d (.dK kvs)) (upd H d (.dK kvs)) st σ := by
  have hH := S.sub _ _ hF
  have r1 : Rd F d (.dK kvs) := .inr ⟨od, hF⟩
  have r2 : Rd (upd F d (.dK kvs)) d (.dK kvs) := .inl upd_same
  have ne : ∀ b, b ≠ d → upd F d (.dK kvs) b = F b := fun b hb => upd_ne hb
  refine ⟨fun b u e => ?_, fun b u e => ?_, fun b u e => ?_, fun b u e => ?_, S.len, fun i x e => ?_, fun i m e => ?_, S.sep, S.adr⟩
  · by_cases hb : b = d
    · subst hb; rw [upd_same] at e ⊢; exact e
    · rw [upd_ne hb] at e ⊢; exact S.sub _ _ e
  · by_cases hb : b = d
    · subst hb
      rw [upd_same, w.h _ e]
    · rw [upd_ne hb]
      exact S.ent _ _ ((lkH_ne hb).trans e)
  · by_cases hb : b = d
    · subst hb
      rw [upd_same, w.f _ e]
    · rw [upd_ne hb]
      exact S.fe _ _ ((lkH_ne hb).trans e)
  · by_cases hb : b = d
    · subst hb
      rw [upd_same] at e
      cases e
      rcases w.g with q | q
      · exact .inl q
      · exact .inr (.inl q)
    · rw [upd_ne hb] at e
      rcases S.gr _ _ e with q | q | q
      · exact .inl ((lkH_ne hb).symm.trans q)
      · exact .inr (.inl ((lkH_ne hb).symm.trans q))
      · exact .inr (.inr q)
  · obtain ⟨v, e1, e2⟩ := S.val i x e
    exact ⟨v, e1, Rep.sw ne r1 r2 _ _ e2⟩
  · obtain ⟨b, e1, ow⟩ := S.own i m e
    have hb : b ≠ d := by
      rintro rfl
      rw [ow.f] at hF
      cases hF
    obtain ⟨u, h1, h2⟩ := ow.here
    exact ⟨b, e1, by rw [upd_ne hb]; exact ow.f, (lkH_ne hb).symm.trans ow.e, u, by rw [upd_ne hb]; exact h1, h2.sw ne r1 r2⟩
theorem VRel.unlock {r : Val} {v : V} (hF : F d = some (.frz od (.dK kvs))) (h : VRel K (E.lk d (.frz od (.dK kvs))) F H st σ r v) : VRel K E (upd F d (.dK kvs)) (upd H d (.dK kvs)) st σ r v := by
  have r1 : Rd F d (.dK kvs) := .inr ⟨od, hF⟩
  have r2 : Rd (upd F d (.dK kvs)) d (.dK kvs) := .inl upd_same
  have ne : ∀ b, b ≠ d → upd F d (.dK kvs) b = F b := fun b hb => upd_ne hb
  cases r with
  | fz x => exact Rep.sw ne r1 r2 _ _ h
  | nw m =>
    obtain ⟨b, e1, ow, hn⟩ := h
    have hb : b ≠ d := by
      rintro rfl
      have := ow.f
      rw [this] at hF
      cases hF
    obtain ⟨u, h1, h2⟩ := ow.here
    exact ⟨b, e1, ⟨by rw [upd_ne hb]; exact ow.f, (lkH_ne hb).symm.trans ow.e, u, by rw [upd_ne hb]; exact h1, h2.sw ne r1 r2⟩, hn⟩
  | pk i m => exact h
end
def noExc (x : R Flow) : R Flow := match x with
  | .exc _ _ => .no
  | x => x
def vForD (i : Nat) (g : VG) (body : VS) : VS := fun st => match st[i]? with
  | some (.val (.dct ks _)) => noExc (loop g body ks st)
  | some (.own (.dct ks vs)) => noExc (loop g body ks (st.set i (.val (.dct ks vs))))
  | _ => .no
section
variable {X : Cx} {W : Wx} {pos : Pos}
theorem PS.or {st : Stmt} {t t' : TS} (h : PS X st t) (h' : PS X st t') : PS X st fun D σ H => t D σ H ∨ t' D σ H := ⟨fun pins s σ H D I q => q.elim (h.run pins s σ H D I) (h'.run pins s σ H D I)⟩
theorem loop_dict {E : Ent} {F H : Hp} {g : VG} {body : VS} {ks : List D} {D : Ends} {st : Sts} {σ : L2.St} {a : Addr} {od : Obj} {kvs : List (Key × V)} (S : Sim X.K E F H st σ) (q : EndS X.K W E F (loop g body ks st) D) (hF : F a = some (.frz od (.dK kvs))) (rk : Reps X.K F ks (kvs.map fun p => kV p.1)) :
    ∃ Wl : Nat → Nat → L2.St → Hp → Prop, (∃ m, Wl 0 m σ H) ∧ ∀ i m σ H, Wl i m σ H → ((Itk a od kvs).stop i H ∧ D.nx σ H) ∨
      ((Itk a od kvs).go i H ∧ ∃ N : L2.St → Hp → Prop, (∀ σ' H', N σ' H' → ∃ m', m' < m ∧ Wl (i + 1) m' σ' H') ∧ ∀ x H', (Itk a od kvs).yld i H x H' → upG X.K g x σ H' fun σ2 H2 => upS X.K W body { D with nx := N, ct := N, bk := D.nx } σ2 H2) := by
  have lk : ks.length = kvs.length := by rw [← rk.length, List.length_map]
  refine loop_rule S q rfl rfl (fun i d F2 H2 a1 b1 hd => ?_) (fun i F2 H2 a1 b1 hl => ?_)
  · obtain ⟨w, ew, rw'⟩ := Reps.get rk hd
    obtain ⟨hlt, _⟩ := List.getElem?_eq_some_iff.mp hd
    refine ⟨⟨b1 _ _ (a1 _ _ hF), by omega⟩, fun x H' ⟨y1, k, v, y2, y3⟩ => ⟨y1, ?_⟩⟩
    rw [List.getElem?_map, y2] at ew
    cases ew
    subst y3
    exact Rep.mono a1 _ _ rw'
  · exact ⟨b1 _ _ (a1 _ _ hF), by omega⟩
theorem ends_lock {E : Ent} {F : Hp} {d : Addr} {kvs : List (Key × V)} {od : Obj} {x : R Flow} {D : Ends} (w : Was E d kvs) (hF : F d = some (.dK kvs)) (q : EndS X.K W E F (noExc x) D) :
    EndS X.K W (E.lk d (.frz od (.dK kvs))) (upd F d (.frz od (.dK kvs))) x ⟨fun σ' H' => H' d = some (.frz od (.dK kvs)) ∧ D.nx σ' (upd H' d (.dK kvs)), fun v H' => H' d = some (.frz od (.dK kvs)) ∧ D.rt v (upd H' d (.dK kvs)), fun σ' H' => H' d = some (.frz od (.dK kvs)) ∧ D.bk σ' (upd H' d (.dK kvs)), fun σ' H' => H' d = some (.frz od (.dK kvs)) ∧ D.ct σ' (upd H' d (.dK kvs))⟩ := by
  have back : ∀ F', Same (upd F d (.frz od (.dK kvs))) F' → F' d = some (.frz od (.dK kvs)) ∧ Same F (upd F' d (.dK kvs)) := fun F' s => by
    refine ⟨s _ _ upd_same, fun b u e => ?_⟩
    by_cases hb : b = d
    · subst hb
      rw [hF] at e
      rw [upd_same, e]
    · rw [upd_ne hb]
      exact s _ _ (by rw [upd_ne hb]; exact e)
  cases x with
  | no => exact q.elim
  | exc c s => exact q.elim
  | ok fl =>
    cases fl with
    | nx st' => exact fun σ' F' H' s S' => let ⟨b1, b2⟩ := back F' s; ⟨S'.sub _ _ b1, q σ' _ _ b2 (S'.unlock w b1)⟩
    | bk st' => exact fun σ' F' H' s S' => let ⟨b1, b2⟩ := back F' s; ⟨S'.sub _ _ b1, q σ' _ _ b2 (S'.unlock w b1)⟩
    | ct st' => exact fun σ' F' H' s S' => let ⟨b1, b2⟩ := back F' s; ⟨S'.sub _ _ b1, q σ' _ _ b2 (S'.unlock w b1)⟩
    | rt r => exact fun v st' σ' F' H' s S' vr => let ⟨b1, b2⟩ := back F' s; ⟨S'.sub _ _ b1, q v st' σ' _ _ b2 (S'.unlock w b1) (vr.unlock b1)⟩
theorem noExc_of {E : Ent} {F : Hp} {x : R Flow} {D : Ends} (q : EndS X.K W E F (noExc x) D) : EndS X.K W E F x D := by
  cases x with
  | exc c s => exact q.elim
  | no => exact q
  | ok f => exact q
theorem forD_go {E : Ent} {F H : Hp} {g : VG} {body : VS} {ks vs : List D} {D : Ends} {st : Sts} {σ : L2.St} {i : Nat} (S : Sim X.K E F H st σ) (e : st[i]? = some (.val (.dct ks vs))) (q : EndS X.K W E F (noExc (loop g body ks st)) D) :
    tLock (tFor (iKeys (tVar i)) (upG X.K g) (upS X.K W body)) D σ H ∨ tFor (iKeys (tVar i)) (upG X.K g) (upS X.K W body) D σ H := by
  obtain ⟨v, e1, a, kvs, rfl, hF, rk, _⟩ := S.val i _ e
  rcases hF with hF | ⟨od, hF⟩
  · refine .inl ⟨a, .dK kvs, S.sub _ _ hF, True.intro, fun od => ?_⟩
    have S' := S.lock (od := od) hF
    refine ⟨_, e1, a, od, rfl, .inl ⟨kvs, upd_same, ?_⟩⟩
    exact loop_dict S' (ends_lock (Was.of S hF) hF q) upd_same (Reps.sw (fun b hb => upd_ne hb) (.inl hF) (.inr ⟨od, upd_same⟩) _ _ rk)
  · refine .inr ⟨_, e1, a, od, rfl, .inl ⟨kvs, S.sub _ _ hF, ?_⟩⟩
    exact loop_dict S (noExc_of q) hF rk
theorem ds_forD {tg o : Expr} {ss : List Stmt} {i : Nat} {g : VG} {body : VS} (hp : PassesOwn (model X.prog X.w) X.A X.env X.xe) (hc : X.calm = true) (ho : PE X o (tVar i)) (hg : DG X tg g) (hb : DSs X W ss body)
    (hs : ∀ x, foldedSetIterable o X.env x = pure x := by intro _; rfl) : DS X W (.For tg o ss [] pos) (vForD i g body) :=
  PS.imp (PS.or (ps_lock (ps_for hp hc (pi_keys ho) hg hb hs)) (ps_for hp hc (pi_keys ho) hg hb hs)) fun D σ H ⟨E, F, st, S, q⟩ => by
    unfold vForD at q
    cases e : st[i]? with
    | none => rw [e] at q; exact q.elim
    | some s =>
      rw [e] at q
      cases s with
      | no => exact q.elim
      | val d =>
        cases d with
        | dct ks vs => exact forD_go S e q
        | _ => exact q.elim
      | adr _ => exact q.elim
      | own m =>
        cases m with
        | dct ks vs =>
          obtain ⟨a, e1, ow⟩ := S.own i _ e
          obtain ⟨o, eo, em⟩ := ow.here
          have S2 := S.freezeSlot e e1 eo em
          obtain ⟨hi, _⟩ := List.getElem?_eq_some_iff.mp e
          exact forD_go S2 (by rw [List.getElem?_set, if_pos rfl, if_pos hi]; rfl) (EndS.mono (same_freeze S eo) q)
        | _ => exact q.elim
end
def forD0 (o : Option Sl) (i : Nat) (x : List D → Sts → R Flow) (st : Sts) : R Flow := match o with
  | some (.val (.dct ks _)) => noExc (x ks st)
  | some (.own (.dct ks vs)) => noExc (x ks (st.set i (.val (.dct ks vs))))
  | _ => .no
theorem vForD_ap (i : Nat) (g : VG) (body : VS) (st : Sts) : vForD i g body st = forD0 (st[i]?) i (loop g body) st := byDef rfl
theorem forD0_val (ks vs : List D) (i : Nat) (x : List D → Sts → R Flow) (st : Sts) : forD0 (some (.val (.dct ks vs))) i x st = noExc (x ks st) := byDef rfl
theorem forD0_own (ks vs : List D) (i : Nat) (x : List D → Sts → R Flow) (st : Sts) : forD0 (some (.own (.dct ks vs))) i x st = noExc (x ks (st.set i (.val (.dct ks vs)))) := byDef rfl
theorem noExc_ok (f : Flow) : noExc (.ok f) = .ok f := byDef rfl
theorem noExc_ite {c : Prop} [Decidable c] (x y : R Flow) : noExc (if c then x else y) = if c then noExc x else noExc y := by split <;> rfl
theorem oEqA_dct (ks vs ks' vs' : List D) : oEqA (.dct ks vs) (.dct ks' vs') = if dLay vs vs' = true then some (.fz (.bl (dEq ks vs ks' vs'))) else none := byDef rfl
theorem oNeA_dct (ks vs ks' vs' : List D) : oNeA (.dct ks vs) (.dct ks' vs') = if dLay vs vs' = true then some (.fz (.bl (!dEq ks vs ks' vs'))) else none := byDef rfl
theorem oEqA_int (a : Int) (b : D) : oEqA (.int a) b = oEq (.int a) b := by cases b <;> rfl
theorem oEqA_bl (a : Bool) (b : D) : oEqA (.bl a) b = oEq (.bl a) b := by cases b <;> rfl
theorem oEqA_non (b : D) : oEqA .non b = oEq .non b := by cases b <;> rfl
theorem oEqA_str (a : List Nat) (b : D) : oEqA (.str a) b = oEq (.str a) b := by cases b <;> rfl
theorem oEqA_tup (a : List D) (b : D) : oEqA (.tup a) b = oEq (.tup a) b := by cases b <;> rfl
theorem oEqA_lst (a : List D) (b : D) : oEqA (.lst a) b = oEq (.lst a) b := by cases b <;> rfl
theorem oNeA_int (a : Int) (b : D) : oNeA (.int a) b = oNe (.int a) b := by cases b <;> rfl
theorem oNeA_bl (a : Bool) (b : D) : oNeA (.bl a) b = oNe (.bl a) b := by cases b <;> rfl
theorem oNeA_non (b : D) : oNeA .non b = oNe .non b := by cases b <;> rfl
theorem oNeA_str (a : List Nat) (b : D) : oNeA (.str a) b = oNe (.str a) b := by cases b <;> rfl
theorem oNeA_tup (a : List D) (b : D) : oNeA (.tup a) b = oNe (.tup a) b := by cases b <;> rfl
theorem oNeA_lst (a : List D) (b : D) : oNeA (.lst a) b = oNe (.lst a) b := by cases b <;> rfl
theorem oLower_ap (z : List Nat) : oLower (.str z) = if (decide (z.length ≤ 1000) && okTx (lowerT z)) = true then some (.fz (.str (lowerT z))) else none := byDef rfl
end Vl
namespace Vl
open PySem PySem.Spec PyProof.Rows L2
/-! ## places by steps -/
theorem filterMap_len {α β : Type} (f : α → Option β) : ∀ l : List α, (∀ a ∈ l, ∃ b, f a = some b) → (l.filterMap f).length = l.length
  | [], _ => rfl
  | a :: l, h => by
    obtain ⟨b, e⟩ := h a List.mem_cons_self
    rw [List.filterMap_cons, e]
    show (b :: _).length = _
    rw [List.length_cons, List.length_cons, filterMap_len f l fun c hc => h c (List.mem_cons_of_mem _ hc)]
theorem pickL_from {α : Type} (l : List α) (k s : Nat) (hk : k < l.length) (hs : 0 < s) : (pickL l (some (k : Int)) none (some (s : Int))).length = (((l.length : Int) - k + s - 1) / s).toNat := by
  have hs' : (s : Int) > 0 := by omega
  unfold pickL
  have eb : sliceBounds (some (k : Int)) none (some (s : Int)) l.length = ((k : Int), (l.length : Int), (s : Int)) := by
    simp only [sliceBounds, Option.getD_some]
    rw [if_pos hs', if_pos hs', if_neg (show ¬ (k : Int) < 0 by omega)]
    congr 1
    omega
  rw [eb]
  unfold sliceRange
  dsimp only
  rw [if_pos hs', if_pos (show (k : Int) < l.length by omega)]
  rw [filterMap_len]
  · rw [List.length_map, List.length_range]
  · intro i hi
    obtain ⟨j, hj, rfl⟩ := List.mem_map.mp hi
    have hj := List.mem_range.mp hj
    have hj2 : (j : Int) < ((l.length : Int) - k + s - 1) / s := by omega
    have hj3 : ((j : Int) + 1) * s ≤ (l.length : Int) - k + s - 1 := (Int.le_ediv_iff_mul_le (by omega)).mp (by omega)
    have hj4 : (j : Int) * s + s ≤ (l.length : Int) - k + s - 1 := by rw [Int.add_mul, Int.one_mul] at hj3; exact hj3
    have hj5 : 0 ≤ (j : Int) * s := Int.mul_nonneg (by omega) (by omega)
    rw [Int.mul_comm] at hj4 hj5
    generalize (s : Int) * (j : Int) = q at hj4 hj5 ⊢
    exact ⟨_, List.getElem?_eq_getElem (show ((k : Int) + q).toNat < l.length by omega)⟩
theorem pickL_ne {α : Type} (l : List α) (k s : Nat) (hk : k < l.length) (hs : 0 < s) : ∃ m ms, pickL l (some (k : Int)) none (some (s : Int)) = m :: ms := by
  have h := pickL_from l k s hk hs
  have h1 : 1 ≤ ((l.length : Int) - k + s - 1) / s := (Int.le_ediv_iff_mul_le (by omega)).mpr (by omega)
  cases e : pickL l (some (k : Int)) none (some (s : Int)) with
  | nil => rw [e] at h; simp only [List.length_nil] at h; omega
  | cons m ms => exact ⟨m, ms, rfl⟩
end Vl
namespace Vl
open PySem PySem.Spec PyProof.Rows L2
/-! ## d.get(k, x) of a dict by whole numbers and texts -/
def getEndA (ks vs : List D) (k : D) (r : Val) (st : Sts) : R (Val × Sts) := match keyD k, r with
  | some _, .fz x => .ok (.fz ((getK ks vs k).getD x), st)
  | _, _ => .no
def kGetA3 (ks vs : List D) (k : Val) (r : Val × Sts) : R (Val × Sts) := getEndA ks vs k.d r.1 r.2
def kGetA2 (h : VE) (ks vs : List D) (q : Val × Sts) : R (Val × Sts) := (h q.2).bind (kGetA3 ks vs q.1)
def kGetA1 (g h : VE) (p : Val × Sts) : R (Val × Sts) := match p.1.d with
  | .dct ks vs => (g p.2).bind (kGetA2 h ks vs)
  | _ => .no
def vGetA (f g h : VE) : VE := fun st => (f st).bind (kGetA1 g h)
section
variable {X : Cx} {W : Wx} {pos : Pos}
theorem getA_inv {K : PySem.W.Frag} {E : Ent} {F H : Hp} {σ : L2.St} {Q : VK} {ks vs : List D} {k : D} {r : Val} {st : Sts} (q : EndE K W E F H σ (getEndA ks vs k r st) Q) :
    ∃ kk x, keyD k = some kk ∧ r = .fz x ∧ EndE K W E F H σ (.ok (.fz ((getK ks vs k).getD x), st)) Q := by
  unfold getEndA at q
  split at q
  · rename_i kk x h
    exact ⟨kk, x, h, rfl, q⟩
  · exact q.elim
theorem de_getA {o e d : Expr} {f g h : VE} {apos cpos : Pos} (hu : X.A.units + 1 < cLine) (ho : DE X W o f) (he : DE X W e g) (hd : DE X W d h) (m : M2 X o "get" apos e d cpos) : DE X W (.Call (.Attribute o "get" apos) [e, d] [] cpos) (vGetA f g h) :=
  PE.imp (pe_dget2 hu ho he hd m) fun σ H Q ⟨E, F, st, S, q⟩ => by
  refine seqE (Q := Q) (k := kGetA1 g h) S q fun r1 st1 v F1 H1 a b S1 vr k => ?_
  unfold kGetA1 at k
  split at k
  · rename_i ks vs hr
    have hr : r1.d = .dct ks vs := hr
    have hx := VRel.o S1 vr
    rw [hr] at hx
    obtain ⟨ad, kvs, e1, h1, h2, h3⟩ := hx.dct S1.sub
    refine ⟨ad, e1, .inl ⟨kvs, h1⟩, ?_⟩
    refine seqE (Q := Q) (k := kGetA2 h ks vs) S1 k fun r2 st2 u F2 H2 a2 b2 S2 vr2 k2 => ?_
    refine seqE (Q := Q) (k := kGetA3 ks vs r2) S2 k2 fun r3 st3 w F3 H3 a3 b3 S3 vr3 k3 => ?_
    have k3 : EndE X.K W E F3 H3 σ (getEndA ks vs r2.d r3 st3) Q := k3
    obtain ⟨kk, x, hk, hx3, k4⟩ := getA_inv k3
    subst hx3
    have hy := ORel.mono a3 b3 (VRel.o S2 vr2)
    obtain ⟨ey, _⟩ := key_rep hy hk
    subst ey
    have h1' := Same.rd b3 (Same.rd b2 h1)
    refine ⟨valV kvs kk, .inl ⟨kvs, kk, h1', rfl, rfl⟩, ?_⟩
    obtain ⟨g1, g2⟩ := reps_get hk (Reps.mono (a2.trans a3) _ _ h2) (Reps.mono (a2.trans a3) _ _ h3)
    cases eg : getK ks vs r2.d with
    | none =>
      rw [g2 eg]
      rw [eg] at k4
      exact k4 w F3 H3 (Same.refl _) (Same.refl _) S3 vr3
    | some dv =>
      obtain ⟨vv, ev, rv⟩ := g1 dv eg
      rw [ev]
      rw [eg] at k4
      exact k4 vv F3 H3 (Same.refl _) (Same.refl _) S3 rv
  · exact k.elim
end
theorem vGetA_ap (f g h : VE) (st : Sts) : vGetA f g h st = (f st).bind (kGetA1 g h) := byDef rfl
def getA0 (d : D) (x : List D → List D → R (Val × Sts)) : R (Val × Sts) := match d with
  | .dct ks vs => x ks vs
  | _ => .no
theorem kGetA1_ap (g h : VE) (r : Val) (st : Sts) : kGetA1 g h (r, st) = getA0 r.d fun ks vs => (g st).bind (kGetA2 h ks vs) := by
  unfold kGetA1 getA0
  rfl
theorem getA0_ap (ks vs : List D) (x : List D → List D → R (Val × Sts)) : getA0 (.dct ks vs) x = x ks vs := byDef rfl
theorem kGetA2_ap (h : VE) (ks vs : List D) (r : Val) (st : Sts) : kGetA2 h ks vs (r, st) = (h st).bind (kGetA3 ks vs r) := byDef rfl
theorem kGetA3_ap (ks vs : List D) (k r : Val) (st : Sts) : kGetA3 ks vs k (r, st) = getEndA ks vs k.d r st := byDef rfl
theorem getEndA_str (ks vs : List D) (k : List Nat) (x : D) (st : Sts) : getEndA ks vs (.str k) (.fz x) st = .ok (.fz ((getK ks vs (.str k)).getD x), st) := byDef rfl
theorem getEndA_int (ks vs : List D) (k : Int) (x : D) (st : Sts) : getEndA ks vs (.int k) (.fz x) st = .ok (.fz ((getK ks vs (.int k)).getD x), st) := byDef rfl
end Vl
namespace Vl
open PySem PySem.Spec PyProof.Rows L2
/-! ## statements that are never come to; partition, split, str, int of texts -/
def vNoS : VS := fun _ => .no
theorem vNoS_ap (st : Sts) : vNoS st = .no := byDef rfl
def tlT (x : Str) : List Nat := x.cps.toList
def partT (a b : List Nat) : List (List Nat) := [tlT (Txt.partition (tx a) (tx b)).1, tlT (Txt.partition (tx a) (tx b)).2.1, tlT (Txt.partition (tx a) (tx b)).2.2]
def splitT (a b : List Nat) : List (List Nat) := (Txt.split (tx a) (tx b)).map tlT
def partEnd (a b : List Nat) : Option Val := if (!b.isEmpty && decide (a.length ≤ 100000) && (partT a b).all okTx) = true then some (.fz (.tup ((partT a b).map .str))) else none
def oPart : D → D → Option Val
  | .str a, .str b => partEnd a b
  | _, _ => none
def splitEnd (a b : List Nat) : Option Val := if (!b.isEmpty && decide (a.length ≤ 100000) && (splitT a b).all okTx) = true then some (.nw (.lst ((splitT a b).map .str))) else none
def oSplit : D → D → Option Val
  | .str a, .str b => splitEnd a b
  | _, _ => none
def numT (i : Int) : List Nat := tlT (Str.ofString (toString i))
def oStr : List D → Option Val
  | [.int i] => if (decide (i.natAbs.log2 < 1920) && okTx (numT i)) = true then some (.fz (.str (numT i))) else none
  | [.str z] => some (.fz (.str z))
  | _ => none
def intEnd (z : List Nat) (o : Option Int) : Option Val := match o with
  | some n => if z.length ≤ 640 then some (.fz (.int n)) else none
  | none => none
def oIntS : List D → Option Val
  | [.str z] => intEnd z (intText? (tx z))
  | ds => oInt ds
theorem tx_tlT (x : Str) : x = tx (tlT x) := by cases x; rfl
theorem reps_okTx {K : PySem.W.Frag} {F : Hp} : ∀ {zs : List (List Nat)}, zs.all okTx = true → Reps K F (zs.map D.str) (zs.map fun z => V.str (tx z))
  | [], _ => rfl
  | z :: zs, h => by
    rw [List.all_cons, Bool.and_eq_true] at h
    exact ⟨_, _, rfl, ⟨rfl, okTx_ok h.1⟩, reps_okTx h.2⟩
section
variable {X : Cx} {W : Wx}
theorem ds_no {st : Stmt} : DS X W st vNoS := ⟨fun pins s σ H D I h => by
  obtain ⟨E, F, st, S, q⟩ := h
  exact q.elim⟩
theorem ne_len {b : List Nat} (h : (!b.isEmpty) = true) : ((tx b).length == 0) = false := by
  cases b with
  | nil => cases h
  | cons c r => rw [tx_length]; rfl
theorem mtPart : MtR X "str.partition" (rM1 X.K oPart) := by
  intro pins s σ H x xs v us Q I rx rs ⟨y, e0, E, F, st, σ', dx, dy, res, S, hx, hy, e, p⟩
  match dx, dy, e with
  | .str a, .str b, e =>
    obtain ⟨h1, ok⟩ := hx.str
    obtain ⟨h2, ok2⟩ := hy.str
    unfold oPart partEnd at e
    dsimp only at e
    by_cases hl : (!b.isEmpty && decide (a.length ≤ 100000) && (partT a b).all okTx) = true
    · rw [if_pos hl] at e
      cases e
      rw [Bool.and_eq_true, Bool.and_eq_true, decide_eq_true_eq] at hl
      subst h2
      refine mt_partition pins s σ H x xs v us Q I rx rs ⟨tx a, tx b, h1, e0, ne_len hl.1.1, by rw [tx_length]; exact ok.1, fun q hq => ?_⟩
      refine Post.newT S p (vs := [.str (Txt.partition (tx a) (tx b)).1, .str (Txt.partition (tx a) (tx b)).2.1, .str (Txt.partition (tx a) (tx b)).2.2]) ?_ q hq
      have r := reps_okTx (K := X.K) (F := F) hl.2
      unfold partT at r ⊢
      simp only [List.map_cons, List.map_nil] at r ⊢
      rw [← tx_tlT, ← tx_tlT, ← tx_tlT] at r
      exact r
    · rw [if_neg hl] at e; cases e
theorem mtSplit : MtR X "str.split" (rM1 X.K oSplit) := by
  intro pins s σ H x xs v us Q I rx rs ⟨y, e0, E, F, st, σ', dx, dy, res, S, hx, hy, e, p⟩
  match dx, dy, e with
  | .str a, .str b, e =>
    obtain ⟨h1, ok⟩ := hx.str
    obtain ⟨h2, ok2⟩ := hy.str
    unfold oSplit splitEnd at e
    dsimp only at e
    by_cases hl : (!b.isEmpty && decide (a.length ≤ 100000) && (splitT a b).all okTx) = true
    · rw [if_pos hl] at e
      cases e
      rw [Bool.and_eq_true, Bool.and_eq_true, decide_eq_true_eq] at hl
      subst h2
      refine mt_split pins s σ H x xs v us Q I rx rs ⟨tx a, tx b, h1, e0, ne_len hl.1.1, by rw [tx_length, sizeLine_eq]; omega, fun q hq => ?_⟩
      refine Post.newL S p (vs := (Txt.split (tx a) (tx b)).map V.str) ?_ q hq
      have r := reps_okTx (K := X.K) (F := F) hl.2
      have e2 : (splitT a b).map (fun z => V.str (tx z)) = (Txt.split (tx a) (tx b)).map V.str := by
        unfold splitT
        rw [List.map_map]
        refine List.map_congr_left fun z _ => ?_
        show V.str (tx (tlT z)) = _
        rw [← tx_tlT]
      rw [e2] at r
      exact r
    · rw [if_neg hl] at e; cases e
theorem callStr : CallR X (.type "str") (rDN X.K oStr) := by
  intro pins s σ H xs us Q I r ⟨E, F, st, σ', ds, res, S, hx, e, p⟩
  match ds, e with
  | [.int i], e =>
    obtain ⟨v, rfl, h⟩ := hx.one
    have h := h.int
    subst h
    have e : (if (decide (i.natAbs.log2 < 1920) && okTx (numT i)) = true then some (Val.fz (.str (numT i))) else none) = some res := e
    by_cases hl : (decide (i.natAbs.log2 < 1920) && okTx (numT i)) = true
    · rw [if_pos hl] at e
      cases e
      rw [Bool.and_eq_true, decide_eq_true_eq] at hl
      refine call_str_int pins s σ H _ us Q I r ⟨i, rfl, hl.1, p.fz S ⟨?_, okTx_ok hl.2⟩⟩
      unfold numT
      rw [← tx_tlT]
    · rw [if_neg hl] at e; cases e
  | [.str z], e =>
    obtain ⟨v, rfl, h⟩ := hx.one
    obtain ⟨h1, ok⟩ := h.str
    subst h1
    cases e
    exact SkE.call_str_str pins s σ H _ us Q I r ⟨tx z, rfl, p.fz S ⟨rfl, ok⟩⟩
theorem callIntS : CallR X (.type "int") (rDN X.K oIntS) := by
  intro pins s σ H xs us Q I r ⟨E, F, st, σ', ds, res, S, hx, e, p⟩
  have old : oInt ds = some res → wpAny (model X.prog X.w) X.A (call (.type "int") us) (EP X pins σ Q) X.xe s := fun e' => callInt pins s σ H xs us Q I r ⟨E, F, st, σ', ds, res, S, hx, e', p⟩
  match ds, e with
  | [.str z], e =>
    obtain ⟨v, rfl, h⟩ := hx.one
    obtain ⟨h1, ok⟩ := h.str
    subst h1
    have e : intEnd z (intText? (tx z)) = some res := e
    cases en : intText? (tx z) with
    | none => rw [en] at e; cases e
    | some n =>
      rw [en] at e
      have e : (if z.length ≤ 640 then some (Val.fz (.int n)) else none) = some res := e
      by_cases hl : z.length ≤ 640
      · rw [if_pos hl] at e
        cases e
        exact call_int_str pins s σ H _ us Q I r ⟨tx z, n, rfl, en, by rw [tx_length]; exact hl, p.fz S rfl⟩
      · rw [if_neg hl] at e; cases e
  | [], e => exact old e
  | .non :: _, e => exact old (by cases ‹List D› <;> exact e)
  | .bl _ :: _, e => exact old (by cases ‹List D› <;> exact e)
  | .int _ :: _, e => exact old (by cases ‹List D› <;> exact e)
  | .tup _ :: _, e => exact old (by cases ‹List D› <;> exact e)
  | .lst _ :: _, e => exact old (by cases ‹List D› <;> exact e)
  | .dct _ _ :: _, e => exact old (by cases ‹List D› <;> exact e)
  | .dcu _ _ :: _, e => exact old (by cases ‹List D› <;> exact e)
  | .str _ :: _ :: _, e => exact old e
end
theorem oPart_ap (a b : List Nat) : oPart (.str a) (.str b) = partEnd a b := byDef rfl
theorem oSplit_ap (a b : List Nat) : oSplit (.str a) (.str b) = splitEnd a b := byDef rfl
theorem oStr_str (z : List Nat) : oStr [.str z] = some (.fz (.str z)) := byDef rfl
theorem oStr_int (i : Int) : oStr [.int i] = if (decide (i.natAbs.log2 < 1920) && okTx (numT i)) = true then some (.fz (.str (numT i))) else none := byDef rfl
theorem oIntS_str (z : List Nat) : oIntS [.str z] = intEnd z (intText? (tx z)) := byDef rfl
theorem oIntS_bl (b : Bool) : oIntS [.bl b] = some (.fz (.int (if b then 1 else 0))) := byDef rfl
theorem oIntS_int (i : Int) : oIntS [.int i] = some (.fz (.int i)) := byDef rfl
end Vl
namespace Vl
open PySem PySem.Spec PyProof.Rows L2
/-! ## texts read back -/
theorem tlT_tx (z : List Nat) : tlT (tx z) = z := rfl
theorem partT_app {a b y : List Nat} {s : Nat} {S : List Nat} (ey : y = s :: S) (h : s ∉ a) : partT (a ++ y ++ b) y = [a, y, b] := by
  unfold partT
  have e : tx (a ++ y ++ b) = tx a ++ tx y ++ tx b := by rw [tx_append, tx_append]
  rw [e, TL.partition_app (y := tx y) (s := s) (S := S) ey (a := tx a) (b := tx b) h]
  rfl
theorem splitT_join {y : List Nat} {s : Nat} {S : List Nat} (ey : y = s :: S) (hk : y.all (· < 256) = true) {parts : List (List Nat)} (hne : parts ≠ []) (hp : ∀ p ∈ parts, s ∉ p) : splitT (joinT y parts) y = parts := by
  unfold splitT
  have hk' : (tx y).cps.all (· < 256) = true := by
    show y.toArray.all (· < 256) = true
    rw [List.all_toArray]
    exact hk
  have h := TL.split_join (y := tx y) (s := s) (S := S) ey hk' (parts := parts.map tx) (by simpa using hne) (by
    intro p hpm
    obtain ⟨z, hz, rfl⟩ := List.mem_map.mp hpm
    exact hp z hz)
  rw [TL.join_eq, join_tx] at h
  rw [h, List.map_map]
  show parts.map (fun z => tlT (tx z)) = parts
  have e : (fun z => tlT (tx z)) = id := rfl
  rw [e, List.map_id]
def dgs (n : Nat) : List Nat := TL.numL n
theorem numT_nat (n : Nat) : numT (n : Int) = dgs n := TL.tl_num n
theorem numT_neg {n : Nat} (h : 0 < n) : numT (-(n : Int)) = 45 :: dgs n := by
  unfold numT
  have e := toString_neg (n := -(n : Int)) (by omega)
  rw [e, show (0 : Int) - -(n : Int) = (n : Int) by omega]
  show (Str.ofString ("-" ++ toString (n : Int))).cps.toList = _
  rw [Str.ofString_eq_toList]
  show (("-" ++ toString (n : Int)).toList.map Char.toNat) = _
  rw [String.toList_append, List.map_append]
  have e3 := TL.tl_num n
  rw [Str.ofString_eq_toList] at e3
  have e3 : (toString (n : Int)).toList.map Char.toNat = TL.numL n := e3
  rw [e3]
  rfl
theorem dgs_digit (n : Nat) : ∀ c ∈ dgs n, 48 ≤ c ∧ c ≤ 57 := fun c hc => TL.numL_digits n c hc
theorem dgs_ne (n : Nat) : dgs n ≠ [] := TL.numL_ne n
theorem dgs_len {n : Nat} (h : n < 10 ^ 60) : (dgs n).length ≤ 60 := TL.numL_len (by decide) h
theorem dgs_head : ∀ n : Nat, 0 < n → ∃ c r, dgs n = c :: r ∧ c ≠ 48 := by
  intro n
  induction n using Nat.strongRecOn with
  | _ n ih =>
    intro hn
    by_cases h : n < 10
    · exact ⟨48 + n, [], TL.numL_lt h, by omega⟩
    · obtain ⟨c, r, e, hc⟩ := ih (n / 10) (by omega) (by omega)
      refine ⟨c, r ++ [48 + n % 10], ?_, hc⟩
      show TL.numL n = _
      rw [TL.numL_step (by omega)]
      show dgs (n / 10) ++ _ = _
      rw [e]; rfl
theorem cut_last (l : List Nat) (c : Nat) : cut (l ++ [c]) (some (-1)) none = [c] := by
  have hl : (l ++ [c]).length = l.length + 1 := by simp
  unfold cut
  rw [HT.sIx_none]
  show ((l ++ [c]).drop (if (-1 : Int) < 0 then ((-1 : Int) + ((l ++ [c]).length : Int)).toNat else min (-1 : Int).toNat (l ++ [c]).length)).take ((l ++ [c]).length - (if (-1 : Int) < 0 then ((-1 : Int) + ((l ++ [c]).length : Int)).toNat else min (-1 : Int).toNat (l ++ [c]).length)) = _
  rw [if_pos (by decide), hl]
  have e : ((-1 : Int) + ((l.length + 1 : Nat) : Int)).toNat = l.length := by omega
  rw [e, List.drop_left]
  simp
theorem cut_front (l : List Nat) (c : Nat) : cut (l ++ [c]) none (some (-1)) = l := by
  rw [cut_butlast, List.length_append, List.length_singleton, Nat.add_sub_cancel, List.take_left]
theorem dgs_zero : dgs 0 = [48] := TL.numL_lt (by decide)
theorem intT_num {i : Int} (h : i.natAbs < 10 ^ 60) : intText? (tx (numT i)) = some i := by
  by_cases hi : 0 ≤ i
  · obtain ⟨n, rfl⟩ := Int.eq_ofNat_of_zero_le hi
    have hn : n < 10 ^ 60 := h
    have := TL.int_num (n := n) (by have := dgs_len hn; show (dgs n).length ≤ 4300; omega)
    have e : tx (numT ((n : Nat) : Int)) = Str.ofString (toString ((n : Nat) : Int)) := (tx_tlT _).symm
    rw [e]
    exact this
  · obtain ⟨n, hn, rfl⟩ : ∃ n : Nat, 0 < n ∧ i = -(n : Int) := ⟨i.natAbs, by omega, by omega⟩
    have hn2 : n < 10 ^ 60 := by omega
    rw [numT_neg hn]
    have := PySem.intText_neg (x := tx (45 :: dgs n)) (cs := dgs n) rfl (TL.numL_digits n) (dgs_ne n) (by
      rw [tx_length, List.length_cons]
      have := dgs_len hn2
      omega)
    rw [this]
    show some (-((PySem.NumText.digitsVal (TL.numL n) : Nat) : Int)) = _
    rw [TL.numL_val]
theorem log_lt {i : Int} (h : i.natAbs < 10 ^ 60) : i.natAbs.log2 < 1920 := by
  by_cases h0 : i.natAbs = 0
  · rw [h0]; decide
  · rw [Nat.log2_lt h0]
    refine Nat.lt_trans h ?_
    exact Nat.lt_of_lt_of_le (show 10 ^ 60 < 2 ^ 200 by decide) (Nat.pow_le_pow_right (by decide) (by decide))
end Vl
namespace Vl
open PySem PySem.Spec PyProof.Rows L2
/-! ## texts joined by a separator whose second sign stands in no part -/
theorem free2 {s t : Nat} {U p q : List Nat} (hts : t ≠ s) (h : t ∉ p) (hq : q = [] ∨ ∃ r, q = s :: r) : ∀ i, i < p.length → TL.pre (s :: t :: U) ((p ++ q).drop i) = false := fun i hi => by
  cases hp : TL.pre (s :: t :: U) ((p ++ q).drop i) with
  | false => rfl
  | true =>
    exfalso
    have e : ((p ++ q).drop i).take (s :: t :: U).length = s :: t :: U := eq_of_beq hp
    have e1 : ((p ++ q).drop i)[1]? = some t := by
      have h2 : (((p ++ q).drop i).take (s :: t :: U).length)[1]? = some t := by rw [e]; rfl
      rw [List.getElem?_take] at h2
      split at h2
      · exact h2
      · cases h2
    rw [List.getElem?_drop] at e1
    by_cases hlt : i + 1 < p.length
    · rw [List.getElem?_append_left hlt] at e1
      exact h (List.mem_of_getElem? e1)
    · rw [List.getElem?_append_right (by omega), show i + 1 - p.length = 0 by omega] at e1
      rcases hq with rfl | ⟨r, rfl⟩
      · cases e1
      · exact hts (Option.some.inj e1).symm
theorem spl_join2 {s t : Nat} {U : List Nat} (hts : t ≠ s) : ∀ {parts : List (List Nat)}, parts ≠ [] → (∀ p ∈ parts, t ∉ p) → TL.spl (s :: t :: U) 0 [] (TL.joinL (s :: t :: U) parts) = parts
  | [], h, _ => absurd rfl h
  | [p], _, hp => by
    show TL.spl (s :: t :: U) 0 [] p = [p]
    rw [TL.spl_last (fun i hi => by have := free2 (U := U) (q := []) hts (hp p (List.mem_singleton.mpr rfl)) (.inl rfl) i hi; rwa [List.append_nil] at this), List.nil_append]
  | p :: q :: r, _, hp => by
    show TL.spl (s :: t :: U) 0 [] (p ++ (s :: t :: U ++ TL.joinL (s :: t :: U) (q :: r))) = p :: q :: r
    rw [TL.spl_part (by simp) (free2 hts (hp p List.mem_cons_self) (.inr ⟨_, rfl⟩)), List.nil_append, spl_join2 hts (by simp) fun z hz => hp z (List.mem_cons_of_mem _ hz)]
theorem splitT_join2 {y : List Nat} {s t : Nat} {U : List Nat} (ey : y = s :: t :: U) (hts : t ≠ s) (hk : y.all (· < 256) = true) {parts : List (List Nat)} (hne : parts ≠ []) (hp : ∀ p ∈ parts, t ∉ p) : splitT (joinT y parts) y = parts := by
  subst ey
  have hk' : (tx (s :: t :: U)).cps.all (· < 256) = true := by
    show (s :: t :: U).toArray.all (· < 256) = true
    rw [List.all_toArray]
    exact hk
  have e1 : tx (joinT (s :: t :: U) parts) = Txt.join (tx (s :: t :: U)) (parts.map tx) := by rw [TL.join_eq, join_tx]
  have e2 := TL.split_spl (tx (joinT (s :: t :: U) parts)) (tx (s :: t :: U)) (by show (s :: t :: U) ≠ []; simp) (TL.kind_ok hk')
  have e3 : TL.tl (tx (joinT (s :: t :: U) parts)) = TL.joinL (s :: t :: U) parts := by
    rw [e1, TL.join_eq, TL.tl_join, List.map_map]
    show TL.joinL (s :: t :: U) (parts.map fun z => TL.tl (tx z)) = _
    have e : (fun z => TL.tl (tx z)) = id := rfl
    rw [e, List.map_id]
  rw [e3] at e2
  have e4 : TL.tl (tx (s :: t :: U)) = s :: t :: U := rfl
  rw [e4, spl_join2 hts hne hp] at e2
  exact e2
theorem joinT_cons (y a : List Nat) : ∀ (p : List (List Nat)), joinT y (a :: p) = p.foldl (fun acc x => acc ++ y ++ x) a
  | [] => rfl
  | b :: p => by
    show a ++ y ++ joinT y (b :: p) = p.foldl (fun acc x => acc ++ y ++ x) (a ++ y ++ b)
    have key : ∀ (p : List (List Nat)) (u v : List Nat), u ++ p.foldl (fun acc x => acc ++ y ++ x) v = p.foldl (fun acc x => acc ++ y ++ x) (u ++ v) := by
      intro p
      induction p with
      | nil => intro u v; rfl
      | cons c p ih => intro u v; rw [List.foldl_cons, List.foldl_cons, ih, List.append_assoc, List.append_assoc, List.append_assoc]
    rw [joinT_cons y b p, key]
end Vl
/-! x in a written tuple of texts; xs += [..] -/
namespace Vl
open PySem PySem.Spec PyProof.Rows L2
def inCon (ss : List (List Nat)) (neg : Bool) (d : D) : Option Val := if d.flat1 = true then some (.fz (.bl (if neg then !inSeq d (ss.map .str) else inSeq d (ss.map .str)))) else none
/-- a tuple of texts that the module's name x holds -/
def ConT (K : PySem.W.Frag) (mg : Str → Option Value) (x : Str) (ss : List (List Nat)) : Prop := ∃ (a : Addr) (o : Obj) (its : Array Value) (n : Nat), mg x = some (.ref a) ∧ K.lookup a = some o ∧ o.cls = .type "tuple" ∧ o.data = .seq its n ∧ its.size ≤ sizeLine ∧ Vals (ss.map fun z => V.str (tx z)) its.toList
theorem all_flat_strs : ∀ ss : List (List Nat), (ss.map fun z => V.str (tx z)).all flatV = true
  | [] => rfl
  | s :: ss => by rw [List.map_cons, List.all_cons, all_flat_strs ss]; rfl
theorem inV_strs {K : PySem.W.Frag} {H : Hp} {d : D} {v : V} (hd : d.flat1 = true) (r : Rep K H d v) (ss : List (List Nat)) : inV v (ss.map fun z => V.str (tx z)) = inSeq d (ss.map .str) ∧ flatV v = true := by
  have e : ∀ z : List Nat, eqV (V.str (tx z)) v = D.eqv (.str z) d ∧ flatV v = true := fun z => by
    cases d with
    | non =>
      rw [show v = V.non from r]
      exact ⟨rfl, rfl⟩
    | bl b =>
      rw [show v = V.bl b from r]
      exact ⟨rfl, rfl⟩
    | int i =>
      rw [show v = V.int i from r]
      exact ⟨rfl, rfl⟩
    | str y =>
      rw [show v = V.str (tx y) from r.1]
      refine ⟨?_, rfl⟩
      show (tx z == tx y) = (z == y)
      exact tx_beq z y
    | _ => cases hd
  refine ⟨?_, (e []).2⟩
  unfold inV inSeq
  induction ss with
  | nil => rfl
  | cons s ss ih => rw [List.map_cons, List.map_cons, List.any_cons, List.any_cons, ih, (e s).1]
section
variable {X : Cx} {W : Wx} {pos : Pos}
theorem rin_of {E : Ent} {F H : Hp} {st : Sts} {σ : L2.St} {a : Addr} {xs : List V} {d : D} {v : V} {neg : Bool} {ss : List (List Nat)} {res : Val} {Q : VK} (S : Sim X.K E F H st σ) (hx : SqT X.K H a (ss.map fun z => V.str (tx z))) (h : ORel X.K F H d v) (e : inCon ss neg d = some res) (p : Post X.K E F H st σ res Q) :
    rIn X.K neg v (.ref a) H Q := by
  unfold inCon at e
  by_cases hd : d.flat1 = true
  · rw [if_pos hd] at e
    cases e
    obtain ⟨e1, e2⟩ := inV_strs hd (ORel.rep S.sub h) ss
    refine ⟨a, _, rfl, .inr hx, e2, all_flat_strs ss, ?_⟩
    rw [e1]
    exact p.fz S rfl
  · rw [if_neg hd] at e
    cases e
theorem conT_sq {K : PySem.W.Frag} {mg : Str → Option Value} {x : Str} {ss : List (List Nat)} (h : ConT K mg x ss) : ∃ a : Addr, mg x = some (.ref a) ∧ ∀ H : Hp, SqT K H a (ss.map fun z => V.str (tx z)) := by
  obtain ⟨a, o, its, n, h1, h2, h3, h4, h5, h6⟩ := h
  exact ⟨a, h1, fun H => .inr ⟨o, its, n, h2, h3, h4, h5, h6⟩⟩
theorem up_con {a : Addr} {neg : Bool} {ss : List (List Nat)} {f : VE} (hx : ∀ H : Hp, SqT X.K H a (ss.map fun z => V.str (tx z))) : ∀ σ H Q, up X.K W (v1 (inCon ss neg) f) σ H Q → tOp (rIn X.K neg) (up X.K W f) (tC (.ref a)) σ H Q := fun σ H Q ⟨E, F, st, S, q⟩ => by
  refine seqE S q fun r1 st1 v F1 H1 a' b S1 vr k => ?_
  show rIn X.K neg v (.ref a) H1 Q
  cases e : inCon ss neg r1.d with
  | none => rw [e] at k; exact k.elim
  | some res => rw [e] at k; exact rin_of (xs := []) S1 (hx H1) (VRel.o S1 vr) e k
theorem de_inC {a : Expr} {x : Str} {p : Pos} {ss : List (List Nat)} {f : VE} (hg : Gl X x) (h : ConT X.K X.mg x ss) (ha : DE X W a f) (hd : (x == ("__debug__" : Str)) = false := by decide) : DE X W (.Compare a [.In] [.Name x p] pos) (v1 (inCon ss false) f) := by
  obtain ⟨ad, h1, h2⟩ := conT_sq h
  exact PE.imp (pe_cmpR op_in_seq ha (pe_glob hg h1 (show RelV (.ref ad) (.ref ad) from rfl) hd) rfl) (up_con h2)
theorem de_notInC {a : Expr} {x : Str} {p : Pos} {ss : List (List Nat)} {f : VE} (hg : Gl X x) (h : ConT X.K X.mg x ss) (ha : DE X W a f) (hd : (x == ("__debug__" : Str)) = false := by decide) : DE X W (.Compare a [.NotIn] [.Name x p] pos) (v1 (inCon ss true) f) := by
  obtain ⟨ad, h1, h2⟩ := conT_sq h
  exact PE.imp (pe_cmpR op_notIn_seq ha (pe_glob hg h1 (show RelV (.ref ad) (.ref ad) from rfl) hd) rfl) (up_con h2)
theorem dt_inC {a : Expr} {x : Str} {p : Pos} {ss : List (List Nat)} {f : VE} (hg : Gl X x) (h : ConT X.K X.mg x ss) (ha : DE X W a f) (hd : (x == ("__debug__" : Str)) = false := by decide) : DT X W (.Compare a [.In] [.Name x p] pos) (vTest (v1 (inCon ss false) f)) := by
  obtain ⟨ad, h1, h2⟩ := conT_sq h
  exact PT.imp (pt_cmpR op_in_seq ha (pe_glob hg h1 (show RelV (.ref ad) (.ref ad) from rfl) hd) rfl) (up_test' (up_con h2))
theorem dt_notInC {a : Expr} {x : Str} {p : Pos} {ss : List (List Nat)} {f : VE} (hg : Gl X x) (h : ConT X.K X.mg x ss) (ha : DE X W a f) (hd : (x == ("__debug__" : Str)) = false := by decide) : DT X W (.Compare a [.NotIn] [.Name x p] pos) (vTest (v1 (inCon ss true) f)) := by
  obtain ⟨ad, h1, h2⟩ := conT_sq h
  exact PT.imp (pt_cmpR op_notIn_seq ha (pe_glob hg h1 (show RelV (.ref ad) (.ref ad) from rfl) hd) rfl) (up_test' (up_con h2))
/-! ### xs += [..] -/
def augFin (i : Nat) (st : Sts) (es : List D) (s : Option Sl) : R Flow := match s with
  | some (.own (.lst ds)) => if es.length ≤ 1000 ∧ ds.length ≤ 1000000 then .ok (.nx (st.set i (.own (.lst (ds ++ es))))) else .no
  | _ => .no
def augEnd (i : Nat) (st : Sts) (s : Option Sl) (o : Option (List D)) : R Flow := match o with
  | some es => augFin i st es s
  | none => .no
def kAug (i : Nat) (p : List Val × Sts) : R Flow := augEnd i p.2 (p.2[i]?) (fzs p.1)
def aug0 (s : Option Sl) (x : R Flow) : R Flow := match s with
  | some (.own _) => x
  | _ => .no
def vAugL (i : Nat) (f : VA) : VS := fun st => aug0 (st[i]?) ((f st).bind (kAug i))
theorem ds_augL {i : Nat} {x : Str} {es : List Expr} {f : VA} {p pos' : Pos} (hN : X.N.Nodup) (hi : X.N[i]? = some x) (hx : Loc X.env.scope x) (ha : DA X W es f) (hf : X.fn x = true ∨ X.env.scope.names.lookup x = some .local := by first | exact .inl rfl | exact .inr rfl | assumption) :
    DS X W (.AugAssign (.Name x pos') .Add (.List es p) pos) (vAugL i f) := PS.imp (ps_aug hN hi hx (pe_lst ha) iop_ext hf) fun D σ H ⟨E, F, st, S, q⟩ => by
  unfold vAugL at q
  cases e0 : st[i]? with
  | none => rw [e0] at q; exact q.elim
  | some s =>
    rw [e0] at q
    cases s with
    | no => exact q.elim
    | val d => exact q.elim
    | adr _ => exact q.elim
    | own m =>
      obtain ⟨a, ea, ow⟩ := S.own i m e0
      refine ⟨_, ea, ?_⟩
      have q : EndS X.K W E F ((f st).bind (kAug i)) D := q
      refine ⟨E, F, st, S, ?_⟩
      cases e1 : f st with
      | no => rw [e1] at q; exact q
      | exc c s' => rw [e1] at q; exact fun F' H' a' b S' => q _ F' H' a' S'
      | ok p =>
        rw [e1, R.bind_ok] at q
        intro vs F1 H1 a1 b1 S1 ar
        unfold kAug at q
        cases e3 : fzs p.1 with
        | none => rw [e3] at q; exact q.elim
        | some ds =>
          rw [e3] at q
          have q : EndS X.K W E F (augFin i p.2 ds (p.2[i]?)) D := q
          cases e4 : p.2[i]? with
          | none => rw [e4] at q; exact q.elim
          | some s2 =>
            rw [e4] at q
            match s2, e4, q with
            | .own (.lst xs), e4, q =>
              have q : EndS X.K W E F (if ds.length ≤ 1000 ∧ xs.length ≤ 1000000 then .ok (.nx (p.2.set i (.own (.lst (xs ++ ds))))) else .no) D := q
              by_cases hl : ds.length ≤ 1000 ∧ xs.length ≤ 1000000
              · rw [if_pos hl] at q
                have rp := ARels.fzs ar e3
                refine ⟨by rw [rp.length]; exact small_size hl.1, fun b hb => ?_⟩
                obtain ⟨a2, e5, ow2⟩ := S1.own i _ e4
                rw [ea] at e5
                cases e5
                obtain ⟨o, eo, us, rfl, rs⟩ := ow2.here
                have hne : a ≠ b := by
                  rintro rfl
                  rw [eo] at hb
                  cases hb
                have S2 : Sim X.K E F1 (upd H1 b (.lst vs)) p.2 σ := S1.grow (same_new hb)
                refine ⟨a, b, us, vs, rfl, rfl, by rw [upd_ne hne]; exact eo, upd_same, by rw [rs.length, rp.length, sizeLine_eq]; omega, ?_⟩
                have es : σ.set i (some (V.ref a)) = σ := by
                  apply List.ext_getElem?
                  intro j
                  by_cases hj : j = i
                  · subst hj
                    have hlt : j < σ.length := (List.getElem?_eq_some_iff.mp ea).1
                    rw [List.getElem?_set_self hlt, ea]
                  · rw [List.getElem?_set_ne (Ne.symm hj)]
                show D.nx (σ.set i (some (V.ref a))) _
                rw [es]
                exact q _ F1 _ a1 (S2.write e4 ea (m' := .lst (xs ++ ds)) ⟨_, rfl, rs.append rp⟩)
              · rw [if_neg hl] at q; exact q.elim
            | .own (.dct _ _), e4, q => exact q.elim
            | .own (.dcu _ _), e4, q => exact q.elim
            | .no, e4, q => exact q.elim
            | .val _, e4, q => exact q.elim
end
theorem inCon_str (ss : List (List Nat)) (neg : Bool) (z : List Nat) : inCon ss neg (.str z) = some (.fz (.bl (if neg then !inSeq (.str z) (ss.map .str) else inSeq (.str z) (ss.map .str)))) := byDef rfl
theorem vAugL_ap (i : Nat) (f : VA) (st : Sts) : vAugL i f st = aug0 (st[i]?) ((f st).bind (kAug i)) := byDef rfl
theorem aug0_ap (m : M) (x : R Flow) : aug0 (some (.own m)) x = x := byDef rfl
theorem kAug_ap (i : Nat) (rs : List Val) (st : Sts) : kAug i (rs, st) = augEnd i st (st[i]?) (fzs rs) := byDef rfl
theorem augEnd_ap (i : Nat) (st : Sts) (s : Option Sl) (es : List D) : augEnd i st s (some es) = augFin i st es s := byDef rfl
theorem augFin_ap (i : Nat) (st : Sts) (es ds : List D) : augFin i st es (some (.own (.lst ds))) = if es.length ≤ 1000 ∧ ds.length ≤ 1000000 then .ok (.nx (st.set i (.own (.lst (ds ++ es))))) else .no := byDef rfl
end Vl
/-! tools for laws: what a dict has; loops and comprehensions over lists that are put together -/
namespace Vl
open PySem PySem.Spec PyProof.Rows L2
theorem kvNone {k : D} : ∀ {ks vs : List D}, ks.length = vs.length → getK ks vs k = none → k ∉ ks
  | [], _, _, _ => by simp
  | a :: ks, [], h, _ => by simp at h
  | a :: ks, b :: vs, h, h2 => by
    have h2 : (if a = k then some b else getK ks vs k) = none := h2
    by_cases e : a = k
    · rw [if_pos e] at h2; cases h2
    · rw [if_neg e] at h2
      simp only [List.mem_cons, not_or]
      exact ⟨fun z => e z.symm, kvNone (by simpa using h) h2⟩
theorem kvSome {k : D} : ∀ {ks vs : List D}, ks.length = vs.length → k ∈ ks → ∃ v, getK ks vs k = some v
  | [], _, _, h => by cases h
  | a :: ks, [], h, _ => by simp at h
  | a :: ks, b :: vs, h, h2 => by
    show ∃ v, (if a = k then some b else getK ks vs k) = some v
    by_cases e : a = k
    · exact ⟨b, if_pos e⟩
    · rw [if_neg e]
      rcases List.mem_cons.mp h2 with h2 | h2
      · exact (e h2.symm).elim
      · exact kvSome (by simpa using h) h2
theorem kvSnoc {k v k' : D} : ∀ {ks vs : List D}, ks.length = vs.length → getK (ks ++ [k']) (vs ++ [v]) k = match getK ks vs k with | some w => some w | none => if k' = k then some v else none
  | [], [], _ => by
    show (if k' = k then some v else getK [] [] k) = _
    rfl
  | [], b :: vs, h => by simp at h
  | a :: ks, [], h => by simp at h
  | a :: ks, b :: vs, h => by
    show (if a = k then some b else getK (ks ++ [k']) (vs ++ [v]) k) = match (if a = k then some b else getK ks vs k) with | some w => some w | none => _
    by_cases e : a = k
    · rw [if_pos e, if_pos e]
    · rw [if_neg e, if_neg e]; exact kvSnoc (by simpa using h)
theorem kvLen {k v : D} : ∀ {ks vs : List D}, (setK ks vs k v).length = vs.length
  | [], vs => by unfold setK; rfl
  | a :: ks, [] => rfl
  | a :: ks, b :: vs => by unfold setK; rw [List.length_cons, kvLen, List.length_cons]
theorem kvSet {k v k' : D} : ∀ {ks vs : List D}, getK ks (setK ks vs k v) k' = if k' = k then (getK ks vs k').map fun _ => v else getK ks vs k'
  | [], vs => by
    have e : ∀ ws : List D, getK [] ws k' = none := fun ws => by cases ws <;> rfl
    rw [e, e]; split <;> rfl
  | a :: ks, [] => by
    show getK (a :: ks) [] k' = _
    have e : getK (a :: ks) [] k' = none := rfl
    rw [e]; split <;> rfl
  | a :: ks, b :: vs => by
    show (if a = k' then some (if a = k then v else b) else getK ks (setK ks vs k v) k') = if k' = k then (if a = k' then some b else getK ks vs k').map (fun _ => v) else (if a = k' then some b else getK ks vs k')
    by_cases e : a = k'
    · subst e
      rw [if_pos rfl, if_pos rfl]
      by_cases e2 : a = k
      · rw [if_pos e2, if_pos e2]; rfl
      · rw [if_neg e2, if_neg e2]
    · rw [if_neg e, if_neg e]; exact kvSet
/-- a dict that has just some keys -/
structure Has (ks vs : List D) (L : List D) : Prop where
  eq : ks.length = vs.length
  le : ks.length ≤ L.length
  nd : ks.Nodup
  all : ∀ t, t ∈ ks ↔ t ∈ L
theorem Has.nil : Has [] [] [] := ⟨rfl, Nat.le_refl _, List.nodup_nil, fun _ => Iff.rfl⟩
theorem Has.get {ks vs L : List D} (h : Has ks vs L) {t : D} : (getK ks vs t).isSome = decide (t ∈ L) := by
  cases e : getK ks vs t with
  | none => rw [decide_eq_false fun z => kvNone h.eq e ((h.all t).mpr z)]; rfl
  | some w =>
    have : t ∈ L := by
      rw [← h.all t]
      have key : ∀ {ks vs : List D}, getK ks vs t = some w → t ∈ ks := by
        intro ks
        induction ks with
        | nil => intro vs e; cases vs <;> cases e
        | cons a ks ih =>
          intro vs e
          cases vs with
          | nil => cases e
          | cons b vs =>
            have e : (if a = t then some b else getK ks vs t) = some w := e
            by_cases q : a = t
            · rw [q]; exact List.mem_cons_self
            · rw [if_neg q] at e; exact List.mem_cons_of_mem _ (ih e)
      exact key e
    rw [decide_eq_true this]; rfl
theorem Has.put {ks vs L : List D} (h : Has ks vs L) (k v : D) : ∃ ks' vs', putKs ks vs k v = .dct ks' vs' ∧ putKu ks vs k v = .dcu ks' vs' ∧ Has ks' vs' (L ++ [k]) ∧ ∀ t, getK ks' vs' t = if t = k then some v else getK ks vs t := by
  unfold putKs putKu
  cases e : getK ks vs k with
  | none =>
    have hk := kvNone h.eq e
    refine ⟨_, _, rfl, rfl, ⟨by simp [h.eq], by simpa using h.le, ?_, fun t => ?_⟩, fun t => ?_⟩
    · rw [List.nodup_append]
      refine ⟨h.nd, by simp, fun a ha b hb => ?_⟩
      rw [List.mem_singleton.mp hb]
      rintro rfl
      exact hk ha
    · rw [List.mem_append, List.mem_append, h.all t]
    · rw [kvSnoc h.eq]
      by_cases q : t = k
      · rw [if_pos q, q, e]
        show (if k = k then some v else none) = _
        rw [if_pos rfl]
      · rw [if_neg q, if_neg fun z => q z.symm]
        cases getK ks vs t <;> rfl
  | some w =>
    have hm : k ∈ L := by
      have := h.get (t := k)
      rw [e] at this
      exact of_decide_eq_true this.symm
    refine ⟨_, _, rfl, rfl, ⟨by rw [kvLen]; exact h.eq, by have := h.le; rw [List.length_append]; omega, h.nd, fun t => ?_⟩, fun t => ?_⟩
    · rw [List.mem_append, List.mem_singleton, h.all t]
      exact ⟨.inl, fun z => z.elim id fun z => z ▸ hm⟩
    · rw [kvSet]
      by_cases q : t = k
      · rw [if_pos q, if_pos q, q, e]; rfl
      · rw [if_neg q, if_neg q]
/-- one turn of a loop that goes on -/
theorem loop_step {g : VG} {body : VS} {d : D} {ds : List D} {st s1 s2 : Sts} (hg : g d st = some s1) (hb : body s1 = .ok (.nx s2)) : loop g body (d :: ds) st = loop g body ds s2 := by
  rw [loop_cons, hg, turnEnd_ap, hb, R.bind_ok, kTurn_nx]
/-- a comprehension that keeps every item, its values by existence -/
theorem compEx {step : D → Sts → R (Option D × Sts)} (Q : D → D → Prop) (st : Sts) (ds : List D) (hs : ∀ d ∈ ds, ∃ d', step d st = .ok (some d', st) ∧ Q d d') (hl : ds.length ≤ 16777216) : ∃ f : D → D, compLoop step ds [] st = .ok (ds.map f, st) ∧ ∀ d ∈ ds, Q d (f d) := by
  have ex : ∀ d, ∃ d', d ∈ ds → step d st = .ok (some d', st) ∧ Q d d' := fun d => by
    by_cases h : d ∈ ds
    · obtain ⟨d', h1, h2⟩ := hs d h
      exact ⟨d', fun _ => ⟨h1, h2⟩⟩
    · exact ⟨d, fun z => (h z).elim⟩
  let f : D → D := fun d => (ex d).choose
  have hf : ∀ d ∈ ds, step d st = .ok (some (f d), st) ∧ Q d (f d) := fun d hd => (ex d).choose_spec hd
  exact ⟨f, comp_map f st ds (fun d hd => (hf d hd).1) hl, fun d hd => (hf d hd).2⟩
/-- a comprehension over ds.map g, each step by q -/
theorem compBy {α : Type} {step : D → Sts → R (Option D × Sts)} (g : α → D) (h : α → Option D) (st : Sts) : ∀ (ts : List α) (acc : List D), (∀ q ∈ ts, step (g q) st = .ok (h q, st)) → acc.length + ts.length ≤ 16777216 → compLoop step (ts.map g) acc st = .ok (acc ++ ts.filterMap h, st)
  | [], acc, _, _ => by rw [List.filterMap_nil, List.append_nil]; rfl
  | q :: ts, acc, hs, hl => by
    rw [List.length_cons] at hl
    rw [List.map_cons]
    unfold compLoop
    rw [hs q List.mem_cons_self]
    cases e : h q with
    | none =>
      have ih := compBy g h st ts acc (fun r hr => hs r (List.mem_cons_of_mem _ hr)) (by omega)
      show compLoop step (ts.map g) acc st = _
      rw [ih, List.filterMap_cons, e]
    | some d =>
      have ih := compBy g h st ts (acc ++ [d]) (fun r hr => hs r (List.mem_cons_of_mem _ hr)) (by rw [List.length_append, List.length_singleton]; omega)
      show (if acc.length < 16777216 then compLoop step (ts.map g) (acc ++ [d]) st else _) = _
      rw [if_pos (by omega), ih, List.filterMap_cons, e, List.append_assoc]
      rfl
theorem filterMap_some {α β : Type} (f : α → β) (l : List α) : l.filterMap (fun a => some (f a)) = l.map f := by
  induction l with
  | nil => rfl
  | cons a l ih => rw [List.filterMap_cons, ih]; rfl
theorem compAll {α : Type} {step : D → Sts → R (Option D × Sts)} (g : α → D) (f : α → D) (st : Sts) (ts : List α) (hs : ∀ q ∈ ts, step (g q) st = .ok (some (f q), st)) (hl : ts.length ≤ 16777216) : compLoop step (ts.map g) [] st = .ok (ts.map f, st) := by
  have := compBy g (fun a => some (f a)) st ts [] hs (by simpa using hl)
  rw [this, List.nil_append, filterMap_some]
end Vl
/-! partition of long texts -/
namespace Vl
open PySem PySem.Spec PyProof.Rows L2
def okTxL (z : List Nat) : Bool := decide (z.length ≤ 100000) && z.all fun c => decide (c < 1114112)
theorem okTxL_ok {z : List Nat} (h : okTxL z = true) : TxOk z := by
  unfold okTxL at h
  rw [Bool.and_eq_true, decide_eq_true_eq, List.all_eq_true] at h
  exact ⟨by rw [sizeLine_eq]; omega, fun c hc => of_decide_eq_true (h.2 c hc)⟩
theorem okTxL_of {z : List Nat} (h1 : z.length ≤ 100000) (h2 : ∀ c ∈ z, c < 1000) : okTxL z = true := by
  unfold okTxL
  rw [decide_eq_true h1, Bool.true_and, List.all_eq_true]
  exact fun c hc => decide_eq_true (by have := h2 c hc; omega)
theorem reps_okTxL {K : PySem.W.Frag} {F : Hp} : ∀ {zs : List (List Nat)}, zs.all okTxL = true → Reps K F (zs.map D.str) (zs.map fun z => V.str (tx z))
  | [], _ => rfl
  | z :: zs, h => by
    rw [List.all_cons, Bool.and_eq_true] at h
    exact ⟨_, _, rfl, ⟨rfl, okTxL_ok h.1⟩, reps_okTxL h.2⟩
def partEndL (a b : List Nat) : Option Val := if (!b.isEmpty && decide (a.length ≤ 100000) && (partT a b).all okTxL) = true then some (.fz (.tup ((partT a b).map .str))) else none
def oPartL : D → D → Option Val
  | .str a, .str b => partEndL a b
  | _, _ => none
section
variable {X : Cx} {W : Wx}
theorem mtPartL : MtR X "str.partition" (rM1 X.K oPartL) := by
  intro pins s σ H x xs v us Q I rx rs ⟨y, e0, E, F, st, σ', dx, dy, res, S, hx, hy, e, p⟩
  match dx, dy, e with
  | .str a, .str b, e =>
    obtain ⟨h1, ok⟩ := hx.str
    obtain ⟨h2, ok2⟩ := hy.str
    unfold oPartL partEndL at e
    dsimp only at e
    by_cases hl : (!b.isEmpty && decide (a.length ≤ 100000) && (partT a b).all okTxL) = true
    · rw [if_pos hl] at e
      cases e
      rw [Bool.and_eq_true, Bool.and_eq_true, decide_eq_true_eq] at hl
      subst h2
      refine mt_partition pins s σ H x xs v us Q I rx rs ⟨tx a, tx b, h1, e0, ne_len hl.1.1, by rw [tx_length]; exact ok.1, fun q hq => ?_⟩
      refine Post.newT S p (vs := [.str (Txt.partition (tx a) (tx b)).1, .str (Txt.partition (tx a) (tx b)).2.1, .str (Txt.partition (tx a) (tx b)).2.2]) ?_ q hq
      have r := reps_okTxL (K := X.K) (F := F) hl.2
      unfold partT at r ⊢
      simp only [List.map_cons, List.map_nil] at r ⊢
      rw [← tx_tlT, ← tx_tlT, ← tx_tlT] at r
      exact r
    · rw [if_neg hl] at e; cases e
end
theorem oPartL_ap (a b : List Nat) : oPartL (.str a) (.str b) = partEndL a b := byDef rfl
theorem partT_free {a b y : List Nat} (hy : y ≠ []) (h : ∀ i, i < a.length → TL.pre y ((a ++ (y ++ b)).drop i) = false) : partT (a ++ y ++ b) y = [a, y, b] := by
  unfold partT
  have e3 : TL.tl (tx (a ++ y ++ b)) = a ++ (y ++ b) := by (rw [List.append_assoc] <;> try rfl)
  rw [TL.partition_par (tx (a ++ y ++ b)) (tx y) hy, e3]
  have e4 : TL.tl (tx y) = y := rfl
  rw [e4, TL.par_part hy h]
  rfl
theorem partT_nofind {a y : List Nat} (hy : y ≠ []) (h : ∀ i, i < a.length → TL.pre y (a.drop i) = false) : partT a y = [a, [], []] := by
  unfold partT
  have e3 : TL.tl (tx a) = a := rfl
  have e4 : TL.tl (tx y) = y := rfl
  rw [TL.partition_par (tx a) (tx y) hy, e3, e4, TL.par_none h]
  rfl
theorem pre_at {S l : List Nat} (h : TL.pre S l = true) {j c : Nat} (hj : S[j]? = some c) : l[j]? = some c := by
  have e : l.take S.length = S := eq_of_beq h
  have h2 : (l.take S.length)[j]? = some c := by rw [e]; exact hj
  rw [List.getElem?_take] at h2
  split at h2
  · exact h2
  · cases h2
theorem partEndL_of {a y b : List Nat} (hy : y ≠ []) (h : ∀ i, i < a.length → TL.pre y ((a ++ (y ++ b)).drop i) = false) (hl : (a ++ y ++ b).length ≤ 100000) (h1 : ∀ c ∈ a ++ y ++ b, c < 1000) : partEndL (a ++ y ++ b) y = some (.fz (.tup [.str a, .str y, .str b])) := by
  unfold partEndL
  rw [partT_free hy h, if_pos]
  · rfl
  · rw [Bool.and_eq_true, Bool.and_eq_true, decide_eq_true_eq, List.all_eq_true]
    rw [List.length_append, List.length_append] at hl
    refine ⟨⟨by cases y with | nil => exact absurd rfl hy | cons c r => rfl, by rw [List.length_append, List.length_append]; omega⟩, fun z hz => ?_⟩
    simp only [List.mem_cons, List.not_mem_nil, or_false] at hz
    rcases hz with rfl | rfl | rfl
    · exact okTxL_of (by omega) fun c hc => h1 c (List.mem_append.mpr (.inl (List.mem_append.mpr (.inl hc))))
    · exact okTxL_of (by omega) fun c hc => h1 c (List.mem_append.mpr (.inl (List.mem_append.mpr (.inr hc))))
    · exact okTxL_of (by omega) fun c hc => h1 c (List.mem_append.mpr (.inr hc))
theorem partEndL_none {a y : List Nat} (hy : y ≠ []) (h : ∀ i, i < a.length → TL.pre y (a.drop i) = false) (hl : a.length ≤ 100000) (h1 : ∀ c ∈ a, c < 1000) : partEndL a y = some (.fz (.tup [.str a, .str [], .str []])) := by
  unfold partEndL
  rw [partT_nofind hy h, if_pos]
  · rfl
  · rw [Bool.and_eq_true, Bool.and_eq_true, decide_eq_true_eq, List.all_eq_true]
    refine ⟨⟨by cases y with | nil => exact absurd rfl hy | cons c r => rfl, hl⟩, fun z hz => ?_⟩
    simp only [List.mem_cons, List.not_mem_nil, or_false] at hz
    rcases hz with rfl | rfl | rfl
    · exact okTxL_of hl h1
    · rfl
    · rfl
theorem rangeD_cons (i n : Nat) : rangeD (i : Int) (n + 1) = D.int i :: rangeD ((i + 1 : Nat) : Int) n := by
  unfold rangeD
  rw [List.range_succ_eq_map, List.map_cons, List.map_map]
  congr 1
  apply List.map_congr_left
  intro a _
  show D.int _ = D.int _
  congr 1
  omega
theorem rangeD_nil (i : Int) : rangeD i 0 = [] := rfl
end Vl
/-! loops over what is mapped -/
namespace Vl
open PySem PySem.Spec PyProof.Rows L2
/-- a loop over xs.map f that searches -/
theorem loop_allBy {α : Type} {g : VG} {body : VS} (f : α → D) (S : Sts → Prop) (ok : α → Bool) (r : Val) : ∀ (xs : List α) (st : Sts), S st →
    (∀ x s, x ∈ xs → S s → ∃ s1, g (f x) s = some s1 ∧ (ok x = true → ∃ s2, body s1 = .ok (.nx s2) ∧ S s2) ∧ (ok x = false → body s1 = .ok (.rt r))) →
    (xs.all ok = true → ∃ s, loop g body (xs.map f) st = .ok (.nx s) ∧ S s) ∧ (xs.all ok = false → loop g body (xs.map f) st = .ok (.rt r))
  | [], st, h, _ => ⟨fun _ => ⟨st, rfl, h⟩, fun e => by cases e⟩
  | d :: ds, st, h, hs => by
    obtain ⟨s1, g1, h1, h2⟩ := hs d st List.mem_cons_self h
    rw [List.map_cons]
    cases hd : ok d with
    | true =>
      obtain ⟨s2, hb, h3⟩ := h1 hd
      obtain ⟨q1, q2⟩ := loop_allBy f S ok r ds s2 h3 fun d s hd => hs d s (List.mem_cons_of_mem _ hd)
      have e : loop g body (f d :: ds.map f) st = loop g body (ds.map f) s2 := by rw [loop_cons, g1, turnEnd_ap, hb, R.bind_ok, kTurn_nx]
      rw [e, List.all_cons, hd, Bool.true_and]
      exact ⟨q1, q2⟩
    | false =>
      rw [List.all_cons, hd, Bool.false_and]
      refine ⟨fun e => (by cases e), fun _ => ?_⟩
      rw [loop_cons, g1, turnEnd_ap, h2 hd, R.bind_ok, kTurn_rt]
/-- a loop over xs.map f by what is gone through -/
theorem loop_by {α : Type} {g : VG} {body : VS} (f : α → D) (P : List α → Sts → Prop) : ∀ (xs pre : List α) (st : Sts), P pre st →
    (∀ pre' x rest s, pre ++ xs = pre' ++ x :: rest → P pre' s → ∃ s1, g (f x) s = some s1 ∧ ∃ s2, (body s1 = .ok (.nx s2) ∨ body s1 = .ok (.ct s2)) ∧ P (pre' ++ [x]) s2) →
    ∃ s, loop g body (xs.map f) st = .ok (.nx s) ∧ P (pre ++ xs) s
  | [], pre, st, h, _ => ⟨st, rfl, by rw [List.append_nil]; exact h⟩
  | x :: xs, pre, st, h, hs => by
    obtain ⟨s1, g1, s2, hb, h2⟩ := hs pre x xs st rfl h
    obtain ⟨s, e, h3⟩ := loop_by f P xs (pre ++ [x]) s2 h2 fun pre' y rest s q => hs pre' y rest s (by rw [← q, List.append_assoc]; rfl)
    refine ⟨s, ?_, by rw [List.append_assoc] at h3; exact h3⟩
    rw [List.map_cons, loop_cons, g1, turnEnd_ap]
    rcases hb with hb | hb
    · rw [hb, R.bind_ok, kTurn_nx]; exact e
    · rw [hb, R.bind_ok, kTurn_ct]; exact e
end Vl
/-! whys, in plain Lean: sums of products of names -/
namespace Wy
abbrev Tx := List Nat
abbrev P := List Tx
abbrev W := List (P × Int)
def leT (a b : Tx) : Bool := decide (a ≤ b)
def leP (a b : P) : Bool := decide (a ≤ b)
def leW (a b : P × Int) : Bool := leP a.1 b.1
theorem leT_trans (a b c : Tx) (h : leT a b = true) (h2 : leT b c = true) : leT a c = true := decide_eq_true (List.le_trans (of_decide_eq_true h) (of_decide_eq_true h2))
theorem leP_trans (a b c : P) (h : leP a b = true) (h2 : leP b c = true) : leP a c = true := decide_eq_true (List.le_trans (of_decide_eq_true h) (of_decide_eq_true h2))
theorem leT_total (a b : Tx) : (leT a b || leT b a) = true := by
  rw [Bool.or_eq_true]
  exact (List.le_total a b).imp decide_eq_true decide_eq_true
theorem leP_total (a b : P) : (leP a b || leP b a) = true := by
  rw [Bool.or_eq_true]
  exact (List.le_total a b).imp decide_eq_true decide_eq_true
theorem leT_anti {a b : Tx} (h : leT a b = true) (h2 : leT b a = true) : a = b := Std.le_antisymm (of_decide_eq_true h) (of_decide_eq_true h2)
theorem leP_anti {a b : P} (h : leP a b = true) (h2 : leP b a = true) : a = b := Std.le_antisymm (of_decide_eq_true h) (of_decide_eq_true h2)
theorem ltP_trans {a b c : P} (h : a < b) (h2 : b < c) : a < c := List.lt_trans h h2
theorem ltP_irrefl (a : P) : ¬ a < a := List.lt_irrefl a
theorem ltP_tri (a b : P) : a < b ∨ a = b ∨ b < a := by
  by_cases h : a < b
  · exact .inl h
  · by_cases h2 : b < a
    · exact .inr (.inr h2)
    · exact .inr (.inl (Std.le_antisymm (List.not_lt.mp h2) (List.not_lt.mp h)))
def sortP (l : List Tx) : P := l.mergeSort leT
def sortW (w : W) : W := w.mergeSort leW
theorem sortP_perm {l m : List Tx} (h : l.Perm m) : sortP l = sortP m :=
  List.Perm.eq_of_pairwise (le := fun a b => leT a b = true) (fun a b _ _ h1 h2 => leT_anti h1 h2) (List.pairwise_mergeSort leT_trans leT_total l) (List.pairwise_mergeSort leT_trans leT_total m) (((List.mergeSort_perm l leT).trans h).trans (List.mergeSort_perm m leT).symm)
theorem sortP_sorted (l : List Tx) : (sortP l).Pairwise (fun a b => leT a b = true) := List.pairwise_mergeSort leT_trans leT_total l
theorem sortP_self {l : List Tx} (h : l.Pairwise (fun a b => leT a b = true)) : sortP l = l := List.mergeSort_of_pairwise h
theorem sortP_idem (l : List Tx) : sortP (sortP l) = sortP l := sortP_self (sortP_sorted l)
theorem sortP_left (l m : List Tx) : sortP (sortP l ++ m) = sortP (l ++ m) := sortP_perm ((List.mergeSort_perm l leT).append_right m)
theorem sortP_right (l m : List Tx) : sortP (l ++ sortP m) = sortP (l ++ m) := sortP_perm ((List.mergeSort_perm m leT).append_left l)
theorem sortP_comm (l m : List Tx) : sortP (l ++ m) = sortP (m ++ l) := sortP_perm List.perm_append_comm
/-! ### evaluation -/
def ev : W → (P → Int) → Int
  | [], _ => 0
  | p :: r, f => p.2 * f p.1 + ev r f
theorem ev_nil (f : P → Int) : ev [] f = 0 := rfl
theorem ev_cons (p : P × Int) (r : W) (f : P → Int) : ev (p :: r) f = p.2 * f p.1 + ev r f := rfl
theorem ev_append (a b : W) (f : P → Int) : ev (a ++ b) f = ev a f + ev b f := by
  induction a with
  | nil => rw [List.nil_append, ev_nil, Int.zero_add]
  | cons p a ih => rw [List.cons_append, ev_cons, ev_cons, ih, Int.add_assoc]
theorem ev_perm {a b : W} (h : a.Perm b) (f : P → Int) : ev a f = ev b f := by
  induction h with
  | nil => rfl
  | cons x _ ih => rw [ev_cons, ev_cons, ih]
  | swap x y l => simp only [ev_cons]; omega
  | trans _ _ h1 h2 => exact h1.trans h2
theorem ev_congr {a : W} {f g : P → Int} (h : ∀ p ∈ a, f p.1 = g p.1) : ev a f = ev a g := by
  induction a with
  | nil => rfl
  | cons p a ih => rw [ev_cons, ev_cons, h p List.mem_cons_self, ih fun q hq => h q (List.mem_cons_of_mem _ hq)]
theorem ev_add (a : W) (f g : P → Int) : ev a (fun p => f p + g p) = ev a f + ev a g := by
  induction a with
  | nil => rfl
  | cons p a ih => rw [ev_cons, ev_cons, ev_cons, ih, Int.mul_add]; omega
theorem ev_smul (a : W) (c : Int) (f : P → Int) : ev a (fun p => c * f p) = c * ev a f := by
  induction a with
  | nil => rw [ev_nil, ev_nil, Int.mul_zero]
  | cons p a ih => rw [ev_cons, ev_cons, ih, Int.mul_add, ← Int.mul_assoc, ← Int.mul_assoc, Int.mul_comm p.2 c]
theorem ev_zero (a : W) : ev a (fun _ => 0) = 0 := by
  induction a with
  | nil => rfl
  | cons p a ih => rw [ev_cons, ih, Int.mul_zero]; rfl
theorem ev_swap (a b : W) (g : P → P → Int) : ev a (fun p => ev b (g p)) = ev b (fun q => ev a fun p => g p q) := by
  induction a with
  | nil =>
    rw [ev_nil]
    exact (ev_zero b).symm
  | cons p a ih =>
    rw [ev_cons, ih, ← ev_smul, ← ev_add]
    rfl
/-! ### gathering -/
def addP : W → P → Int → W
  | [], k, v => [(k, v)]
  | q :: r, k, v => if q.1 = k then (q.1, q.2 + v) :: r else q :: addP r k v
theorem ev_addP (l : W) (k : P) (v : Int) (f : P → Int) : ev (addP l k v) f = ev l f + v * f k := by
  induction l with
  | nil =>
    show v * f k + 0 = 0 + v * f k
    omega
  | cons q r ih =>
    unfold addP
    by_cases h : q.1 = k
    · rw [if_pos h, ev_cons, ev_cons, ← h]
      show (q.2 + v) * f q.1 + ev r f = _
      rw [Int.add_mul]
      omega
    · rw [if_neg h, ev_cons, ev_cons, ih, Int.add_assoc]
theorem mem_addP {l : W} {k j : P} {v : Int} : j ∈ (addP l k v).map (·.1) ↔ j ∈ l.map (·.1) ∨ j = k := by
  induction l with
  | nil => simp [addP]
  | cons q r ih =>
    unfold addP
    by_cases h : q.1 = k
    · rw [if_pos h, List.map_cons, List.map_cons]
      show j ∈ q.1 :: _ ↔ _
      constructor
      · exact .inl
      · rintro (h1 | h1)
        · exact h1
        · rw [h1, ← h]
          exact List.mem_cons_self
    · rw [if_neg h, List.map_cons, List.map_cons, List.mem_cons, List.mem_cons, ih, or_assoc]
theorem nodup_addP {l : W} {k : P} {v : Int} (h : (l.map (·.1)).Nodup) : ((addP l k v).map (·.1)).Nodup := by
  induction l with
  | nil => simp [addP]
  | cons q r ih =>
    rw [List.map_cons, List.nodup_cons] at h
    unfold addP
    by_cases e : q.1 = k
    · rw [if_pos e, List.map_cons, List.nodup_cons]
      exact h
    · rw [if_neg e, List.map_cons, List.nodup_cons]
      refine ⟨fun hm => ?_, ih h.2⟩
      rcases mem_addP.mp hm with h1 | h1
      · exact h.1 h1
      · exact e h1
theorem pos_addP {l : W} {k : P} {v c : Int} (hc : 0 ≤ c) (hv : c ≤ v) (h : ∀ p ∈ l, c ≤ p.2) : ∀ p ∈ addP l k v, c ≤ p.2 := by
  induction l with
  | nil =>
    intro p hp
    rw [show addP [] k v = [(k, v)] from rfl, List.mem_singleton] at hp
    subst hp
    exact hv
  | cons q r ih =>
    unfold addP
    by_cases e : q.1 = k
    · rw [if_pos e]
      intro p hp
      rcases List.mem_cons.mp hp with rfl | hp
      · have := h q List.mem_cons_self
        show c ≤ q.2 + v
        omega
      · exact h p (List.mem_cons_of_mem _ hp)
    · rw [if_neg e]
      intro p hp
      rcases List.mem_cons.mp hp with rfl | hp
      · exact h p List.mem_cons_self
      · exact ih (fun p hp => h p (List.mem_cons_of_mem _ hp)) p hp
theorem length_addP (l : W) (k : P) (v : Int) : (addP l k v).length ≤ l.length + 1 := by
  induction l with
  | nil => exact Nat.le_refl _
  | cons q r ih =>
    unfold addP
    split
    · exact Nat.le_succ _
    · rw [List.length_cons, List.length_cons]; omega
def gathA (l : W) : W := l.foldl (fun a p => addP a p.1 p.2) []
theorem gathA_inv (l a : W) (ha : (a.map (·.1)).Nodup) : ((l.foldl (fun a p => addP a p.1 p.2) a).map (·.1)).Nodup ∧ (∀ f, ev (l.foldl (fun a p => addP a p.1 p.2) a) f = ev a f + ev l f) ∧
    (∀ j, j ∈ (l.foldl (fun a p => addP a p.1 p.2) a).map (·.1) ↔ j ∈ a.map (·.1) ∨ j ∈ l.map (·.1)) ∧ (l.foldl (fun a p => addP a p.1 p.2) a).length ≤ a.length + l.length ∧
    ∀ c : Int, 0 ≤ c → (∀ p ∈ a, c ≤ p.2) → (∀ p ∈ l, c ≤ p.2) → ∀ p ∈ l.foldl (fun a p => addP a p.1 p.2) a, c ≤ p.2 := by
  induction l generalizing a with
  | nil => exact ⟨ha, fun f => by rw [ev_nil]; simp, fun j => by simp, by simp, fun c _ h _ => h⟩
  | cons p l ih =>
    obtain ⟨h1, h2, h3, h4, h5⟩ := ih (addP a p.1 p.2) (nodup_addP ha)
    refine ⟨h1, fun f => ?_, fun j => ?_, ?_, fun c hc q1 q2 => ?_⟩
    · rw [List.foldl_cons, h2, ev_addP, ev_cons, Int.add_assoc]
    · rw [List.foldl_cons, h3, mem_addP, List.map_cons, List.mem_cons, or_assoc]
    · rw [List.foldl_cons, List.length_cons]
      have := length_addP a p.1 p.2
      omega
    · exact h5 c hc (pos_addP hc (q2 p List.mem_cons_self) q1) fun q hq => q2 q (List.mem_cons_of_mem _ hq)
theorem nodup_gathA (l : W) : ((gathA l).map (·.1)).Nodup := (gathA_inv l [] List.nodup_nil).1
theorem ev_gathA (l : W) (f : P → Int) : ev (gathA l) f = ev l f := by rw [gathA, (gathA_inv l [] List.nodup_nil).2.1, ev_nil, Int.zero_add]
theorem mem_gathA (l : W) (j : P) : j ∈ (gathA l).map (·.1) ↔ j ∈ l.map (·.1) := by
  rw [gathA, (gathA_inv l [] List.nodup_nil).2.2.1]
  simp
theorem length_gathA (l : W) : (gathA l).length ≤ l.length := by
  have := (gathA_inv l [] List.nodup_nil).2.2.2.1
  rw [gathA]
  simpa using this
theorem ge_gathA {l : W} {c : Int} (hc : 0 ≤ c) (h : ∀ p ∈ l, c ≤ p.2) : ∀ p ∈ gathA l, c ≤ p.2 := (gathA_inv l [] List.nodup_nil).2.2.2.2 c hc (by simp) h
/-! ### the normal form -/
def NF (w : W) : Prop := w.Pairwise (fun a b => a.1 < b.1) ∧ ∀ p ∈ w, 0 < p.2
theorem sortW_perm (w : W) : (sortW w).Perm w := List.mergeSort_perm w leW
theorem sortW_lt {w : W} (h : (w.map (·.1)).Nodup) : (sortW w).Pairwise (fun a b => a.1 < b.1) := by
  have h1 : (sortW w).Pairwise (fun a b => leW a b = true) := List.pairwise_mergeSort (le := leW) (fun a b c => leP_trans a.1 b.1 c.1) (fun a b => leP_total a.1 b.1) w
  have h2 : (sortW w).Pairwise (fun a b => a.1 ≠ b.1) := by
    have : ((sortW w).map (·.1)).Nodup := ((sortW_perm w).map (·.1)).nodup_iff.mpr h
    rw [List.Nodup, List.pairwise_map] at this
    exact this
  refine (List.pairwise_and_iff.mpr ⟨h1, h2⟩).imp fun {a b} q => ?_
  rcases ltP_tri a.1 b.1 with q1 | q1 | q1
  · exact q1
  · exact (q.2 q1).elim
  · exact (q.2 (leP_anti q.1 (decide_eq_true (List.le_of_lt q1)))).elim
def norm (l : W) : W := (sortW (gathA l)).filter fun p => decide (0 < p.2)
theorem ev_filter {l : W} (h : ∀ p ∈ l, 0 ≤ p.2) (f : P → Int) : ev (l.filter fun p => decide (0 < p.2)) f = ev l f := by
  induction l with
  | nil => rfl
  | cons p l ih =>
    have ih := ih fun q hq => h q (List.mem_cons_of_mem _ hq)
    have h0 := h p List.mem_cons_self
    rw [List.filter_cons]
    by_cases e : 0 < p.2
    · rw [if_pos (decide_eq_true e), ev_cons, ev_cons, ih]
    · rw [if_neg (by rw [decide_eq_false e]; decide), ev_cons, ih, show p.2 = 0 by omega, Int.zero_mul, Int.zero_add]
theorem ev_norm {l : W} (h : ∀ p ∈ l, 0 ≤ p.2) (f : P → Int) : ev (norm l) f = ev l f := by
  unfold norm
  rw [ev_filter (fun p hp => ge_gathA (Int.le_refl _) h p ((sortW_perm _).mem_iff.mp hp)), ev_perm (sortW_perm _), ev_gathA]
theorem nf_norm (l : W) : NF (norm l) := by
  refine ⟨(sortW_lt (nodup_gathA l)).filter _, fun p hp => ?_⟩
  exact of_decide_eq_true (List.mem_filter.mp hp).2
theorem norm_pos {l : W} (h : ∀ p ∈ l, 0 < p.2) : norm l = sortW (gathA l) := by
  unfold norm
  rw [List.filter_eq_self]
  intro p hp
  exact decide_eq_true (Int.lt_of_lt_of_le (by decide) (ge_gathA (c := 1) (by decide) (fun q hq => h q hq) p ((sortW_perm _).mem_iff.mp hp)))
theorem mem_norm_key {l : W} {p : P × Int} (h : p ∈ norm l) : p.1 ∈ l.map (·.1) := by
  have := (sortW_perm _).mem_iff.mp (List.mem_filter.mp h).1
  exact (mem_gathA l p.1).mp (List.mem_map.mpr ⟨p, this, rfl⟩)
theorem length_norm (l : W) : (norm l).length ≤ l.length := by
  have h1 := List.length_filter_le (fun p : P × Int => decide (0 < p.2)) (sortW (gathA l))
  have h2 := (sortW_perm (gathA l)).length_eq
  have h3 := length_gathA l
  unfold norm
  omega
def co (w : W) (k : P) : Int := ev w fun p => if p = k then 1 else 0
theorem co_cons (p : P × Int) (w : W) (k : P) : co (p :: w) k = (if p.1 = k then p.2 else 0) + co w k := by
  show p.2 * (if p.1 = k then 1 else 0) + co w k = _
  split
  · rw [Int.mul_one]
  · rw [Int.mul_zero]
theorem co_none {w : W} {k : P} (h : ∀ p ∈ w, p.1 ≠ k) : co w k = 0 := by
  induction w with
  | nil => rfl
  | cons p w ih =>
    rw [co_cons, if_neg (h p List.mem_cons_self), ih fun q hq => h q (List.mem_cons_of_mem _ hq)]
    rfl
theorem NF.tail {p : P × Int} {w : W} (h : NF (p :: w)) : NF w := ⟨(List.pairwise_cons.mp h.1).2, fun q hq => h.2 q (List.mem_cons_of_mem _ hq)⟩
theorem NF.head {p : P × Int} {w : W} (h : NF (p :: w)) : ∀ q ∈ w, p.1 < q.1 := (List.pairwise_cons.mp h.1).1
theorem NF.co_head {p : P × Int} {w : W} (h : NF (p :: w)) : co (p :: w) p.1 = p.2 := by
  rw [co_cons, if_pos rfl, co_none fun q hq e => ltP_irrefl _ (e ▸ h.head q hq), Int.add_zero]
theorem NF.co_less {p : P × Int} {w : W} (h : NF (p :: w)) {k : P} (hk : k < p.1) : co (p :: w) k = 0 := by
  refine co_none fun q hq e => ?_
  rcases List.mem_cons.mp hq with rfl | hq
  · rw [e] at hk; exact ltP_irrefl _ hk
  · have := ltP_trans hk (h.head q hq)
    rw [e] at this
    exact ltP_irrefl _ this
theorem NF.ext : ∀ {a b : W}, NF a → NF b → (∀ k, co a k = co b k) → a = b
  | [], [], _, _, _ => rfl
  | [], q :: b, _, hb, h => by
    have := h q.1
    rw [hb.co_head] at this
    have h2 := hb.2 q List.mem_cons_self
    rw [← this] at h2
    exact absurd h2 (Int.lt_irrefl 0)
  | p :: a, [], ha, _, h => by
    have := h p.1
    rw [ha.co_head] at this
    have h2 := ha.2 p List.mem_cons_self
    rw [this] at h2
    exact absurd h2 (Int.lt_irrefl 0)
  | p :: a, q :: b, ha, hb, h => by
    have h1 := h p.1
    have h2 := h q.1
    have hp := ha.2 p List.mem_cons_self
    have hq := hb.2 q List.mem_cons_self
    rw [ha.co_head] at h1
    rw [hb.co_head] at h2
    rcases ltP_tri p.1 q.1 with q1 | q1 | q1
    · rw [hb.co_less q1] at h1
      omega
    · have e2 : p.2 = q.2 := by rw [q1, hb.co_head] at h1; exact h1
      have e : p = q := Prod.ext q1 e2
      subst e
      rw [NF.ext ha.tail hb.tail fun k => by
        have := h k
        rw [co_cons, co_cons] at this
        omega]
    · rw [ha.co_less q1] at h2
      omega
theorem NF.ext_ev {a b : W} (ha : NF a) (hb : NF b) (h : ∀ f, ev a f = ev b f) : a = b := NF.ext ha hb fun k => h _
theorem NF.mem_co {w : W} (h : NF w) {p : P × Int} (hp : p ∈ w) : co w p.1 = p.2 := by
  induction w with
  | nil => cases hp
  | cons q w ih =>
    rcases List.mem_cons.mp hp with rfl | hp
    · exact h.co_head
    · rw [co_cons, if_neg (fun e => ltP_irrefl _ (e ▸ h.head p hp)), ih h.tail hp, Int.zero_add]
theorem NF.norm_self {w : W} (h : NF w) : norm w = w := NF.ext_ev (nf_norm w) h fun f => ev_norm (fun p hp => Int.le_of_lt (h.2 p hp)) f
theorem nonneg_of_nf {w : W} (h : NF w) : ∀ p ∈ w, 0 ≤ p.2 := fun p hp => Int.le_of_lt (h.2 p hp)
/-! ### sums and products -/
def plusW (a b : W) : W := norm ((a ++ b).map fun p => (sortP p.1, p.2))
def pairsW (a b : W) : W := a.flatMap fun p => b.map fun q => (sortP (p.1 ++ q.1), p.2 * q.2)
def timesW (a b : W) : W := norm (pairsW a b)
def Srt (w : W) : Prop := ∀ p ∈ w, sortP p.1 = p.1
theorem ev_map_sort (w : W) (f : P → Int) : ev (w.map fun p => (sortP p.1, p.2)) f = ev w fun p => f (sortP p) := by
  induction w with
  | nil => rfl
  | cons p w ih => rw [List.map_cons, ev_cons, ev_cons, ih]
theorem map_sort_self {w : W} (h : Srt w) : w.map (fun p => (sortP p.1, p.2)) = w := by
  induction w with
  | nil => rfl
  | cons p w ih => rw [List.map_cons, h p List.mem_cons_self, ih fun q hq => h q (List.mem_cons_of_mem _ hq)]
theorem ev_pairs1 (p : P × Int) (b : W) (f : P → Int) : ev (b.map fun q => (sortP (p.1 ++ q.1), p.2 * q.2)) f = p.2 * ev b fun q => f (sortP (p.1 ++ q)) := by
  induction b with
  | nil => rw [List.map_nil, ev_nil, ev_nil, Int.mul_zero]
  | cons q b ih => rw [List.map_cons, ev_cons, ev_cons, ih, Int.mul_add, Int.mul_assoc]
theorem ev_pairs (a b : W) (f : P → Int) : ev (pairsW a b) f = ev a fun p => ev b fun q => f (sortP (p ++ q)) := by
  induction a with
  | nil => rfl
  | cons p a ih =>
    rw [pairsW, List.flatMap_cons, ev_append, ev_cons, ev_pairs1]
    exact congrArg _ ih
theorem pairs_nonneg {a b : W} (ha : ∀ p ∈ a, 0 ≤ p.2) (hb : ∀ p ∈ b, 0 ≤ p.2) : ∀ p ∈ pairsW a b, 0 ≤ p.2 := by
  intro p hp
  obtain ⟨q, hq, hp⟩ := List.mem_flatMap.mp hp
  obtain ⟨r, hr, rfl⟩ := List.mem_map.mp hp
  exact Int.mul_nonneg (ha q hq) (hb r hr)
theorem plus_nonneg {a b : W} (ha : ∀ p ∈ a, 0 ≤ p.2) (hb : ∀ p ∈ b, 0 ≤ p.2) : ∀ p ∈ (a ++ b).map (fun p => (sortP p.1, p.2)), 0 ≤ p.2 := by
  intro p hp
  obtain ⟨q, hq, rfl⟩ := List.mem_map.mp hp
  rcases List.mem_append.mp hq with hq | hq
  · exact ha q hq
  · exact hb q hq
theorem nf_plus (a b : W) : NF (plusW a b) := nf_norm _
theorem nf_times (a b : W) : NF (timesW a b) := nf_norm _
theorem ev_plus {a b : W} (ha : ∀ p ∈ a, 0 ≤ p.2) (hb : ∀ p ∈ b, 0 ≤ p.2) (f : P → Int) : ev (plusW a b) f = ev a (fun p => f (sortP p)) + ev b fun p => f (sortP p) := by
  unfold plusW
  rw [ev_norm (plus_nonneg ha hb), ev_map_sort, ev_append]
theorem ev_times {a b : W} (ha : ∀ p ∈ a, 0 ≤ p.2) (hb : ∀ p ∈ b, 0 ≤ p.2) (f : P → Int) : ev (timesW a b) f = ev a fun p => ev b fun q => f (sortP (p ++ q)) := by
  unfold timesW
  rw [ev_norm (pairs_nonneg ha hb), ev_pairs]
theorem srt_plus (a b : W) : Srt (plusW a b) := by
  intro p hp
  obtain ⟨q, hq, e⟩ := List.mem_map.mp (mem_norm_key hp)
  obtain ⟨r, hr, rfl⟩ := List.mem_map.mp hq
  rw [← e]
  exact sortP_idem _
theorem srt_times (a b : W) : Srt (timesW a b) := by
  intro p hp
  obtain ⟨q, hq, e⟩ := List.mem_map.mp (mem_norm_key hp)
  obtain ⟨r, hr, hq⟩ := List.mem_flatMap.mp hq
  obtain ⟨t, ht, rfl⟩ := List.mem_map.mp hq
  rw [← e]
  exact sortP_idem _
theorem ev_srt {a : W} (h : Srt a) (f : P → Int) : ev a (fun p => f (sortP p)) = ev a f := ev_congr fun p hp => by rw [h p hp]
theorem plus_comm {a b : W} (ha : NF a) (hb : NF b) : plusW a b = plusW b a := (nf_plus a b).ext_ev (nf_plus b a) fun f => by
  rw [ev_plus (nonneg_of_nf ha) (nonneg_of_nf hb), ev_plus (nonneg_of_nf hb) (nonneg_of_nf ha), Int.add_comm]
theorem times_comm {a b : W} (ha : NF a) (hb : NF b) : timesW a b = timesW b a := (nf_times a b).ext_ev (nf_times b a) fun f => by
  rw [ev_times (nonneg_of_nf ha) (nonneg_of_nf hb), ev_times (nonneg_of_nf hb) (nonneg_of_nf ha), ev_swap]
  refine ev_congr fun q _ => ev_congr fun p _ => ?_
  rw [sortP_comm]
theorem plus_assoc {a b c : W} (ha : NF a) (hb : NF b) (hc : NF c) : plusW (plusW a b) c = plusW a (plusW b c) := (nf_plus _ _).ext_ev (nf_plus _ _) fun f => by
  rw [ev_plus (nonneg_of_nf (nf_plus a b)) (nonneg_of_nf hc), ev_plus (nonneg_of_nf ha) (nonneg_of_nf (nf_plus b c)), ev_plus (nonneg_of_nf ha) (nonneg_of_nf hb), ev_plus (nonneg_of_nf hb) (nonneg_of_nf hc)]
  simp only [sortP_idem]
  omega
theorem times_assoc {a b c : W} (ha : NF a) (hb : NF b) (hc : NF c) : timesW (timesW a b) c = timesW a (timesW b c) := (nf_times _ _).ext_ev (nf_times _ _) fun f => by
  rw [ev_times (nonneg_of_nf (nf_times a b)) (nonneg_of_nf hc), ev_times (nonneg_of_nf ha) (nonneg_of_nf (nf_times b c)), ev_times (nonneg_of_nf ha) (nonneg_of_nf hb)]
  refine ev_congr fun p _ => ?_
  rw [ev_times (nonneg_of_nf hb) (nonneg_of_nf hc)]
  refine ev_congr fun q _ => ev_congr fun r _ => ?_
  rw [sortP_left, sortP_right, List.append_assoc]
theorem times_plus {a b c : W} (ha : NF a) (hb : NF b) (hc : NF c) : timesW (plusW a b) c = plusW (timesW a c) (timesW b c) := (nf_times _ _).ext_ev (nf_plus _ _) fun f => by
  rw [ev_times (nonneg_of_nf (nf_plus a b)) (nonneg_of_nf hc), ev_plus (nonneg_of_nf (nf_times a c)) (nonneg_of_nf (nf_times b c)), ev_plus (nonneg_of_nf ha) (nonneg_of_nf hb), ev_times (nonneg_of_nf ha) (nonneg_of_nf hc), ev_times (nonneg_of_nf hb) (nonneg_of_nf hc)]
  simp only [sortP_left, sortP_idem]
theorem plus_nil {a : W} (ha : NF a) (hs : Srt a) : plusW a [] = a := (nf_plus _ _).ext_ev ha fun f => by
  rw [ev_plus (nonneg_of_nf ha) (by simp), ev_nil, ev_srt hs, Int.add_zero]
theorem times_one {a : W} (ha : NF a) (hs : Srt a) : timesW a [([], 1)] = a := (nf_times _ _).ext_ev ha fun f => by
  rw [ev_times (nonneg_of_nf ha) (by simp)]
  refine (ev_congr fun p hp => ?_)
  rw [ev_cons, ev_nil, List.append_nil, hs p hp]
  show 1 * f p.1 + 0 = f p.1
  omega
theorem times_nil {a : W} (ha : NF a) : timesW a [] = [] := (nf_times _ _).ext_ev ⟨.nil, by simp⟩ fun f => by
  rw [ev_times (nonneg_of_nf ha) (by simp)]
  exact ev_zero a
end Wy
/-! whys as data -/
namespace Wy
open Vl
def prodD (p : P) : D := .tup (p.map .str)
def pairD (p : P × Int) : D := .tup [prodD p.1, .int p.2]
def whyL (w : W) : List D := w.map pairD
def whyD (w : W) : D := .lst (whyL w)
def kD (p : P × Int) : D := prodD p.1
def vD (p : P × Int) : D := .int p.2
theorem strs_inj : ∀ {p q : List Tx}, p.map D.str = q.map D.str → p = q
  | [], [], _ => rfl
  | [], _ :: _, h => by cases h
  | _ :: _, [], h => by cases h
  | a :: p, b :: q, h => by
    rw [List.map_cons, List.map_cons] at h
    injection h with h1 h2
    rw [D.str.inj h1, strs_inj h2]
theorem prodD_inj {p q : P} (h : prodD p = prodD q) : p = q := strs_inj (D.tup.inj h)
theorem kD_ne {q : P × Int} {k : P} (h : ¬ q.1 = k) : ¬ kD q = prodD k := fun z => h (prodD_inj z)
theorem kD_eq {q : P × Int} {k : P} (h : q.1 = k) : kD q = prodD k := congrArg prodD h
theorem pairD_inj {p q : P × Int} (h : pairD p = pairD q) : p = q := by
  have h := D.tup.inj h
  injection h with h1 h2
  injection h2 with h3 _
  exact Prod.ext (prodD_inj h1) (D.int.inj h3)
theorem whyL_inj : ∀ {a b : W}, whyL a = whyL b → a = b
  | [], [], _ => rfl
  | [], _ :: _, h => by cases h
  | _ :: _, [], h => by cases h
  | p :: a, q :: b, h => by
    have h : pairD p :: whyL a = pairD q :: whyL b := h
    injection h with h1 h2
    rw [pairD_inj h1, whyL_inj h2]
theorem whyD_inj {a b : W} (h : whyD a = whyD b) : a = b := whyL_inj (D.lst.inj h)
/-! ### the order -/
theorem leD_str (a b : Tx) : leD (.str a) (.str b) = leT a b := by
  have h := congrFun (congrFun (PySem.W.dataLe_str (β := Tx) fun x => tx x) a) b
  exact h
open PySem PySem.W PyProof.Rows in
theorem rowLt_strs : ∀ xs ys : List Tx, rowLt (xs.map fun x => PyData.str (tx x)) (ys.map fun x => PyData.str (tx x)) = decide (xs < ys)
  | [], [] => by
    have e : rowLt [] [] = false := lex_irrefl _
    simp [e]
  | [], y :: ys => by
    have e : rowLt [] (PyData.str (tx y) :: ys.map fun x => PyData.str (tx x)) = true := by
      unfold rowLt
      rw [toks_all_cons]
      simp only [keyToksAll]
      rw [lex_diff (O := itemOrd) (by simp)]
      rfl
    simpa using e
  | x :: xs, [] => by
    have e : rowLt (PyData.str (tx x) :: xs.map fun x => PyData.str (tx x)) [] = false := by
      unfold rowLt
      rw [toks_all_cons]
      simp only [keyToksAll]
      rw [lex_diff (O := itemOrd) (by simp)]
      rfl
    simpa using e
  | x :: xs, y :: ys => by
    have e : rowLt (PyData.str (tx x) :: xs.map fun x => PyData.str (tx x)) (PyData.str (tx y) :: ys.map fun x => PyData.str (tx x)) = if x = y then rowLt (xs.map fun x => PyData.str (tx x)) (ys.map fun x => PyData.str (tx x)) else decide (x < y) := by
      unfold rowLt
      rw [dataLt_cons (by simp [alike]), dataLt_str]
      have : (PyData.eqv (.str (tx x)) (.str (tx y)) = true) ↔ x = y := by
        simp [PyData.eqv]
      by_cases h : x = y
      · rw [if_pos (this.mpr h), if_pos h]
      · rw [if_neg (fun q => h (this.mp q)), if_neg h]
    rw [List.map_cons, List.map_cons, e]
    by_cases h : x = y
    · rw [if_pos h, rowLt_strs xs ys]
      simp [h, List.cons_lt_cons_iff]
    · rw [if_neg h]
      simp [h, List.cons_lt_cons_iff]
theorem pys_strs : ∀ p : List Tx, D.pys (p.map D.str) = p.map fun x => PySem.PyData.str (tx x)
  | [] => rfl
  | _ :: p => congrArg (_ :: ·) (pys_strs p)
theorem ltD_prod (a b : P) : PySem.W.dataLt (prodD a).py (prodD b).py = decide (a < b) := by
  have e : ∀ p : P, (prodD p).py = .tuple (p.map fun x => PySem.PyData.str (tx x)) := fun p => congrArg PySem.PyData.tuple (pys_strs p)
  rw [e, e, PySem.W.dataLt_tuple]
  exact rowLt_strs a b
theorem leD_prod (a b : P) : leD (prodD a) (prodD b) = leP a b := by
  show (!PySem.W.dataLt (prodD b).py (prodD a).py) = decide (a ≤ b)
  rw [ltD_prod]
  by_cases h : b < a
  · rw [decide_eq_true h, decide_eq_false (fun q => (List.not_lt.mpr q) h)]; rfl
  · rw [decide_eq_false h, decide_eq_true (List.not_lt.mp h)]; rfl
theorem sortD_strs (l : List Tx) : sortD (l.map D.str) = (sortP l).map D.str :=
  (List.map_mergeSort (r := leT) (s := leD) (f := D.str) (l := l) fun a _ b _ => (leD_str a b).symm).symm
theorem sortD_prods (l : List P) : sortD (l.map prodD) = (l.mergeSort leP).map prodD :=
  (List.map_mergeSort (r := leP) (s := leD) (f := prodD) (l := l) fun a _ b _ => (leD_prod a b).symm).symm
theorem sort_keys (w : W) : sortD (w.map kD) = (sortW w).map kD :=
  (List.map_mergeSort (r := leW) (s := leD) (f := kD) (l := w) fun a _ b _ => (leD_prod a.1 b.1).symm).symm
theorem strs_isStr (l : List Tx) : (l.map D.str).all isStrD = true := by
  rw [List.all_map, List.all_eq_true]; intro x _; rfl
theorem srtOk_strs (l : List Tx) : srtOk (l.map D.str) = true := by
  unfold srtOk
  rw [strs_isStr]; rfl
theorem keys_isTup (w : W) : (w.map kD).all isTupS = true := by
  rw [List.all_map, List.all_eq_true]; intro x _; exact strs_isStr x.1
/-! ### dicts -/
theorem keyT_prod (p : P) : ∃ k, keyT (prodD p) = some k := by
  have : ∀ l : List Tx, ∃ k, keysOf (l.map D.str) = some k := by
    intro l
    induction l with
    | nil => exact ⟨_, rfl⟩
    | cons x l ih =>
      obtain ⟨k, e⟩ := ih
      refine ⟨.inr (tx x) :: k, ?_⟩
      show (keyD (D.str x)).bind (fun κ => (keysOf (l.map D.str)).map (κ :: ·)) = _
      rw [e]
      rfl
  exact this p
def val : W → P → Int
  | [], _ => 0
  | q :: r, k => if q.1 = k then q.2 else val r k
theorem getK_none {w : W} {k : P} (h : k ∉ w.map (·.1)) : getK (w.map kD) (w.map vD) (prodD k) = none := by
  induction w with
  | nil => rfl
  | cons q w ih =>
    rw [List.map_cons, List.mem_cons, not_or] at h
    show (if kD q = prodD k then _ else _) = _
    rw [if_neg (kD_ne fun z => h.1 z.symm)]
    exact ih h.2
theorem getK_some {w : W} {k : P} (h : k ∈ w.map (·.1)) : getK (w.map kD) (w.map vD) (prodD k) = some (.int (val w k)) := by
  induction w with
  | nil => cases h
  | cons q w ih =>
    show (if kD q = prodD k then some (vD q) else _) = _
    unfold val
    by_cases e : q.1 = k
    · rw [if_pos (kD_eq e), if_pos e]; rfl
    · rw [if_neg (kD_ne e), if_neg e]
      rw [List.map_cons, List.mem_cons] at h
      exact ih (h.resolve_left fun z => e z.symm)
theorem val_none {w : W} {k : P} (h : k ∉ w.map (·.1)) : val w k = 0 := by
  induction w with
  | nil => rfl
  | cons q w ih =>
    rw [List.map_cons, List.mem_cons, not_or] at h
    unfold val
    rw [if_neg (fun z => h.1 z.symm), ih h.2]
theorem getK_getD (w : W) (k : P) : (getK (w.map kD) (w.map vD) (prodD k)).getD (.int 0) = .int (val w k) := by
  by_cases h : k ∈ w.map (·.1)
  · rw [getK_some h]; rfl
  · rw [getK_none h, val_none h]; rfl
theorem addP_new {w : W} {k : P} {v : Int} (h : k ∉ w.map (·.1)) : addP w k v = w ++ [(k, v)] := by
  induction w with
  | nil => rfl
  | cons q w ih =>
    rw [List.map_cons, List.mem_cons, not_or] at h
    unfold addP
    rw [if_neg (fun z => h.1 z.symm), ih h.2]; rfl
theorem setK_add {w : W} {k : P} {v : Int} (hn : (w.map (·.1)).Nodup) (h : k ∈ w.map (·.1)) : setK (w.map kD) (w.map vD) (prodD k) (.int (val w k + v)) = (addP w k v).map vD ∧ (addP w k v).map kD = w.map kD := by
  induction w with
  | nil => cases h
  | cons q w ih =>
    rw [List.map_cons, List.nodup_cons] at hn
    have un : ∀ x : D, setK (List.map kD (q :: w)) (List.map vD (q :: w)) (prodD k) x = (if kD q = prodD k then x else vD q) :: setK (List.map kD w) (List.map vD w) (prodD k) x := fun _ => rfl
    rw [un]
    unfold val addP
    by_cases e : q.1 = k
    · have hk : k ∉ w.map (·.1) := e ▸ hn.1
      rw [if_pos (kD_eq e), if_pos e, if_pos e]
      refine ⟨?_, rfl⟩
      rw [List.map_cons]
      have rest : setK (w.map kD) (w.map vD) (prodD k) (.int (q.2 + v)) = w.map vD := by
        clear ih hn un h
        generalize D.int (q.2 + v) = x
        induction w with
        | nil => rfl
        | cons r w ih =>
          rw [List.map_cons, List.mem_cons, not_or] at hk
          show (if kD r = prodD k then _ else vD r) :: setK (w.map kD) (w.map vD) _ _ = _
          rw [if_neg (kD_ne fun z => hk.1 z.symm), List.map_cons, ih hk.2]
      rw [rest]
      rfl
    · rw [if_neg (kD_ne e), if_neg e, if_neg e]
      rw [List.map_cons, List.mem_cons] at h
      obtain ⟨h1, h2⟩ := ih hn.2 (h.resolve_left fun z => e z.symm)
      rw [h1, List.map_cons, List.map_cons, h2]
      exact ⟨rfl, rfl⟩
theorem put_add (w : W) (hn : (w.map (·.1)).Nodup) (k : P) (v : Int) : putKu (w.map kD) (w.map vD) (prodD k) (.int (val w k + v)) = .dcu ((addP w k v).map kD) ((addP w k v).map vD) := by
  unfold putKu
  by_cases h : k ∈ w.map (·.1)
  · rw [getK_some h]
    obtain ⟨h1, h2⟩ := setK_add (v := v) hn h
    rw [h1, h2]
  · rw [getK_none h, val_none h, addP_new h, Int.zero_add, List.map_append, List.map_append]
    rfl
theorem oGet_key {w : W} {k : P} (h : k ∈ w.map (·.1)) : oGetU (w.map kD) (w.map vD) (prodD k) = some (.fz (.int (val w k))) := by
  obtain ⟨κ, e⟩ := keyT_prod k
  unfold oGetU
  rw [e, getK_some h]; rfl
theorem val_mem {w : W} (hn : (w.map (·.1)).Nodup) {p : P × Int} (hp : p ∈ w) : val w p.1 = p.2 := by
  induction w with
  | nil => cases hp
  | cons q w ih =>
    rw [List.map_cons, List.nodup_cons] at hn
    unfold val
    rcases List.mem_cons.mp hp with rfl | hp
    · rw [if_pos rfl]
    · rw [if_neg (fun e => hn.1 (by rw [e]; exact List.mem_map.mpr ⟨p, hp, rfl⟩)), ih hn.2 hp]
theorem getEnd_prod (w : W) (k : P) (st : Sts) : getEnd (w.map kD) (w.map vD) (prodD k) (.fz (.int 0)) st = .ok (.fz (.int (val w k)), st) := by
  obtain ⟨κ, e⟩ := keyT_prod k
  unfold getEnd
  rw [e]
  show R.ok (Val.fz ((getK _ _ _).getD (.int 0)), st) = _
  rw [getK_getD]
theorem putEnd_prod (i : Nat) (w : W) (hn : (w.map (·.1)).Nodup) (hl : w.length < 16777216) (k : P) (v : Int) (st : Sts) : putEndU i (.int (val w k + v)) st (some (.own (.dcu (w.map kD) (w.map vD)))) (prodD k) = .ok (.nx (st.set i (.own (.dcu ((addP w k v).map kD) ((addP w k v).map vD))))) := by
  obtain ⟨κ, e⟩ := keyT_prod k
  unfold putEndU
  rw [e]
  show (if (w.map kD).length < 16777216 then _ else _) = _
  rw [List.length_map, if_pos hl, put_add w hn]
theorem oSorted_dcu (w : W) : oSortedX [.dcu (w.map kD) (w.map vD)] = some (.nw (.lst ((sortW w).map kD))) := by
  show (if (w.map kD).all isTupS = true then some (Val.nw (.lst (sortD (w.map kD)))) else none) = _
  rw [keys_isTup, if_pos rfl, sort_keys]
theorem oSortedX_strs (l : List Tx) : oSortedX [.lst (l.map D.str)] = some (.nw (.lst ((sortP l).map D.str))) := by
  show oSorted [.lst (l.map D.str)] = _
  rw [oSorted_ap, srtOk_strs, if_pos rfl, sortD_strs]
theorem oSortedX_tup (l : List Tx) : oSortedX [.tup (l.map D.str)] = some (.nw (.lst ((sortP l).map D.str))) := by
  show (if (l.map D.str).all isStrD = true then some (Val.nw (.lst (sortD (l.map D.str)))) else none) = _
  rw [strs_isStr, if_pos rfl, sortD_strs]
theorem oSortedA_dct (l : List Tx) (vs : List D) : oSortedA [.dct (l.map D.str) vs] = some (.nw (.lst ((sortP l).map D.str))) := by
  rw [Vl.oSortedA_dct, strs_isStr, if_pos rfl, sortD_strs]
theorem oLtU_prod (a b : P) : oLtU (prodD a) (prodD b) = some (.fz (.bl (decide (a < b)))) := by
  have h1 : ∀ p : P, D.lays 62 (p.map D.str) = true := fun p => lay_strs (strs_isStr p)
  have h2 : PySem.W.alikeAll (D.pys (a.map D.str)) (D.pys (b.map D.str)) = true := alike_strs (strs_isStr a) (strs_isStr b)
  show (if (D.lays 62 (a.map D.str) && D.lays 62 (b.map D.str) && PySem.W.alikeAll (D.pys (a.map D.str)) (D.pys (b.map D.str))) = true then some (Val.fz (D.bl (PySem.W.dataLt (prodD a).py (prodD b).py))) else none) = _
  rw [h1, h1, h2, ltD_prod]
  rfl
end Wy
namespace Wy
open Vl
/-! ### in, == -/
theorem flat1_strs (p : List Tx) : (p.map D.str).all D.flat1 = true := by
  rw [List.all_map, List.all_eq_true]; intro x _; rfl
theorem inSeq_strs (x : Tx) (p : List Tx) : inSeq (.str x) (p.map D.str) = decide (x ∈ p) := by
  unfold inSeq
  rw [Bool.eq_iff_iff, List.any_eq_true, decide_eq_true_eq]
  constructor
  · rintro ⟨d, hd, e⟩
    obtain ⟨y, hy, rfl⟩ := List.mem_map.mp hd
    have e : (y == x) = true := e
    rw [← eq_of_beq e]; exact hy
  · intro h
    exact ⟨.str x, List.mem_map.mpr ⟨x, h, rfl⟩, (beq_self_eq_true x : (x == x) = true)⟩
theorem lays_strs (n : Nat) (p : List Tx) : D.lays n (p.map D.str) = true := lay_strs (strs_isStr p)
theorem lay_prod (n : Nat) (p : P) : D.lay (n + 1) (prodD p) = true := lays_strs n p
theorem lays_prods (n : Nat) : ∀ l : List P, D.lays (n + 1) (l.map prodD) = true
  | [] => rfl
  | p :: l => by
    show (D.lay (n + 1) (prodD p) && D.lays (n + 1) (l.map prodD)) = true
    rw [lay_prod, lays_prods n l]; rfl
theorem lays_whyN (n : Nat) : ∀ w : W, D.lays (n + 2) (whyL w) = true
  | [] => rfl
  | p :: w => by
    show ((D.lay (n + 1) (prodD p.1) && true) && D.lays (n + 2) (whyL w)) = true
    rw [lay_prod, lays_whyN n w]; rfl
theorem lays_why (w : W) : D.lays 63 (whyL w) = true := lays_whyN 61 w
theorem eqvs_strs : ∀ a b : List Tx, D.eqvs (a.map D.str) (b.map D.str) = decide (a = b)
  | [], [] => rfl
  | [], _ :: _ => rfl
  | _ :: _, [] => rfl
  | x :: a, y :: b => by
    show ((x == y) && D.eqvs (a.map D.str) (b.map D.str)) = _
    rw [eqvs_strs a b, Bool.eq_iff_iff]
    simp
theorem eqv_prod (a b : P) : D.eqv (prodD a) (prodD b) = decide (a = b) := eqvs_strs a b
theorem eqvs_why : ∀ a b : W, D.eqvs (whyL a) (whyL b) = decide (a = b)
  | [], [] => rfl
  | [], _ :: _ => rfl
  | _ :: _, [] => rfl
  | p :: a, q :: b => by
    show ((D.eqv (prodD p.1) (prodD q.1) && ((p.2 == q.2) && true)) && D.eqvs (whyL a) (whyL b)) = _
    rw [eqvs_why a b, eqv_prod, Bool.eq_iff_iff]
    simp [Prod.ext_iff, and_assoc]
theorem whyL_map (w : W) : whyL w = w.map pairD := rfl
theorem whyL_len (w : W) : (whyL w).length = w.length := List.length_map _
theorem mem_why {w : W} {d : D} (h : d ∈ whyL w) : ∃ p ∈ w, d = pairD p := by
  obtain ⟨p, hp, e⟩ := List.mem_map.mp h
  exact ⟨p, hp, e.symm⟩
end Wy
set_option maxHeartbeats 1000000
/-! zip of two texts of small signs -/
namespace Vz
open PySem
open PySem.Sem (wp)
abbrev asc : String := "str_ascii_iterator"
section
variable {prog : Program} {w : World} {A : Around} {E : Value → Shared → Prop} {s : Shared}
theorem nx_item {it : Addr} {x : Str} {t : Tok} {i c : Nat} {Q : Value → Shared → Prop} (hit : s.heap.IsStrIter it asc x t i) (hx : x.cps[i]? = some c)
    (hQ : ∀ h', h'.IsStrIter it asc x t (i + 1) → Heap.SameBut it s.heap h' → Q (.str ⟨#[c]⟩ s.toks) { s with heap := h', toks := s.toks + 1 }) :
    wpAny (model prog w) A (Builtin.SmallTypes.nextOf (.ref it)) Q E s := by
  obtain ⟨o, ho, hc, hd⟩ := id hit
  unfold Builtin.SmallTypes.nextOf
  refine wpAny_bind (wpAny_callSpecial?_slot (name := Str.ofString "__next__") hit.typeIs F.slot_str_ascii_iterator_next
    (wpAny_call_entry F.slot_str_ascii_iterator_next hit.typeIs F.entry_str_ascii_iterator_next ?_ (F.args_str_ascii_iterator_next_1 _)))
  show wpAny _ _ (field (.ref it) 0 >>= _) _ _ s
  refine wpAny_bind (wpAny_field ho hd (x := .str x t) rfl ?_)
  show wpAny _ _ (field (.ref it) 1 >>= _) _ _ s
  refine wpAny_bind (wpAny_field ho hd (x := .int i 0) rfl ?_)
  simp only [Int.toNat_natCast, hx]
  refine wpAny_bind (wpAny_setField ho hd (by simp) (wpAny_bind (wpAny_mkStr (wpAny_pure ⟨_, rfl, wpAny_pure (hQ _ ?_ (Heap.SameBut.update ..))⟩) (by show 1 ≤ sizeLine; decide))))
  exact ⟨_, Heap.get?_update_self _ ho (Obj.isFreed_of_fields (Obj.data_mapFields hd _)), (Obj.cls_mapFields ..).trans hc, by
    rw [Obj.data_mapFields hd]; simp [rawInt]⟩
theorem nx_end {it : Addr} {x : Str} {t : Tok} {i : Nat} {Q : Value → Shared → Prop} (hh : A.handled = none)
    (hit : s.heap.IsStrIter it asc x t i) (hx : x.cps[i]? = none)
    (hE : ∀ h' e, Heap.ExtBut it s.heap h' → (∃ o, h'.get? e = some o ∧ o.cls = .type "StopIteration") → E (.ref e) { s with heap := h' }) :
    wpAny (model prog w) A (Builtin.SmallTypes.nextOf (.ref it)) Q E s := by
  obtain ⟨o, ho, hc, hd⟩ := id hit
  unfold Builtin.SmallTypes.nextOf
  refine wpAny_bind (wpAny_callSpecial?_slot (name := Str.ofString "__next__") hit.typeIs F.slot_str_ascii_iterator_next
    (wpAny_call_entry F.slot_str_ascii_iterator_next hit.typeIs F.entry_str_ascii_iterator_next ?_ (F.args_str_ascii_iterator_next_1 _)))
  show wpAny _ _ (field (.ref it) 0 >>= _) _ _ s
  refine wpAny_bind (wpAny_field ho hd (x := .str x t) rfl ?_)
  show wpAny _ _ (field (.ref it) 1 >>= _) _ _ s
  refine wpAny_bind (wpAny_field ho hd (x := .int i 0) rfl ?_)
  simp only [Int.toNat_natCast, hx]
  refine wpAny_bind (wpAny_rule (wpAny_bind (wpAny_setField ho hd (by simp) (wpAny_bind (wpAny_letGo ?_)))))
  show wpAny _ _ (newExc (.type "StopIteration") [] >>= _) _ _ _
  refine wpAny_bind ?_
  simp only [newExc, newTuple]
  refine wpAny_bind (wpAny_newObj_type ?_ (by size_fits))
  refine wpAny_bind (m := firstArgMember _ _) (wpAny_of_eq (a := Value.none) (by first | rfl | (simp only [firstArgMember]; rfl)) ?_)
  refine wpAny_newObj_type ?_ (by size_fits)
  simp only [raiseNew]
  refine wpAny_bind (wpAny_handled ?_)
  first | rw [show A.in1.handled = none from hh] | rw [hh]
  refine wpAny_bind (wpAny_pure (wpAny_throw ?_))
  exact hE _ _ (((Heap.SameBut.update ..).extBut.push _).push _) ⟨_, Heap.get?_push_size _ rfl, rfl⟩
theorem it_at {h h' : Heap} {a : Addr} {x : Str} {t : Tok} {i : Nat} (y : h.IsStrIter a asc x t i) (k : ∀ o, h.get? a = some o → h'.get? a = some o) : h'.IsStrIter a asc x t i :=
  let ⟨o, ho, r⟩ := y; ⟨o, k o ho, r⟩
/-- a zip of two such iterators and what stands below -/
structure Apart (z TI TO i1 i2 : Addr) : Prop where
  iz1 : i1 ≠ z
  iz2 : i2 ≠ z
  TIz : TI ≠ z
  TOz : TO ≠ z
  TITO : TI ≠ TO
  TI1 : TI ≠ i1
  TI2 : TI ≠ i2
  TO1 : TO ≠ i1
  TO2 : TO ≠ i2
  i12 : i1 ≠ i2
theorem zs_item {z TI TO i1 i2 : Addr} {x y : Str} {t u : Tok} {k1 k2 c d : Nat} {a b : Value} {Q : Value → Shared → Prop} (D : Apart z TI TO i1 i2)
    (hz : IsZip s.heap z TI TO .none) (hTI : IsPair s.heap TI (.ref i1) (.ref i2)) (hTO : IsPair s.heap TO a b)
    (h1 : s.heap.IsStrIter i1 asc x t k1) (h2 : s.heap.IsStrIter i2 asc y u k2) (hx : x.cps[k1]? = some c) (hy : y.cps[k2]? = some d)
    (hQ : ∀ h', IsZip h' z TI TO (rawInt s.heap.objs.size) → IsPair h' TO (.str ⟨#[c]⟩ s.toks) (.str ⟨#[d]⟩ (s.toks + 1)) → h'.IsStrIter i1 asc x t (k1 + 1) → h'.IsStrIter i2 asc y u (k2 + 1) → IsPair h' s.heap.objs.size (.str ⟨#[c]⟩ s.toks) (.str ⟨#[d]⟩ (s.toks + 1)) → h'.objs.size = s.heap.objs.size + 1 →
      (∀ c o, c ≠ z → c ≠ TO → c ≠ i1 → c ≠ i2 → s.heap.get? c = some o → h'.get? c = some o) → Q (.ref s.heap.objs.size) { s with heap := h', toks := s.toks + 2 }) :
    wpAny (model prog w) A (Builtin.«zip.__next__» ⟨[.ref z], []⟩) (fun fin s' => ∃ v, fin = .done (.ret v) ∧ Q v s') E s := by
  show wpAny _ _ (field (.ref z) 2 >>= _) _ _ _
  refine wpAny_bind (wpAny_field hz rfl (x := .bool false) rfl ?_)
  show wpAny _ _ (field (.ref z) 3 >>= _) _ _ _
  refine wpAny_bind (wpAny_field hz rfl (x := .ref TI) rfl ?_)
  refine wpAny_bind (wpAny_seqItems hTI rfl ?_)
  show wpAny _ _ (Builtin.SmallTypes.ownedTupleIsFree (.ref z) >>= _) _ _ _
  refine wpAny_bind ?_
  unfold Builtin.SmallTypes.ownedTupleIsFree
  refine wpAny_bind (wpAny_field hz rfl (x := .none) rfl (wpAny_pure ?_))
  simp only [if_true]
  refine wpAny_bind (wpAny_rule ?_)
  refine wpAny_bind (wpAny_field hz rfl (x := .ref TO) rfl ?_)
  refine wpAny_bind (wpAny_setField_rec hz (by simp) fun h₁ hz₁ hs₁ => ?_)
  replace hz₁ : IsZip h₁ z TI TO .ellipsis := hz₁
  refine wpAny_bind ?_
  simp only [List.zipIdx_cons, List.zipIdx_nil, List.forIn_cons, List.forIn_nil]
  refine wpAny_bind (wpAny_bind (wpAny_onRaise ?_))
  show wpAny _ _ (Builtin.SmallTypes.nextOf (.ref i1) >>= _) _ _ _
  refine wpAny_bind (nx_item (h1.extBut hs₁.extBut D.iz1) hx fun h₂ h1₂ hs₂ => wpAny_pure ?_)
  have hTO₂ : IsPair h₂ TO a b := hs₂.extBut _ _ D.TO1 (hs₁.extBut _ _ D.TOz hTO)
  refine wpAny_bind (wpAny_seqItems hTO₂ rfl ?_)
  refine wpAny_bind (wpAny_updateSeq_pair hTO₂ fun h₃ hTO₃ hs₃ => ?_)
  replace hTO₃ : IsPair h₃ TO (.str ⟨#[c]⟩ s.toks) b := hTO₃
  refine wpAny_bind (wpAny_letGo (wpAny_pure ?_))
  refine wpAny_bind (wpAny_bind (wpAny_onRaise ?_))
  show wpAny _ _ (Builtin.SmallTypes.nextOf (.ref i2) >>= _) _ _ _
  refine wpAny_bind (nx_item (((h2.extBut hs₁.extBut D.iz2).extBut hs₂.extBut D.i12.symm).extBut hs₃.extBut D.TO2.symm) hy fun h₄ h2₄ hs₄ => wpAny_pure ?_)
  have hTO₄ : IsPair h₄ TO (.str ⟨#[c]⟩ s.toks) b := hs₄.extBut _ _ D.TO2 hTO₃
  refine wpAny_bind (wpAny_seqItems hTO₄ rfl ?_)
  refine wpAny_bind (wpAny_updateSeq_pair hTO₄ fun h₅ hTO₅ hs₅ => ?_)
  replace hTO₅ : IsPair h₅ TO (.str ⟨#[c]⟩ s.toks) (.str ⟨#[d]⟩ (s.toks + 1)) := hTO₅
  refine wpAny_bind (wpAny_letGo (wpAny_pure (wpAny_pure ?_)))
  refine wpAny_bind (wpAny_seqItems hTO₅ rfl ?_)
  refine wpAny_bind (wpAny_newTuple ?_)
  have hsz : h₅.objs.size = s.heap.objs.size := by rw [hs₅.1, hs₄.1, hs₃.1, hs₂.1, hs₁.1]
  have hz₅ : IsZip h₅ z TI TO .ellipsis := hs₅.extBut _ _ D.TOz.symm (hs₄.extBut _ _ D.iz2.symm (hs₃.extBut _ _ D.TOz.symm (hs₂.extBut _ _ D.iz1.symm hz₁)))
  have hk₅ : ∀ c o, c ≠ z → c ≠ TO → c ≠ i1 → c ≠ i2 → s.heap.get? c = some o → h₅.get? c = some o := fun c o c1 c2 c3 c4 e =>
    hs₅.extBut _ _ c2 (hs₄.extBut _ _ c4 (hs₃.extBut _ _ c2 (hs₂.extBut _ _ c3 (hs₁.extBut _ _ c1 e))))
  have h1₅ : h₅.IsStrIter i1 asc x t (k1 + 1) := ((h1₂.extBut hs₃.extBut D.TO1.symm).extBut hs₄.extBut D.i12).extBut hs₅.extBut D.TO1.symm
  have h2₅ : h₅.IsStrIter i2 asc y u (k2 + 1) := h2₄.extBut hs₅.extBut D.TO2.symm
  have hzlt : z < h₅.objs.size := Heap.lt_size hz₅
  have hTOlt : TO < h₅.objs.size := Heap.lt_size hTO₅
  have hi1lt : i1 < h₅.objs.size := by obtain ⟨_, e, _⟩ := h1₅; exact Heap.lt_size e
  have hi2lt : i2 < h₅.objs.size := by obtain ⟨_, e, _⟩ := h2₅; exact Heap.lt_size e
  show wpAny _ _ (Builtin.SmallTypes.ownedTupleHandOut (.ref z) (.ref h₅.objs.size) >>= _) _ _ _
  refine wpAny_bind ?_
  unfold Builtin.SmallTypes.ownedTupleHandOut
  have hz₆ : IsZip (h₅.push { cls := .type "tuple", data := .seq #[(.str ⟨#[c]⟩ s.toks), (.str ⟨#[d]⟩ (s.toks + 1))] }) z TI TO .ellipsis := Heap.get?_push_of_some _ hz₅
  refine wpAny_bind (wpAny_setField_rec hz₆ (by simp) fun h₇ hz₇ hs₇ => ?_)
  replace hz₇ : IsZip h₇ z TI TO (rawInt h₅.objs.size) := hz₇
  refine wpAny_setField_rec hz₇ (by simp) fun h₈ hz₈ hs₈ => ?_
  replace hz₈ : IsZip h₈ z TI TO (rawInt h₅.objs.size) := hz₈
  have up : ∀ c o, c ≠ z → h₅.get? c = some o → h₈.get? c = some o := fun c o c1 e => hs₈.extBut _ _ c1 (hs₇.extBut _ _ c1 (Heap.get?_push_of_some _ e))
  have hT₈ : IsPair h₈ h₅.objs.size (.str ⟨#[c]⟩ s.toks) (.str ⟨#[d]⟩ (s.toks + 1)) := hs₈.extBut _ _ (Nat.ne_of_gt hzlt) (hs₇.extBut _ _ (Nat.ne_of_gt hzlt) (Heap.get?_push_size _ rfl))
  have hz8 : h₈.objs.size = h₅.objs.size + 1 := by rw [hs₈.1, hs₇.1, Heap.size_push]
  rw [hsz] at hz₈ hT₈ hz8
  refine wpAny_pure ⟨_, rfl, ?_⟩
  show Q (.ref h₅.objs.size) _
  rw [hsz]
  exact hQ h₈ hz₈ (up _ _ D.TOz hTO₅) (it_at h1₅ fun o e => up _ o D.iz1 e) (it_at h2₅ fun o e => up _ o D.iz2 e) hT₈ hz8 fun c o c1 c2 c3 c4 e => up c o c1 (hk₅ c o c1 c2 c3 c4 e)
theorem zs_end {z TI TO i1 i2 : Addr} {x y : Str} {t u : Tok} {k1 k2 : Nat} {a b : Value} {Q : Fin → Shared → Prop} (hh : A.handled = none) (D : Apart z TI TO i1 i2)
    (hz : IsZip s.heap z TI TO .none) (hTI : IsPair s.heap TI (.ref i1) (.ref i2)) (hTO : IsPair s.heap TO a b)
    (h1 : s.heap.IsStrIter i1 asc x t k1) (h2 : s.heap.IsStrIter i2 asc y u k2) (hend : x.cps[k1]? = none ∨ y.cps[k2]? = none)
    (hE : ∀ h' tk e, (∀ c o, c ≠ z → c ≠ TO → c ≠ i1 → c ≠ i2 → s.heap.get? c = some o → h'.get? c = some o) → (∃ o, h'.get? e = some o ∧ o.cls = .type "StopIteration") → E (.ref e) { s with heap := h', toks := tk }) :
    wpAny (model prog w) A (Builtin.«zip.__next__» ⟨[.ref z], []⟩) Q E s := by
  show wpAny _ _ (field (.ref z) 2 >>= _) _ _ _
  refine wpAny_bind (wpAny_field hz rfl (x := .bool false) rfl ?_)
  show wpAny _ _ (field (.ref z) 3 >>= _) _ _ _
  refine wpAny_bind (wpAny_field hz rfl (x := .ref TI) rfl ?_)
  refine wpAny_bind (wpAny_seqItems hTI rfl ?_)
  show wpAny _ _ (Builtin.SmallTypes.ownedTupleIsFree (.ref z) >>= _) _ _ _
  refine wpAny_bind ?_
  unfold Builtin.SmallTypes.ownedTupleIsFree
  refine wpAny_bind (wpAny_field hz rfl (x := .none) rfl (wpAny_pure ?_))
  simp only [if_true]
  refine wpAny_bind (wpAny_rule ?_)
  refine wpAny_bind (wpAny_field hz rfl (x := .ref TO) rfl ?_)
  refine wpAny_bind (wpAny_setField_rec hz (by simp) fun h₁ hz₁ hs₁ => ?_)
  replace hz₁ : IsZip h₁ z TI TO .ellipsis := hz₁
  refine wpAny_bind ?_
  simp only [List.zipIdx_cons, List.zipIdx_nil, List.forIn_cons, List.forIn_nil]
  refine wpAny_bind (wpAny_bind (wpAny_onRaise ?_))
  show wpAny _ _ (Builtin.SmallTypes.nextOf (.ref i1) >>= _) _ _ _
  cases hx : x.cps[k1]? with
  | none =>
    refine wpAny_bind (nx_end hh (h1.extBut hs₁.extBut D.iz1) hx fun h₂ e hs₂ he => ?_)
    obtain ⟨oe, hoe, hce⟩ := he
    have hz₂ : IsZip h₂ z TI TO .ellipsis := hs₂ _ _ D.iz1.symm hz₁
    have hez : e ≠ z := fun x => by subst x; rw [hz₂] at hoe; cases hoe; simp at hce
    refine wpAny_setField_rec hz₂ (by simp) fun h₃ _ hs₃ => hE h₃ _ e (fun c o c1 _ c3 _ x => hs₃.extBut _ _ c1 (hs₂ _ _ c3 (hs₁.extBut _ _ c1 x))) ⟨oe, hs₃.extBut _ _ hez hoe, hce⟩
  | some c =>
    have hy : y.cps[k2]? = none := by rcases hend with h | h; rw [hx] at h; cases h; exact h
    refine wpAny_bind (nx_item (h1.extBut hs₁.extBut D.iz1) hx fun h₂ h1₂ hs₂ => wpAny_pure ?_)
    have hTO₂ : IsPair h₂ TO a b := hs₂.extBut _ _ D.TO1 (hs₁.extBut _ _ D.TOz hTO)
    refine wpAny_bind (wpAny_seqItems hTO₂ rfl ?_)
    refine wpAny_bind (wpAny_updateSeq_pair hTO₂ fun h₃ hTO₃ hs₃ => ?_)
    refine wpAny_bind (wpAny_letGo (wpAny_pure ?_))
    refine wpAny_bind (wpAny_bind (wpAny_onRaise ?_))
    show wpAny _ _ (Builtin.SmallTypes.nextOf (.ref i2) >>= _) _ _ _
    refine wpAny_bind (nx_end hh (((h2.extBut hs₁.extBut D.iz2).extBut hs₂.extBut D.i12.symm).extBut hs₃.extBut D.TO2.symm) hy fun h₄ e hs₄ he => ?_)
    obtain ⟨oe, hoe, hce⟩ := he
    have hz₄ : IsZip h₄ z TI TO .ellipsis := hs₄ _ _ D.iz2.symm (hs₃.extBut _ _ D.TOz.symm (hs₂.extBut _ _ D.iz1.symm hz₁))
    have hez : e ≠ z := fun x => by subst x; rw [hz₄] at hoe; cases hoe; simp at hce
    refine wpAny_setField_rec hz₄ (by simp) fun h₅ _ hs₅ => hE h₅ _ e (fun c o c1 c2 c3 c4 x => hs₅.extBut _ _ c1 (hs₄ _ _ c4 (hs₃.extBut _ _ c2 (hs₂.extBut _ _ c3 (hs₁.extBut _ _ c1 x))))) ⟨oe, hs₅.extBut _ _ hez hoe, hce⟩
theorem next_item {z TI TO i1 i2 : Addr} {x y : Str} {t u : Tok} {k1 k2 c d : Nat} {a b : Value} {Q : Option Value → Shared → Prop} (D : Apart z TI TO i1 i2)
    (hz : IsZip s.heap z TI TO .none) (hTI : IsPair s.heap TI (.ref i1) (.ref i2)) (hTO : IsPair s.heap TO a b)
    (h1 : s.heap.IsStrIter i1 asc x t k1) (h2 : s.heap.IsStrIter i2 asc y u k2) (hx : x.cps[k1]? = some c) (hy : y.cps[k2]? = some d)
    (hQ : ∀ h', IsZip h' z TI TO (rawInt s.heap.objs.size) → IsPair h' TO (.str ⟨#[c]⟩ s.toks) (.str ⟨#[d]⟩ (s.toks + 1)) → h'.IsStrIter i1 asc x t (k1 + 1) → h'.IsStrIter i2 asc y u (k2 + 1) → IsPair h' s.heap.objs.size (.str ⟨#[c]⟩ s.toks) (.str ⟨#[d]⟩ (s.toks + 1)) → h'.objs.size = s.heap.objs.size + 1 →
      (∀ c o, c ≠ z → c ≠ TO → c ≠ i1 → c ≠ i2 → s.heap.get? c = some o → h'.get? c = some o) → Q (some (.ref s.heap.objs.size)) { s with heap := h', toks := s.toks + 2 }) :
    wpAny (model prog w) A (pyNext (.ref z)) Q E s := by
  have hT : s.TypeIs (.ref z) "zip" := ⟨_, hz, rfl⟩
  unfold pyNext
  exact wpAny_bind (wpAny_attempt (wpAny_callSpecial?_slot (name := Str.ofString "__next__") hT F.slot_zip_next
    (wpAny_call_entry F.slot_zip_next hT F.entry_zip_next
      (zs_item D hz hTI hTO h1 h2 hx hy fun h' a1 a2 a3 a4 a5 a6 a7 => wpAny_pure (hQ h' a1 a2 a3 a4 a5 a6 a7)) (F.args_zip_next_1 _))))
theorem next_end {z TI TO i1 i2 : Addr} {x y : Str} {t u : Tok} {k1 k2 : Nat} {a b : Value} {Q : Option Value → Shared → Prop} (hh : A.handled = none) (D : Apart z TI TO i1 i2)
    (hz : IsZip s.heap z TI TO .none) (hTI : IsPair s.heap TI (.ref i1) (.ref i2)) (hTO : IsPair s.heap TO a b)
    (h1 : s.heap.IsStrIter i1 asc x t k1) (h2 : s.heap.IsStrIter i2 asc y u k2) (hend : x.cps[k1]? = none ∨ y.cps[k2]? = none)
    (hQ : ∀ h' tk, (∀ c o, c ≠ z → c ≠ TO → c ≠ i1 → c ≠ i2 → s.heap.get? c = some o → h'.get? c = some o) → Q none { s with heap := h', toks := tk }) : wpAny (model prog w) A (pyNext (.ref z)) Q E s := by
  have hT : s.TypeIs (.ref z) "zip" := ⟨_, hz, rfl⟩
  unfold pyNext
  refine wpAny_bind (wpAny_attempt (wpAny_callSpecial?_slot (name := Str.ofString "__next__") hT F.slot_zip_next
    (wpAny_call_entry F.slot_zip_next hT F.entry_zip_next (zs_end hh D hz hTI hTO h1 h2 hend fun h' tk e hk he => ?_) (F.args_zip_next_1 _))))
  obtain ⟨o, ho, hc⟩ := he
  refine wpAny_bind (wpAny_isInstance (T := "StopIteration") (b := true) ⟨o, ho, hc⟩ isSubtype_stop ?_)
  exact wpAny_pure (hQ _ _ hk)
end
abbrev zH1 (h : Heap) (x : Str) (t : Tok) : Heap := h.push { cls := .type asc, data := .fields #[.str x t, .int 0 0] }
abbrev zH2 (h : Heap) (x y : Str) (t u : Tok) : Heap := (zH1 h x t).push { cls := .type asc, data := .fields #[.str y u, .int 0 0] }
abbrev zH3 (h : Heap) (x y : Str) (t u : Tok) : Heap := (zH2 h x y t u).push { cls := .type "tuple", data := .seq #[.ref h.objs.size, .ref (zH1 h x t).objs.size] }
abbrev zH4 (h : Heap) (x y : Str) (t u : Tok) : Heap := (zH3 h x y t u).push { cls := .type "tuple", data := .seq #[.none, .none] }
abbrev zH5 (h : Heap) (x y : Str) (t u : Tok) : Heap := (zH4 h x y t u).push { cls := .type "zip", data := .fields #[.none, .bool false, .bool false, .ref (zH2 h x y t u).objs.size, .ref (zH3 h x y t u).objs.size] }
theorem meets_zs (x y : Str) (t u : Tok) :
    Meets (Builtin.«zip.__new__» ⟨[.type "zip", .str x t, .str y u], []⟩) (fun _ R s => x.cps.all (· < 128) = true ∧ y.cps.all (· < 128) = true ∧
      R (.ok (.ret (.ref (zH4 s.heap x y t u).objs.size))) { s with heap := zH5 s.heap x y t u }) :=
  .of_wp fun prog w A R s h => by
    obtain ⟨hp, g, d, tk, os⟩ := s; obtain ⟨hl1, hl2, h⟩ := h
    have hsub := sub_zip
    wp_walk using wpAny_pyIter_ascii hl1, wpAny_pyIter_ascii hl2
    exact ⟨_, rfl, h⟩
section
variable {prog : Program} {w : World} {A : Around} {E : Value → Shared → Prop} {s : Shared}
theorem call_zs {x y : Str} {t u : Tok} {Q : Value → Shared → Prop} (hl1 : x.cps.all (· < 128) = true) (hl2 : y.cps.all (· < 128) = true)
    (h : ∀ h', IsZip h' (s.heap.objs.size + 4) (s.heap.objs.size + 2) (s.heap.objs.size + 3) .none → IsPair h' (s.heap.objs.size + 2) (.ref s.heap.objs.size) (.ref (s.heap.objs.size + 1)) →
      IsPair h' (s.heap.objs.size + 3) .none .none → h'.IsStrIter s.heap.objs.size asc x t 0 → h'.IsStrIter (s.heap.objs.size + 1) asc y u 0 → h'.objs.size = s.heap.objs.size + 5 →
      (∀ c o, s.heap.get? c = some o → h'.get? c = some o) → Q (.ref (s.heap.objs.size + 4)) { s with heap := h' }) :
    wpAny (model prog w) A (call (.type "zip") [.str x t, .str y u]) Q E s := by
  refine callType_new F.called_zip (by decide) (F.typeCall_zip_2 _ _) (F.newCall_zip_2 _ _) (fun obj => F.args_object_init_3 obj _ _) F.entry_zip_new
    (meets_zs x y t u) ⟨hl1, hl2, ?_⟩
  have z1 : (zH1 s.heap x t).objs.size = s.heap.objs.size + 1 := Heap.size_push ..
  have z2 : (zH2 s.heap x y t u).objs.size = s.heap.objs.size + 2 := by rw [Heap.size_push, z1]
  have z3 : (zH3 s.heap x y t u).objs.size = s.heap.objs.size + 3 := by rw [Heap.size_push, z2]
  have z4 : (zH4 s.heap x y t u).objs.size = s.heap.objs.size + 4 := by rw [Heap.size_push, z3]
  have z5 : (zH5 s.heap x y t u).objs.size = s.heap.objs.size + 5 := by rw [Heap.size_push, z4]
  have g5 : (zH5 s.heap x y t u).get? (zH4 s.heap x y t u).objs.size = some _ := Heap.get?_push_size _ rfl
  have g4 : (zH5 s.heap x y t u).get? (zH3 s.heap x y t u).objs.size = some _ := Heap.get?_push_of_some _ (Heap.get?_push_size _ rfl)
  have g3 : (zH5 s.heap x y t u).get? (zH2 s.heap x y t u).objs.size = some _ := Heap.get?_push_of_some _ (Heap.get?_push_of_some _ (Heap.get?_push_size _ rfl))
  have g2 : (zH5 s.heap x y t u).get? (zH1 s.heap x t).objs.size = some _ := Heap.get?_push_of_some _ (Heap.get?_push_of_some _ (Heap.get?_push_of_some _ (Heap.get?_push_size _ rfl)))
  have g1 : (zH5 s.heap x y t u).get? s.heap.objs.size = some _ := Heap.get?_push_of_some _ (Heap.get?_push_of_some _ (Heap.get?_push_of_some _ (Heap.get?_push_of_some _ (Heap.get?_push_size _ rfl))))
  show _ ∧ _
  rw [z2, z3, z4] at g5
  rw [z1, z2] at g3
  rw [z3] at g4
  rw [z1] at g2
  rw [z4]
  exact ⟨⟨_, g5, rfl⟩, h _ g5 g3 g4 ⟨_, g1, rfl, rfl⟩ ⟨_, g2, rfl, rfl⟩ z5 fun c o x =>
    Heap.get?_push_of_some _ (Heap.get?_push_of_some _ (Heap.get?_push_of_some _ (Heap.get?_push_of_some _ (Heap.get?_push_of_some _ x))))⟩
end
section
open PySem.Spec PyProof.Rows L2
/-- the two texts, their signs in new pairs -/
def ItzS (x y : Str) : It :=
  ⟨fun i _ => ∃ c d, x.cps[i]? = some c ∧ y.cps[i]? = some d,
    fun i H v H' => ∃ T c d, v = .ref T ∧ H T = none ∧ H' = upd H T (.tup [.str ⟨#[c]⟩, .str ⟨#[d]⟩]) ∧ x.cps[i]? = some c ∧ y.cps[i]? = some d,
    fun i _ => x.cps.size ≤ i ∨ y.cps.size ≤ i⟩
theorem turn_zs {P : Program} {w : World} {K : PySem.W.Frag} {elts : List Expr} {kk : Nat} {tpos : Pos} {z TI TO i1 i2 : Addr} {x y : Str} {t u : Tok} (D : Apart z TI TO i1 i2) :
    Turn P w K (.Tuple elts kk tpos) (ItzS x y) [z, TI, TO, i1, i2] z (fun i h => IsZip h z TI TO .none ∧ IsPair h TI (.ref i1) (.ref i2) ∧ (∃ a b, IsPair h TO a b) ∧ h.IsStrIter i1 asc x t i ∧ h.IsStrIter i2 asc y u i) where
  mem := by simp
  obj := fun i h st c hc => by
    obtain ⟨hz, hTI, ⟨a, b, hTO⟩, ⟨o1, e1, _, d1⟩, ⟨o2, e2, _, d2⟩⟩ := st
    have e' : c = z ∨ c = TI ∨ c = TO ∨ c = i1 ∨ c = i2 := by simpa using hc
    rcases e' with q | q | q | q | q
    · rw [q]; exact ⟨_, hz, fun v q => nomatch q⟩
    · rw [q]; exact ⟨_, hTI, fun v q => nomatch q⟩
    · rw [q]; exact ⟨_, hTO, fun v q => nomatch q⟩
    · rw [q]; exact ⟨o1, e1, fun v q => by rw [d1] at q; cases q⟩
    · rw [q]; exact ⟨o2, e2, fun v q => by rw [d2] at q; cases q⟩
  keep := fun i h h' st k => by
    obtain ⟨hz, hTI, ⟨a, b, hTO⟩, h1, h2⟩ := st
    exact ⟨k z (by simp) _ hz, k TI (by simp) _ hTI, ⟨a, b, k TO (by simp) _ hTO⟩, it_at h1 fun o q => k i1 (by simp) o q, it_at h2 fun o q => k i2 (by simp) o q⟩
  item := by
    intro X hP hw hK hc i pins s σ H E I hf st hg
    subst hP hw hK
    obtain ⟨hz, hTI, ⟨a0, b0, hTO⟩, h1, h2⟩ := st
    obtain ⟨c, d, hx, hy⟩ := hg
    have hzl : z < s.heap.objs.size := Heap.lt_size hz
    refine next_item D hz hTI hTO h1 h2 hx hy fun h' z' TO' h1' h2' hT hsz hk => ?_
    refine ⟨_, rfl, wpAny_letOwnedTupleGo_zip (s := { s with heap := h', toks := s.toks + 2 }) z' fun h'' z'' sb => ?_⟩
    have hT2 : h''.get? s.heap.objs.size = some { cls := .type "tuple", data := .seq #[.str ⟨#[c]⟩ s.toks, .str ⟨#[d]⟩ (s.toks + 1)] } := (sb.2 _ (Nat.ne_of_gt hzl)).trans hT
    have new : ObjOk X.prog X.w (upd H s.heap.objs.size (.tup [.str ⟨#[c]⟩, .str ⟨#[d]⟩])) h'' s.heap.objs.size (.tup [.str ⟨#[c]⟩, .str ⟨#[d]⟩]) :=
      ⟨by show 2 ≤ sizeLine; decide, [_, _], .cons ⟨_, rfl⟩ (.cons ⟨_, rfl⟩ .nil), ⟨_, hT2, rfl, _, rfl⟩⟩
    have I1 : Inv X pins σ (upd H s.heap.objs.size (.tup [.str ⟨#[c]⟩, .str ⟨#[d]⟩])) { s with heap := h'', toks := s.toks + 2 } :=
      I.turnedNew (t' := s.toks + 2) (ch := [z, TI, TO, i1, i2]) (fun c o hb q => (sb.2 c (fun q' => hb (by simp [q']))).trans (hk c o (fun q' => hb (by simp [q'])) (fun q' => hb (by simp [q'])) (fun q' => hb (by simp [q'])) (fun q' => hb (by simp [q'])) q)) hf (Nat.le_refl _) new
    refine ⟨.ref s.heap.objs.size, _, I1, rfl, ⟨_, c, d, rfl, I.hok.fresh (Nat.le_refl _), rfl, hx, hy⟩, ⟨z'', ?_, ⟨.str ⟨#[c]⟩ s.toks, .str ⟨#[d]⟩ (s.toks + 1), ?_⟩, ?_, ?_⟩, fun c hcm => ?_⟩
    · exact (sb.2 _ D.TIz).trans (hk _ _ D.TIz D.TITO D.TI1 D.TI2 hTI)
    · exact (sb.2 _ D.TOz).trans TO'
    · exact it_at h1' fun o q => (sb.2 _ D.iz1).trans q
    · exact it_at h2' fun o q => (sb.2 _ D.iz2).trans q
    · have hlt : c < s.heap.objs.size := by
        have e' : c = z ∨ c = TI ∨ c = TO ∨ c = i1 ∨ c = i2 := by simpa using hcm
        rcases e' with q | q | q | q | q
        · rw [q]; exact hzl
        · rw [q]; exact Heap.lt_size hTI
        · rw [q]; exact Heap.lt_size hTO
        · rw [q]; obtain ⟨_, e1, _⟩ := h1; exact Heap.lt_size e1
        · rw [q]; obtain ⟨_, e2, _⟩ := h2; exact Heap.lt_size e2
      rw [upd_ne (Nat.ne_of_lt hlt)]
      exact (hf c hcm).1
  done := by
    intro X hP hw hK hc i pins s σ H E I hf st hg
    subst hP hw hK
    obtain ⟨hz, hTI, ⟨a0, b0, hTO⟩, h1, h2⟩ := st
    have he : x.cps[i]? = none ∨ y.cps[i]? = none := hg.imp (fun q => Array.getElem?_eq_none q) (fun q => Array.getElem?_eq_none q)
    exact next_end (I.ok.hd hc) D hz hTI hTO h1 h2 he fun h' tk hk => ⟨rfl, I.turnedL (t' := tk) (ch := [z, TI, TO, i1, i2]) (fun c o hb q =>
      hk c o (fun q' => hb (by simp [q'])) (fun q' => hb (by simp [q'])) (fun q' => hb (by simp [q'])) (fun q' => hb (by simp [q'])) q) hf⟩
  self := fun A i s Q E st h => wpAny_pyIter_zip st.1 h
def iZipS (ta : TA) : TI := fun σ H R => ta σ H fun vs H1 => ∃ x y, vs = [.str x, .str y] ∧ x.cps.all (· < 128) = true ∧ y.cps.all (· < 128) = true ∧ R (ItzS x y) H1
theorem pi_zipS {X : Cx} {e e2 : Expr} {ta : TA} {p pos tpos : Pos} {elts : List Expr} {kk : Nat} (hg : Gl X "zip") (hm : X.mg "zip" = none) (ha : PA X [e, e2] ta)
    (hs : starEach [e, e2] X.env = (false, eval e X.env) :: starEach [e2] X.env := by rfl) (hpl : (backTo pos (starEach [e2] X.env)).any (·.1) = false := by rfl) :
    PI X (.Tuple elts kk tpos) (.Call (.Name "zip" p) [e, e2] [] pos) (iZipS ta) := by
  refine ⟨fun pins s σ H R I h => ?_⟩
  refine Call_ (ld_blt I hg hm PyProof.Rows.boot_zip (PyProof.Rows.callWith_type1 (thn (ha.run pos pins s σ H _ I h) fun us s1 ⟨vs, H1, I1, r1, q1⟩ => ?_) hs hpl))
  obtain ⟨x, y, ex, ax, ay, q⟩ := q1
  subst ex
  cases r1 with
  | cons r rr =>
    cases rr with
    | cons r' rr =>
      cases rr
      obtain ⟨t, rfl⟩ := r
      obtain ⟨u, rfl⟩ := r'
      have fresh5 : ∀ c, c ∈ [s1.heap.objs.size + 4, s1.heap.objs.size + 2, s1.heap.objs.size + 3, s1.heap.objs.size, s1.heap.objs.size + 1] → FpOk X pins H1 c := fun c hcm => by
        have e' : c = s1.heap.objs.size + 4 ∨ c = s1.heap.objs.size + 2 ∨ c = s1.heap.objs.size + 3 ∨ c = s1.heap.objs.size ∨ c = s1.heap.objs.size + 1 := by simpa using hcm
        have hle : s1.heap.objs.size ≤ c := by
          rcases e' with z | z | z | z | z <;> rw [z] <;> omega
        exact I1.fpOk hle (I1.hok.fresh hle)
      refine call_zs ax ay fun h' hz hTI hTO h1 h2 hsz hk => wpAny_pyIter_zip hz ?_
      have I2 : Inv X pins σ H1 { s1 with heap := h' } := I1.kept (t' := s1.toks) hk
      have D : Apart (s1.heap.objs.size + 4) (s1.heap.objs.size + 2) (s1.heap.objs.size + 3) s1.heap.objs.size (s1.heap.objs.size + 1) := by
        constructor <;> (show ¬ (_ : Nat) = _) <;> omega
      exact ⟨s1.heap.objs.size + 4, [s1.heap.objs.size + 4, s1.heap.objs.size + 2, s1.heap.objs.size + 3, s1.heap.objs.size, s1.heap.objs.size + 1], _, _, H1, rfl, I2, turn_zs D, ⟨hz, hTI, ⟨_, _, hTO⟩, h1, h2⟩, fresh5, q⟩
end
end Vz
namespace Vl
open PySem PySem.Spec PyProof.Rows L2
section
variable {X : Cx} {W : Wx} {p pos : Pos}
def ones (a : List Nat) : List D := a.map fun c => .str [c]
def zipSEnd (rs : List Val) (st : Sts) : R (List D × Sts) := match rs with
  | [.fz (.str a), .fz (.str b)] => if (a.all (fun c => decide (c < 128)) && b.all (fun c => decide (c < 128))) = true then .ok (((ones a).zip (ones b)).map fun q => .tup [q.1, q.2], st) else .no
  | _ => .no
def sZipS (f : VA) : VI := fun st => (f st).bind fun p => zipSEnd p.1 p.2
theorem ones_at {a : List Nat} {i : Nat} {d : D} (h : (ones a)[i]? = some d) : ∃ c, a[i]? = some c ∧ d = .str [c] := by
  unfold ones at h
  rw [List.getElem?_map] at h
  obtain ⟨c, e, rfl⟩ := Option.map_eq_some_iff.mp h
  exact ⟨c, e, rfl⟩
theorem cps_at {a : List Nat} {i : Nat} : (tx a).cps[i]? = a[i]? := by simp
theorem asc_all {a : List Nat} (h : a.all (fun c => decide (c < 128)) = true) : (tx a).cps.all (· < 128) = true := by
  show a.toArray.all (· < 128) = true
  rw [List.all_toArray]
  exact h
theorem di_zipS {e e2 : Expr} {elts : List Expr} {kk : Nat} {tpos : Pos} {f : VA} (hgl : Gl X "zip") (hm : X.mg "zip" = none) (he : DA X W [e, e2] f)
    (hs : starEach [e, e2] X.env = (false, eval e X.env) :: starEach [e2] X.env := by rfl) (hpl : (backTo pos (starEach [e2] X.env)).any (·.1) = false := by rfl) : DI X W (.Tuple elts kk tpos) (.Call (.Name "zip" p) [e, e2] [] pos) (sZipS f) :=
  PI.imp (Vz.pi_zipS hgl hm he hs hpl) fun σ H Rr ⟨E, F, st, S, q⟩ => by
    refine aseqI S q fun rs st1 vs F1 H1 a1 b1 S1 ar k => ?_
    dsimp only at k
    match rs, k with
    | [.fz (.str a), .fz (.str b)], k =>
      obtain ⟨v, us, rfl, ⟨rfl, oka⟩, w, us2, rfl, ⟨rfl, okb⟩, e3⟩ := ar
      rw [show us2 = [] from e3]
      have k : match (if (a.all (fun c => decide (c < 128)) && b.all (fun c => decide (c < 128))) = true then (.ok (((ones a).zip (ones b)).map fun q => .tup [q.1, q.2], st1) : R (List D × Sts)) else .no) with
        | .ok (ds, st') => ∀ J F' H', Same F1 F' → Same H1 H' → Sim X.K E F' H' st' σ → Walks X.K F' J ds → Rr J H'
        | .exc c st' => ∀ F' H', Same F1 F' → Same H1 H' → Sim X.K E F' H' st' σ → W c σ H'
        | .no => False := k
      by_cases hc : (a.all (fun c => decide (c < 128)) && b.all (fun c => decide (c < 128))) = true
      · rw [if_pos hc] at k
        rw [Bool.and_eq_true] at hc
        refine ⟨tx a, tx b, rfl, asc_all hc.1, asc_all hc.2, k _ F1 H1 (Same.refl _) (Same.refl _) S1 ⟨fun i d E2 F2 H2 st2 σ2 s S2 hd => ?_, fun i E2 F2 H2 st2 σ2 s S2 hl => ?_⟩⟩
        · obtain ⟨x, y, ex, ey, rfl⟩ := zip_at hd
          obtain ⟨c1, ec1, rfl⟩ := ones_at ex
          obtain ⟨c2, ec2, rfl⟩ := ones_at ey
          have m1 : c1 ∈ a := List.mem_of_getElem? ec1
          have m2 : c2 ∈ b := List.mem_of_getElem? ec2
          refine ⟨⟨c1, c2, cps_at.trans ec1, cps_at.trans ec2⟩, fun z H' ⟨T, c, d, e1, hT, e2, f1, f2⟩ => ?_⟩
          have f1 := f1.symm.trans (cps_at.trans ec1)
          have f2 := f2.symm.trans (cps_at.trans ec2)
          cases f1
          cases f2
          subst e1 e2
          have o1 : TxOk [c1] := ⟨by show 1 ≤ sizeLine; decide, fun q hq => by rw [List.mem_singleton.mp hq]; exact oka.2 _ m1⟩
          have o2 : TxOk [c2] := ⟨by show 1 ≤ sizeLine; decide, fun q hq => by rw [List.mem_singleton.mp hq]; exact okb.2 _ m2⟩
          exact new_tup S2 hT ⟨rfl, o1⟩ ⟨rfl, o2⟩
        · show (tx a).cps.size ≤ i ∨ (tx b).cps.size ≤ i
          rw [List.length_map, List.length_zip] at hl
          unfold ones at hl
          rw [List.length_map, List.length_map] at hl
          have e1 : (tx a).cps.size = a.length := by simp
          have e2 : (tx b).cps.size = b.length := by simp
          rw [e1, e2]
          omega
      · rw [if_neg hc] at k; exact k.elim
end
def kZipS (p : List Val × Sts) : R (List D × Sts) := zipSEnd p.1 p.2
theorem sZipS_ap (f : VA) (st : Sts) : sZipS f st = (f st).bind kZipS := byDef rfl
theorem kZipS_ap (rs : List Val) (st : Sts) : kZipS (rs, st) = zipSEnd rs st := byDef rfl
theorem zipSEnd_ap (a b : List Nat) (st : Sts) : zipSEnd [.fz (.str a), .fz (.str b)] st = if (a.all (fun c => decide (c < 128)) && b.all (fun c => decide (c < 128))) = true then .ok (((ones a).zip (ones b)).map fun q => .tup [q.1, q.2], st) else .no := byDef rfl
end Vl
/-! min(list, default=None) of whole numbers -/
namespace Vl
open PySem PySem.Spec PyProof.Rows L2
def minN : List Int → D
  | [] => .non
  | i :: is => .int (is.foldl min i)
def oMinD : D → D → Option Val
  | .lst ds, .non => (intsI ds).map fun is => .fz (minN is)
  | _, _ => none
theorem oMinD_ints (is : List Int) : oMinD (.lst (is.map D.int)) .non = some (.fz (minN is)) := by
  show (intsI (is.map D.int)).map _ = _
  rw [intsI_map]; rfl
def kNI3 (x : Val) (r : Val × Sts) : R (Val × Sts) := give (oMinD x.d r.1.d) r.2
def kNI (g : VE) (p : Val × Sts) : R (Val × Sts) := (g p.2).bind (kNI3 p.1)
def vMinD (f g : VE) : VE := fun st => (f st).bind (kNI g)
theorem vMinD_ap (f g : VE) (st : Sts) : vMinD f g st = (f st).bind (kNI g) := byDef rfl
theorem kNI_ap (g : VE) (r : Val) (st : Sts) : kNI g (r, st) = (g st).bind (kNI3 r) := byDef rfl
theorem kNI3_ap (x r : Val) (st : Sts) : kNI3 x (r, st) = give (oMinD x.d r.d) st := byDef rfl
variable {X : Cx} {W : Wx} {pos : Pos}
def rMinD (K : PySem.W.Frag) : List V → List V → Hp → VK → Prop := fun xs zs H Q => ∃ (a : Addr) (is : List Int) (d : V), xs = [.ref a] ∧ zs = [d] ∧ SqL K H a (is.map V.int) ∧ (is = [] → Q d H) ∧ ∀ i js, is = i :: js → Q (.int (js.foldl min i)) H
theorem callMinD (hc : X.calm = true) (hu : X.A.units + 3 < cLine) : CallRK X (.builtin "min") [Str.ofString "default"] (rMinD X.K) := by
  intro pins s σ H xs zs us ws Q I rx rz ⟨a, is, d, ex, ez, hs, q1, q2⟩
  subst ex ez
  rw [Vals.ref1 rx]
  obtain ⟨w, ew, rw'⟩ := rz.one
  subst ew
  obtain ⟨its, r, hl, hz⟩ := I.list hs
  have hi : IntsAre its is := intsAre_of r
  have hr : ∀ {its : List Value} {is : List Int}, IntsAre its is → ReadsAll s.heap its (is.map PyData.int) [] := by
    intro its is h
    induction h with
    | nil => exact .nil
    | cons n t _ ih => exact .cons (as := []) (bs := []) (.int _ _) ih
  have hd : PyData.depthAll (is.map PyData.int) ≤ 1 := by
    clear q1 q2 hs hi r hl hz
    induction is with
    | nil => exact Nat.zero_le _
    | cons i is ih => simp [PyData.depthAll, PyData.depth]; omega
  have hal : PySem.W.AlikeAll (is.map PyData.int) := by
    refine ⟨fun x hx y hy => ?_, fun x hx => ?_⟩
    · obtain ⟨i, _, rfl⟩ := List.mem_map.mp hx
      obtain ⟨j, _, rfl⟩ := List.mem_map.mp hy
      rfl
    · obtain ⟨i, _, rfl⟩ := List.mem_map.mp hx
      exact fun z => nomatch z
  refine PySem.W.min_list_default (I.ok.hd hc) hl.isList (by rw [List.toList_toArray]; exact hr hi) hal (by omega) (fun h0 h' tk kp => ?_) fun y ys i v h' tk bs e1 e2 e3 kp => ?_
  · have : is = [] := by simpa using h0
    exact ⟨d, H, I.kept kp, rw', q1 this⟩
  · cases is with
    | nil => cases e1
    | cons j js =>
      rw [List.map_cons] at e1
      injection e1 with e4 e5
      subst e4 e5
      rw [PySem.W.minD_ints] at e3
      cases e3 with
      | int => exact ⟨.int _, H, I.kept kp, ⟨_, rfl⟩, q2 j js rfl⟩

theorem de_minD {x : Str} {p pos kpos : Pos} {e d : Expr} {f g : VE} (hc : X.calm = true) (hu : X.A.units + 3 < cLine) (hg : Gl X x) (hm : X.mg x = none) (hv : bootBuiltins x = some (.builtin "min")) (he : DE X W e f) (hd : DE X W d g) (hn : x ≠ "__name__" := by decide) (hdb : (x == ("__debug__" : Str)) = false := by decide)
    (hs : backTo pos (starEach [e] X.env) = (false, eval e X.env) :: backTo pos (starEach [] X.env) := by rfl) (hpl : (backTo pos (starEach [e] X.env)).any (·.1) = false := by rfl) (hse : starEach [e] X.env = (false, eval e X.env) :: starEach [] X.env := by rfl)
    (hall : (backToKw pos (keywordEach [⟨some (Str.ofString "default"), d, kpos⟩] X.env)).all (·.1.isSome) = true := by rfl) (hnone : (backToKw pos (keywordEach [⟨some (Str.ofString "default"), d, kpos⟩] X.env)).any (·.1.isNone) = false := by rfl) (hks : (backToKw pos (keywordEach [⟨some (Str.ofString "default"), d, kpos⟩] X.env)).filterMap (·.1) = [Str.ofString "default"] := by rfl) :
    DE X W (.Call (.Name x p) [e] [⟨some (Str.ofString "default"), d, kpos⟩] pos) (vMinD f g) :=
  PE.imp (pe_callBK (callMinD hc hu) hg hm hv (pa_cons he pa_nil hse) (pk_cons hd pk_nil) hn hdb hs hpl hall hnone hks) fun σ H Q ⟨E, F, st, S, q⟩ => by
  refine seqE (Q := Q) (k := kNI g) S q fun r1 st1 v F1 H1 a b S1 vr k => ?_
  refine seqE (Q := Q) (k := kNI3 r1) S1 k fun r2 st2 u F2 H2 a2 b2 S2 ur k => ?_
  have k : EndE X.K W E F2 H2 σ (give (oMinD r1.d r2.d) st2) Q := k
  cases e3 : oMinD r1.d r2.d with
  | none => rw [e3] at k; exact k.elim
  | some res =>
    rw [e3] at k
    have hx := ORel.mono a2 b2 (VRel.o S1 vr)
    have hy := VRel.o S2 ur
    obtain ⟨ds, is, hd1, hd2, h1, h2⟩ : ∃ ds is, r1.d = .lst ds ∧ r2.d = .non ∧ intsI ds = some is ∧ res = .fz (minN is) := by
      revert e3
      generalize r1.d = d1
      generalize r2.d = d2
      intro e3
      unfold oMinD at e3
      split at e3
      · rename_i ds
        obtain ⟨is, q1, q2⟩ := Option.map_eq_some_iff.mp e3
        exact ⟨ds, is, rfl, rfl, q1, q2.symm⟩
      · cases e3
    rw [hd1] at hx
    rw [hd2] at hy
    have hu' := hy.non
    subst hu' h2
    have hds := intsI_eq h1
    obtain ⟨ad, vs, e1, hq, r1'⟩ := hx.lst S2.sub
    rw [hds] at r1'
    have hvs : vs = is.map V.int := by
      clear e3 k h1 hds hx hq hd1
      induction is generalizing vs with
      | nil => exact r1'
      | cons i is ih =>
        obtain ⟨w, r, q1, q2, q3⟩ := r1'
        rw [q1, ih _ q3, show w = .int i from q2]; rfl
    subst hvs
    refine ⟨ad, is, .non, by rw [e1], rfl, hq, fun h0 => ?_, fun i js h0 => ?_⟩
    · subst h0
      exact k _ F2 H2 (Same.refl _) (Same.refl _) S2 rfl
    · subst h0
      exact k _ F2 H2 (Same.refl _) (Same.refl _) S2 rfl
theorem list_extend_pl (l : Addr) (items : Array Value) (n : Nat) (b : Addr) (items2 : Array Value) (hlong : ¬ (!items.isEmpty && Builtin.List.listTooLong (items.size + items2.size)) = true) (h1 : items.size ≤ sizeLine) (h2 : items.size + items2.size ≤ sizeLine + 1) :
    Meets (Builtin.«list.extend» ⟨[.ref l, .ref b], []⟩) (fun _ R s => s.heap.get? l = some { cls := .type "list", dict := none, data := .seq items n, slots := #[] } ∧ PlainL s.heap b items2 ∧ R (.ok (.ret Value.none)) { s with heap := s.heap.update l (Obj.mapSeq fun x => x ++ items2), toks := s.toks }) :=
  .of_wp fun prog w A R s h => by
  obtain ⟨hl, ⟨o, n2, ho, hc, _, hd⟩, hR⟩ := h
  unfold Builtin.«list.extend»
  refine wpAny_bind (wpAny_of_eq (a := (Value.ref l, Value.ref b)) rfl ?_)
  show wpAny _ _ (Builtin.List.listExtendWith (.ref l) (.ref b) .none) _ _ s
  unfold Builtin.List.listExtendWith
  refine wpAny_bind (wpAny_typeOf (T := "list") ⟨o, ho, hc⟩ ?_)
  have ht : (Value.type "list" == Value.type "list") = true := by rfl
  rw [if_pos (by rw [ht]; simp)]
  refine wpAny_bind (listItems_at ho hd ?_)
  refine wpAny_bind (listItems_at hl rfl ?_)
  rw [if_neg hlong]
  refine wpAny_bind (listUpdate_at hl rfl ?_ h1 (by rw [Array.size_append]; exact h2))
  exact wpAny_pure ⟨_, rfl, hR⟩
def rExtendL (K : PySem.W.Frag) : V → List V → Hp → VK → Prop := fun x vs H Q => ∃ l b xs zs, x = .ref l ∧ vs = [.ref b] ∧ H l = some (.lst xs) ∧ SqL K H b zs ∧ xs.length + zs.length ≤ sizeLine ∧ Q .non (upd H l (.lst (xs ++ zs)))
theorem mt_extendL {X : Cx} : MtM X "list.extend" (rExtendL X.K) := by
  intro pins s σ H x vs v us Q I rx rv h
  obtain ⟨l, b, xs, zs, rfl, rfl, hH, hB, hz, q⟩ := h
  cases rx
  obtain ⟨u, rfl, ru⟩ := rv.one
  cases ru
  obtain ⟨z, its, n, r, hl, e⟩ := I.lstM hH
  obtain ⟨its2, r2, p2, hz2⟩ := I.list hB
  have hl2 := r2.length
  have hsz : its.toArray.size + its2.toArray.size ≤ sizeLine := by rw [List.size_toArray, List.size_toArray]; omega
  have hlong : ¬ (!its.toArray.isEmpty && Builtin.List.listTooLong (its.toArray.size + its2.toArray.size)) = true := by
    rw [notLongL hsz, Bool.and_false]
    exact Bool.false_ne_true
  refine call_meets PySem.F.slot_list_extend ⟨_, e, rfl⟩ PySem.F.entry_list_extend (PySem.F.args_list_extend_2 _ _)
    (list_extend_pl l its.toArray n b its2.toArray hlong (by rw [List.size_toArray]; omega) (by omega)) ⟨e, p2, ?_⟩
  refine ⟨.non, _, I.lset (its' := its ++ its2) hH e (by simp) (r.append r2) ?_, rfl, q⟩
  rw [List.length_append]
  omega
def mExtendL : M → List D → Option (Val × M)
  | .lst ds, [.lst es] => if ds.length + es.length ≤ 16777216 then some (.fz .non, .lst (ds ++ es)) else none
  | _, _ => none
theorem mut_extendL {K : PySem.W.Frag} : MutR K (rExtendL K) mExtendL := fun E F H st σ i m m' a ds xs res Q S e ea r op q => by
  match m, ds, op with
  | .lst es, [.lst fs], op =>
    dsimp only [mExtendL] at op
    by_cases hl : es.length + fs.length ≤ 16777216
    · rw [if_pos hl] at op
      cases op
      obtain ⟨v, rfl, rv⟩ := r.one'
      obtain ⟨b, e1, ow⟩ := S.own i _ e
      rw [ea] at e1
      cases e1
      obtain ⟨o, e2, vs, rfl, rs⟩ := ow.here
      obtain ⟨c, ws, rfl, hc, rw'⟩ := rv
      exact ⟨a, c, vs, ws, rfl, rfl, e2, Same.seq S.sub hc, by rw [rs.length, rw'.length, sizeLine_eq]; exact hl, q _ F _ (Same.refl _) (S.write e ea ⟨_, rfl, rs.append rw'⟩) rfl⟩
    · rw [if_neg hl] at op; cases op
theorem mExtendL_ap (ds es : List D) : mExtendL (.lst ds) [.lst es] = if ds.length + es.length ≤ 16777216 then some (.fz .non, .lst (ds ++ es)) else none := byDef rfl
theorem foldl_min_le : ∀ (is : List Int) (i : Int), is.foldl min i ≤ i ∧ ∀ y ∈ is, is.foldl min i ≤ y
  | [], i => ⟨Int.le_refl _, fun _ h => by cases h⟩
  | j :: is, i => by
    obtain ⟨h1, h2⟩ := foldl_min_le is (min i j)
    rw [List.foldl_cons]
    refine ⟨by omega, fun y hy => ?_⟩
    rcases List.mem_cons.mp hy with rfl | hy
    · omega
    · exact h2 y hy
theorem foldl_min_mem : ∀ (is : List Int) (i : Int), is.foldl min i ∈ i :: is
  | [], i => List.mem_singleton.mpr rfl
  | j :: is, i => by
    have h := foldl_min_mem is (min i j)
    rw [List.foldl_cons]
    rcases List.mem_cons.mp h with h | h
    · rw [h]
      rcases (show min i j = i ∨ min i j = j by omega) with q | q
      · rw [q]; exact List.mem_cons_self
      · rw [q]; exact List.mem_cons_of_mem _ List.mem_cons_self
    · exact List.mem_cons_of_mem _ (List.mem_cons_of_mem _ h)
def minEnd (o : Option (List Int)) : Option Val := match o with
  | some (i :: is) => some (.fz (.int (is.foldl min i)))
  | _ => none
def oMinL : List D → Option Val
  | [.lst ds] => minEnd (intsOf ds)
  | _ => none
theorem oMinL_ap (ds : List D) : oMinL [.lst ds] = minEnd (intsOf ds) := byDef rfl
theorem callMinL (hc : X.calm = true) : CallR X (.builtin "min") (rDN X.K oMinL) := by
  intro pins s σ H xs us Q I r ⟨E, F, st, σ', ds, res, S, hx, e, p⟩
  match ds, e with
  | [.lst es], e =>
    obtain ⟨v, rfl, h⟩ := hx.one
    obtain ⟨a, vs, rfl, h1, r1⟩ := h.lst S.sub
    have e : minEnd (intsOf es) = some res := e
    match h2 : intsOf es with
    | none => rw [h2] at e; cases e
    | some [] => rw [h2] at e; cases e
    | some (i :: is) =>
      rw [h2] at e
      cases e
      refine cr_min hc pins s σ H _ us Q I r ⟨a, i :: is, rfl, by rw [← reps_intsOf h2 r1]; exact h1, Nat.succ_pos _, fun m hm hle => ?_⟩
      have e3 : m = is.foldl min i := by
        have g1 := hle _ (foldl_min_mem is i)
        obtain ⟨g2, g3⟩ := foldl_min_le is i
        rcases List.mem_cons.mp hm with rfl | hm
        · omega
        · have := g3 m hm; omega
      rw [e3]
      exact p.fz S rfl
end Vl
/-! d.pop(k) of a dict with int or text keys -/
namespace Vl
open PySem PySem.Spec PyProof.Rows L2
def dropL : List D → List D → D → List D × List D
  | k' :: ks, v :: vs, k => if k' = k then dropL ks vs k else (k' :: (dropL ks vs k).1, v :: (dropL ks vs k).2)
  | ks, vs, _ => (ks, vs)
theorem reps_drop {K : PySem.W.Frag} {F : Hp} {k : D} {κ : Key} (hk : keyD k = some κ) : ∀ {kvs : List (Key × V)} {ks vs : List D}, Reps K F ks (kvs.map fun p => kV p.1) → Reps K F vs (kvs.map (·.2)) →
    Reps K F (dropL ks vs k).1 ((dropK kvs κ).map fun p => kV p.1) ∧ Reps K F (dropL ks vs k).2 ((dropK kvs κ).map (·.2))
  | [], ks, vs, h1, h2 => by
    cases ks with
    | cons a as => obtain ⟨v, r, e, _⟩ := h1; cases e
    | nil =>
      cases vs with
      | cons a as => obtain ⟨v, r, e, _⟩ := h2; cases e
      | nil => exact ⟨h1, h2⟩
  | p :: kvs, ks, vs, h1, h2 => by
    cases ks with
    | nil => cases h1
    | cons a as =>
      cases vs with
      | nil => cases h2
      | cons b bs =>
        obtain ⟨v, r, e, r1, r2⟩ := h1
        cases e
        obtain ⟨w, r', e', r3, r4⟩ := h2
        cases e'
        have ha := rep_key r1
        obtain ⟨q1, q2⟩ := reps_drop hk r2 r4
        unfold dropL
        by_cases h : a = k
        · have hp : p.1 = κ := by
            rw [h, hk] at ha
            exact (Option.some.inj ha).symm
          rw [if_pos h, show dropK (p :: kvs) κ = dropK kvs κ from by
            unfold dropK
            rw [List.filter_cons, if_neg (by simpa using hp)]]
          exact ⟨q1, q2⟩
        · have hp : ¬ p.1 = κ := fun z => h (keyD_inj (by rw [ha, z]) hk)
          rw [if_neg h, show dropK (p :: kvs) κ = p :: dropK kvs κ from by
            unfold dropK
            rw [List.filter_cons, if_pos (by simpa using hp)]]
          exact ⟨⟨_, _, rfl, r1, q1⟩, ⟨_, _, rfl, r3, q2⟩⟩
def rPopD : V → List V → Hp → VK → Prop := fun x vs H Q => ∃ a kvs k v, x = V.ref a ∧ vs = [kV k] ∧ H a = some (.dK kvs) ∧ valV kvs k = some v ∧ Q v (upd H a (.dK (dropK kvs k)))
theorem mt_popD {X : Cx} : MtM X "dict.pop" rPopD := by
  intro pins s σ H x vs v us Q I rx rv h
  obtain ⟨a, kvs, k, z, rfl, rfl, hH, hv, q⟩ := h
  cases rx
  obtain ⟨u, rfl, ru⟩ := rv.one
  exact d_pop I hH ru hv (.inl rfl) fun w' s4 I4 rw' => ⟨z, _, I4, rw', q⟩
def mPopD : M → List D → Option (Val × M)
  | .dct ks vs, [k] => match keyD k with
    | some _ => match getK ks vs k with
      | some d => some (.fz d, .dct (dropL ks vs k).1 (dropL ks vs k).2)
      | none => none
    | none => none
  | _, _ => none
theorem mut_popD {K : PySem.W.Frag} : MutR K rPopD mPopD := fun E F H st σ i m m' a ds xs res Q S e ea r op q => by
  match m, ds, op with
  | .dct ks vs, [k], op =>
    dsimp only [mPopD] at op
    cases ek : keyD k with
    | none => rw [ek] at op; cases op
    | some κ =>
      rw [ek] at op
      dsimp only at op
      cases eg : getK ks vs k with
      | none => rw [eg] at op; cases op
      | some d =>
        rw [eg] at op
        cases op
        obtain ⟨v, rfl, rv⟩ := r.one'
        obtain ⟨ey, _⟩ := key_rep (H := F) (.inl rv) ek
        subst ey
        obtain ⟨b, e1, ow⟩ := S.own i _ e
        rw [ea] at e1
        cases e1
        obtain ⟨o, e2, kvs, rfl, r1, r2⟩ := ow.here
        obtain ⟨w, ew, rw'⟩ := (reps_get ek r1 r2).1 d eg
        obtain ⟨q1, q2⟩ := reps_drop ek r1 r2
        exact ⟨a, kvs, κ, w, rfl, rfl, e2, ew, q _ F _ (Same.refl _) (S.write e ea ⟨_, rfl, q1, q2⟩) rw'⟩
theorem mPopD_ap (ks vs : List D) (x : List Nat) : mPopD (.dct ks vs) [.str x] = match getK ks vs (.str x) with
    | some d => some (.fz d, .dct (dropL ks vs (.str x)).1 (dropL ks vs (.str x)).2)
    | none => none := byDef rfl
/-! xs.insert(i, y) -/
theorem reps_take {K : PySem.W.Frag} {F : Hp} : ∀ {ds : List D} {vs : List V} (n : Nat), Reps K F ds vs → Reps K F (ds.take n) (vs.take n) ∧ Reps K F (ds.drop n) (vs.drop n)
  | [], vs, n, h => by
    have e : vs = [] := h
    subst e
    rw [List.take_nil, List.drop_nil, List.take_nil, List.drop_nil]
    exact ⟨rfl, rfl⟩
  | d :: ds, vs, 0, h => ⟨rfl, h⟩
  | d :: ds, vs, n + 1, h => by
    obtain ⟨v, us, e, h1, h2⟩ := h
    subst e
    obtain ⟨q1, q2⟩ := reps_take n h2
    exact ⟨⟨v, _, rfl, h1, q1⟩, q2⟩
def rInsertL : V → List V → Hp → VK → Prop := fun x vs H Q => ∃ (l : Addr) (xs : List V) (i : Int) (y : V), x = .ref l ∧ vs = [.int i, y] ∧ H l = some (.lst xs) ∧ xs.length < sizeLine ∧ 0 ≤ i ∧ i < 2 ^ 63 ∧
    Q .non (upd H l (.lst (xs.take i.toNat ++ [y] ++ xs.drop i.toNat)))
theorem mt_insertL {X : Cx} : MtM X "list.insert" rInsertL := mt_insert
def mInsert : M → List D → Option (Val × M)
  | .lst ds, [.int i, d] => if (decide (ds.length < 16777216) && (decide (0 ≤ i) && decide (i < 1073741824))) = true then some (.fz .non, .lst (ds.take i.toNat ++ [d] ++ ds.drop i.toNat)) else none
  | _, _ => none
theorem mut_insert {K : PySem.W.Frag} : MutR K rInsertL mInsert := fun E F H st σ i m m' a ds xs res Q S e ea r op q => by
  match m, ds, op with
  | .lst es, [.int j, d], op =>
    dsimp only [mInsert] at op
    by_cases hl : (decide (es.length < 16777216) && (decide (0 ≤ j) && decide (j < 1073741824))) = true
    · rw [if_pos hl] at op
      cases op
      rw [Bool.and_eq_true, Bool.and_eq_true, decide_eq_true_eq, decide_eq_true_eq, decide_eq_true_eq] at hl
      obtain ⟨v, u, rfl, rv, ru⟩ := r.two'
      have ev : v = .int j := rv
      subst ev
      obtain ⟨b, e1, ow⟩ := S.own i _ e
      rw [ea] at e1
      cases e1
      obtain ⟨o, e2, vs, rfl, rs⟩ := ow.here
      obtain ⟨q1, q2⟩ := reps_take j.toNat rs
      exact ⟨a, vs, j, u, rfl, rfl, e2, by rw [rs.length, sizeLine_eq]; exact hl.1, hl.2.1, by omega, q _ F _ (Same.refl _) (S.write e ea ⟨_, rfl, (q1.append (Reps.one ru)).append q2⟩) rfl⟩
    · rw [if_neg hl] at op; cases op
theorem mInsert_ap (ds : List D) (i : Int) (d : D) : mInsert (.lst ds) [.int i, d] = if (decide (ds.length < 16777216) && (decide (0 ≤ i) && decide (i < 1073741824))) = true then some (.fz .non, .lst (ds.take i.toNat ++ [d] ++ ds.drop i.toNat)) else none := byDef rfl
end Vl
/-! tuple * int -/
namespace Vl
open PySem PySem.Spec PyProof.Rows L2
def repT (ds : List D) (n : Nat) : List D := (List.replicate n ds).flatten
def oMulT : D → D → Option Val
  | .tup a, .int n => if (!a.isEmpty && (decide (2 ≤ n) && (decide (n ≤ 1000) && decide (a.length ≤ 1000)))) = true then some (.fz (.tup (repT a n.toNat))) else none
  | a, b => oMul a b
theorem reps_rep {K : PySem.W.Frag} {F : Hp} {ds : List D} {vs : List V} (h : Reps K F ds vs) : ∀ n : Nat, Reps K F (repT ds n) (List.replicate n vs).flatten
  | 0 => rfl
  | n + 1 => by
    show Reps K F (List.replicate (n + 1) ds).flatten _
    rw [List.replicate_succ, List.replicate_succ, List.flatten_cons, List.flatten_cons]
    exact h.append (reps_rep h n)
section
variable {X : Cx}
theorem opMulT : OpR X (binaryOp .Mult) (rD X.K oMulT) := by
  intro pins s σ H x y v u Q I rx ry ⟨E, F, st, σ', dx, dy, res, S, hx, hy, e, p⟩
  have old : oMul dx dy = some res → _ := fun e' => opMul pins s σ H x y v u Q I rx ry ⟨E, F, st, σ', dx, dy, res, S, hx, hy, e', p⟩
  cases dx with
  | tup a =>
    cases dy with
    | int n =>
      have e : (if (!a.isEmpty && (decide (2 ≤ n) && (decide (n ≤ 1000) && decide (a.length ≤ 1000)))) = true then some (Val.fz (.tup (repT a n.toNat))) else none) = some res := e
      by_cases hc : (!a.isEmpty && (decide (2 ≤ n) && (decide (n ≤ 1000) && decide (a.length ≤ 1000)))) = true
      · rw [if_pos hc] at e
        cases e
        rw [Bool.and_eq_true, Bool.and_eq_true, Bool.and_eq_true, decide_eq_true_eq, decide_eq_true_eq, decide_eq_true_eq] at hc
        obtain ⟨h0, h1, h2, h3⟩ := hc
        obtain ⟨l, vs, e1, hT, r1⟩ := hx.tup S.sub
        have e2 := hy.int
        subst e1 e2
        have hne : vs ≠ [] := fun z => by
          have := r1.length
          rw [z] at this
          cases a with
          | nil => cases h0
          | cons b r => simp at this
        exact op_repT pins s σ H _ _ v u Q I rx ry ⟨l, n, vs, rfl, rfl, hT, hne, h1, h2, by rw [r1.length]; exact h3, fun q hq => p.newT S (reps_rep r1 n.toNat) q hq⟩
      · rw [if_neg hc] at e; cases e
    | _ => exact old e
  | _ => exact old e
theorem oMulT_tup (a : List D) (n : Int) : oMulT (.tup a) (.int n) = if (!a.isEmpty && (decide (2 ≤ n) && (decide (n ≤ 1000) && decide (a.length ≤ 1000)))) = true then some (.fz (.tup (repT a n.toNat))) else none := byDef rfl
/-! a, b = a list -/
def gTL (gs : List VG) : VG := fun d st => match d with
  | .lst ds => gsRun gs ds st
  | _ => none
theorem dg_lst {pos : Pos} {es : List Expr} {k : Nat} {gs : List VG} (hc : X.calm = true) (h : DGs X es gs) (hn : (assignEach es X.env).length = gs.length := by rfl) (hst : (assignEach es X.env).findIdx? (·.1) = none := by rfl) : DG X (.Tuple es k pos) (gTL gs) :=
  PG.imp (pg_unl hc h hn hst) fun v σ H Q ⟨E, F, st, d, st', S, r, e, q⟩ => by
    cases d with
    | lst ds =>
      obtain ⟨a, vs, e1, sq, rs⟩ := r
      exact ⟨a, vs, e1, Same.seq S.sub sq, by rw [rs.length]; exact gsRun_len e, E, F, st, ds, st', S, rs, e, q⟩
    | _ => cases e
theorem gTL_ap (gs : List VG) (ds : List D) (st : Sts) : gTL gs (.lst ds) st = gsRun gs ds st := byDef rfl
end
end Vl
/-! # a store of objects: lists and dicts within one another, objects that are changed -/
namespace Vl
open PySem PySem.Spec PyProof.Rows L2
mutual
def RepS (K : PySem.W.Frag) (φ : List Addr) (F : Hp) : SD → V → Prop
  | .fz d, v => Rep K F d v
  | .lab n, v => ∃ a, φ[n]? = some a ∧ v = .ref a
  | .tup ds, v => ∃ a vs, v = .ref a ∧ F a = some (.tup vs) ∧ RepsS K φ F ds vs
def RepsS (K : PySem.W.Frag) (φ : List Addr) (F : Hp) : List SD → List V → Prop
  | [], vs => vs = []
  | d :: ds, vs => ∃ v r, vs = v :: r ∧ RepS K φ F d v ∧ RepsS K φ F ds r
end
def Le (φ φ' : List Addr) : Prop := ∀ (n : Nat) (a : Addr), φ[n]? = some a → φ'[n]? = some a
theorem Le.refl (φ : List Addr) : Le φ φ := fun _ _ h => h
theorem Le.trans {a b c : List Addr} (h : Le a b) (g : Le b c) : Le a c := fun n x e => g n x (h n x e)
theorem Le.app (φ ψ : List Addr) : Le φ (φ ++ ψ) := fun n a e => by
  rw [List.getElem?_append_left (List.getElem?_eq_some_iff.mp e).1]; exact e
section
variable {K : PySem.W.Frag} {φ φ' : List Addr} {F F' : Hp}
mutual
theorem RepS.mono (p : Le φ φ') (e : Same F F') : ∀ (d : SD) (v : V), RepS K φ F d v → RepS K φ' F' d v
  | .fz d, v, h => Rep.mono e d v h
  | .lab n, _, ⟨a, h1, h2⟩ => ⟨a, p _ _ h1, h2⟩
  | .tup ds, _, ⟨a, vs, h1, h2, h3⟩ => ⟨a, vs, h1, e _ _ h2, RepsS.mono p e ds vs h3⟩
theorem RepsS.mono (p : Le φ φ') (e : Same F F') : ∀ (ds : List SD) (vs : List V), RepsS K φ F ds vs → RepsS K φ' F' ds vs
  | [], _, h => h
  | d :: ds, _, ⟨v, r, h1, h2, h3⟩ => ⟨v, r, h1, RepS.mono p e d v h2, RepsS.mono p e ds r h3⟩
end
theorem RepsS.length : ∀ {ds : List SD} {vs : List V}, RepsS K φ F ds vs → vs.length = ds.length
  | [], _, h => by
    have h : _ = [] := h
    subst h; rfl
  | d :: ds, _, ⟨v, r, h1, h2, h3⟩ => by subst h1; simp [RepsS.length h3]
theorem RepsS.get : ∀ {ds : List SD} {vs : List V} {i : Nat} {d : SD}, RepsS K φ F ds vs → ds[i]? = some d → ∃ v, vs[i]? = some v ∧ RepS K φ F d v
  | [], _, _, _, h, e => by simp at e
  | d :: ds, _, 0, _, ⟨v, r, h1, h2, h3⟩, e => by
    subst h1
    have e' : d = _ := Option.some.inj (by simpa using e)
    subst e'
    exact ⟨v, rfl, h2⟩
  | d :: ds, _, i + 1, d', ⟨v, r, h1, h2, h3⟩, e => by
    subst h1
    obtain ⟨u, e1, e2⟩ := RepsS.get (i := i) (d := d') h3 (by simpa using e)
    exact ⟨u, by simpa using e1, e2⟩
theorem RepsS.append : ∀ {ds es : List SD} {vs us : List V}, RepsS K φ F ds vs → RepsS K φ F es us → RepsS K φ F (ds ++ es) (vs ++ us)
  | [], _, _, _, h, q => by
    have h : _ = [] := h
    subst h; exact q
  | d :: ds, _, _, _, ⟨v, r, h1, h2, h3⟩, q => by
    subst h1
    exact ⟨v, _, rfl, h2, RepsS.append h3 q⟩
theorem RepsS.take : ∀ {ds : List SD} {vs : List V} (n : Nat), RepsS K φ F ds vs → RepsS K φ F (ds.take n) (vs.take n)
  | _, _, 0, h => by simp [RepsS]
  | [], _, n + 1, h => by
    have h : _ = [] := h
    subst h; simp [RepsS]
  | d :: ds, _, n + 1, ⟨v, r, h1, h2, h3⟩ => by
    subst h1
    exact ⟨v, _, rfl, h2, RepsS.take n h3⟩
theorem RepsS.drop : ∀ {ds : List SD} {vs : List V} (n : Nat), RepsS K φ F ds vs → RepsS K φ F (ds.drop n) (vs.drop n)
  | _, _, 0, h => h
  | [], _, n + 1, h => by
    have h : _ = [] := h
    subst h; simp [RepsS]
  | d :: ds, _, n + 1, ⟨v, r, h1, h2, h3⟩ => by
    subst h1
    exact RepsS.drop n h3
theorem RepsS.reverse : ∀ {ds : List SD} {vs : List V}, RepsS K φ F ds vs → RepsS K φ F ds.reverse vs.reverse
  | [], _, h => by rw [show _ = [] from h]; rfl
  | d :: ds, _, ⟨v, r, h1, h2, h3⟩ => by
    subst h1
    rw [List.reverse_cons, List.reverse_cons]
    exact (RepsS.reverse h3).append ⟨v, [], rfl, h2, rfl⟩
theorem RepsS.one {d : SD} {v : V} (h : RepS K φ F d v) : RepsS K φ F [d] [v] := ⟨v, [], rfl, h, rfl⟩
theorem RepsS.one' {d : SD} {vs : List V} (h : RepsS K φ F [d] vs) : ∃ v, vs = [v] ∧ RepS K φ F d v := by
  obtain ⟨v, r, h1, h2, h3⟩ := h
  have h3 : r = [] := h3
  subst h3
  exact ⟨v, h1, h2⟩
theorem RepsS.two' {d e : SD} {vs : List V} (h : RepsS K φ F [d, e] vs) : ∃ v u, vs = [v, u] ∧ RepS K φ F d v ∧ RepS K φ F e u := by
  obtain ⟨v, r, h1, h2, h3⟩ := h
  obtain ⟨u, e1, e2⟩ := RepsS.one' h3
  subst e1
  exact ⟨v, u, h1, h2, e2⟩
theorem Reps.s : ∀ {ds : List D} {vs : List V}, Reps K F ds vs → RepsS K φ F (ds.map .fz) vs
  | [], _, h => h
  | d :: ds, _, ⟨v, r, h1, h2, h3⟩ => ⟨v, r, h1, h2, Reps.s h3⟩
end
/-- all of it frozen data? -/
def fzS : List SD → Option (List D)
  | [] => some []
  | .fz d :: r => (fzS r).map (d :: ·)
  | _ :: _ => none
theorem fzS_map : ∀ ds : List D, fzS (ds.map .fz) = some ds
  | [] => rfl
  | d :: ds => by rw [List.map_cons, fzS, fzS_map ds]; rfl
theorem fzS_reps {K : PySem.W.Frag} {φ : List Addr} {F : Hp} : ∀ {s : List SD} {ds : List D} {vs : List V}, fzS s = some ds → RepsS K φ F s vs → Reps K F ds vs
  | [], _, _, e, h => by cases e; exact h
  | .fz d :: r, ds, _, e, ⟨v, u, h1, h2, h3⟩ => by
    obtain ⟨es, e1, e2⟩ := Option.map_eq_some_iff.mp (show (fzS r).map (d :: ·) = some ds from e)
    subst e2
    exact ⟨v, u, h1, h2, fzS_reps e1 h3⟩
  | .lab _ :: _, _, _, e, _ => by cases e
  | .tup _ :: _, _, _, e, _ => by cases e
/-! ## objects of the store -/
inductive Ob where
  | lst (ds : List SD) | dct (ks : List D) (vs : List SD) | dcu (ks : List D) (vs : List SD) | ins (n : List Nat) (ks : List (List Nat)) (fs : List SD)
  deriving DecidableEq, Inhabited
abbrev Sto := List (Option Ob)
def OAt (K : PySem.W.Frag) (φ : List Addr) (F : Hp) : Ob → HO → Prop
  | .lst ds, o => ∃ vs, o = .lst vs ∧ RepsS K φ F ds vs
  | .dct ks ds, o => ∃ kvs, o = .dK kvs ∧ Reps K F ks (kvs.map fun p => kV p.1) ∧ RepsS K φ F ds (kvs.map (·.2))
  | .dcu ks ds, o => ∃ kvs, o = .dT kvs ∧ TKeys ks kvs ∧ RepsS K φ F ds (kvs.map (·.2))
  | .ins n ks fs, o => ∃ C dx vs, ClsK K n C ∧ o = .ins C dx ((ks.map tx).zip vs) ∧ ks.length = fs.length ∧ RepsS K φ F fs vs
theorem OAt.mono {K : PySem.W.Frag} {φ φ' : List Addr} {F F' : Hp} (p : Le φ φ') (e : Same F F') {b : Ob} {o : HO} (h : OAt K φ F b o) : OAt K φ' F' b o := by
  cases b with
  | lst ds => obtain ⟨vs, h1, h2⟩ := h; exact ⟨vs, h1, RepsS.mono p e _ _ h2⟩
  | dct ks ds => obtain ⟨kvs, h1, h2, h3⟩ := h; exact ⟨kvs, h1, Reps.mono e _ _ h2, RepsS.mono p e _ _ h3⟩
  | dcu ks ds => obtain ⟨kvs, h1, h2, h3⟩ := h; exact ⟨kvs, h1, h2, RepsS.mono p e _ _ h3⟩
  | ins n ks fs => obtain ⟨C, dx, vs, h1, h2, h3, h4⟩ := h; exact ⟨C, dx, vs, h1, h2, h3, RepsS.mono p e _ _ h4⟩
theorem OAt.nt {K : PySem.W.Frag} {φ : List Addr} {F : Hp} {b : Ob} {o : HO} (h : OAt K φ F b o) : tuO o = false := by
  cases b with
  | lst ds => obtain ⟨vs, rfl, h2⟩ := h; rfl
  | dct ks ds => obtain ⟨kvs, rfl, h2, h3⟩ := h; rfl
  | dcu ks ds => obtain ⟨kvs, rfl, h2, h3⟩ := h; rfl
  | ins n ks fs => obtain ⟨C, dx, vs, h1, rfl, h3, h4⟩ := h; rfl
theorem MAt.nt {K : PySem.W.Frag} {F : Hp} {m : M} {o : HO} (h : MAt K F m o) : tuO o = false := by
  cases m with
  | lst ds => obtain ⟨vs, rfl, _⟩ := h; rfl
  | dct ks ds => obtain ⟨kvs, rfl, _⟩ := h; rfl
  | dcu ks ds => obtain ⟨kvs, rfl, _⟩ := h; rfl
def obM : M → Ob
  | .lst ds => .lst (ds.map .fz)
  | .dct ks vs => .dct ks (vs.map .fz)
  | .dcu ks vs => .dcu ks (vs.map .fz)
theorem MAt.ob {K : PySem.W.Frag} {φ : List Addr} {F : Hp} {m : M} {o : HO} (h : MAt K F m o) : OAt K φ F (obM m) o := by
  cases m with
  | lst ds => obtain ⟨vs, h1, h2⟩ := h; exact ⟨vs, h1, h2.s⟩
  | dct ks ds => obtain ⟨kvs, h1, h2, h3⟩ := h; exact ⟨kvs, h1, h2, h3.s⟩
  | dcu ks ds => obtain ⟨kvs, h1, h2, h3⟩ := h; exact ⟨kvs, h1, h2, h3.s⟩
/-- a flat object -/
def obF : Ob → Option M
  | .lst ds => (fzS ds).map .lst
  | .dct ks vs => (fzS vs).map (.dct ks)
  | .dcu ks vs => (fzS vs).map (.dcu ks)
  | .ins _ _ _ => none
theorem obF_at {K : PySem.W.Frag} {φ : List Addr} {F : Hp} {b : Ob} {m : M} {o : HO} (e : obF b = some m) (h : OAt K φ F b o) : MAt K F m o := by
  cases b with
  | lst ds =>
    obtain ⟨es, e1, rfl⟩ := Option.map_eq_some_iff.mp (show (fzS ds).map M.lst = some m from e)
    obtain ⟨vs, h1, h2⟩ := h; exact ⟨vs, h1, fzS_reps e1 h2⟩
  | dct ks ds =>
    obtain ⟨es, e1, rfl⟩ := Option.map_eq_some_iff.mp (show (fzS ds).map (M.dct ks) = some m from e)
    obtain ⟨kvs, h1, h2, h3⟩ := h; exact ⟨kvs, h1, h2, fzS_reps e1 h3⟩
  | dcu ks ds =>
    obtain ⟨es, e1, rfl⟩ := Option.map_eq_some_iff.mp (show (fzS ds).map (M.dcu ks) = some m from e)
    obtain ⟨kvs, h1, h2, h3⟩ := h; exact ⟨kvs, h1, h2, fzS_reps e1 h3⟩
  | ins n ks fs => cases e
/-! ## the state with its store -/
abbrev Ent.sto (E : Ent) (K : PySem.W.Frag) (φ : List Addr) (F : Hp) : Ent := ⟨E.H, E.F, RepS K φ F⟩
structure SimS (K : PySem.W.Frag) (E : Ent) (φ : List Addr) (F H : Hp) (st : Sts) (μ : Sto) (σ : L2.St) : Prop where
  sim : Sim K (E.sto K φ F) F H st σ
  len : φ.length = μ.length
  sto : ∀ (n : Nat) (b : Ob), μ[n]? = some (some b) → ∃ a o, φ[n]? = some a ∧ F a = none ∧ E.H a = none ∧ H a = some o ∧ OAt K φ F b o
  inj : ∀ (n m : Nat) (b c : Ob) (a : Addr), μ[n]? = some (some b) → μ[m]? = some (some c) → φ[n]? = some a → φ[m]? = some a → n = m
  sep : ∀ (i n : Nat) (m : M) (b : Ob) (a : Addr), st[i]? = some (Sl.own m) → μ[n]? = some (some b) → σ[i]? = some (some (V.ref a)) → φ[n]? = some a → False
theorem Sim.setR {K : PySem.W.Frag} {E E' : Ent} {F H : Hp} {st : Sts} {σ : L2.St} (S : Sim K E F H st σ) (hH : E'.H = E.H) (hF : E'.F = E.F) (hR : ∀ s v, E.R s v → E'.R s v) : Sim K E' F H st σ where
  sub := S.sub
  ent := by rw [hH]; exact S.ent
  fe := by rw [hF]; exact S.fe
  gr := fun a o e => by rw [hF, hH]; exact S.gr a o e
  len := S.len
  val := S.val
  own := fun i m e => by
    obtain ⟨a, e1, ow⟩ := S.own i m e
    exact ⟨a, e1, ow.f, by rw [hH]; exact ow.e, ow.here⟩
  sep := S.sep
  adr := fun i b e => by
    obtain ⟨v, e1, e2⟩ := S.adr i b e
    refine ⟨v, e1, ?_⟩
    cases b with
    | ad a => exact e2
    | sd s => exact hR _ _ e2
section
variable {K : PySem.W.Frag} {E : Ent} {φ : List Addr} {F H : Hp} {st : Sts} {μ : Sto} {σ : L2.St}
open Classical in
/-- the entry anew: all that is there but the own objects in the slots -/
noncomputable def Ent.re (K : PySem.W.Frag) (φ : List Addr) (F H : Hp) (st : Sts) (σ : L2.St) : Ent :=
  ⟨fun a => if ∃ (i : Nat) (m : M), st[i]? = some (Sl.own m) ∧ σ[i]? = some (some (V.ref a)) then none else H a, F, RepS K φ F⟩
theorem Ent.re_none {K : PySem.W.Frag} {φ : List Addr} {F H : Hp} {st : Sts} {σ : L2.St} {a : Addr} {i : Nat} {m : M} (h : st[i]? = some (Sl.own m)) (g : σ[i]? = some (some (V.ref a))) : (Ent.re K φ F H st σ).H a = none :=
  if_pos ⟨i, m, h, g⟩
theorem Ent.re_some {K : PySem.W.Frag} {φ : List Addr} {F H : Hp} {st : Sts} {σ : L2.St} {a : Addr} (h : ∀ (i : Nat) (m : M), st[i]? = some (Sl.own m) → σ[i]? = some (some (V.ref a)) → False) : (Ent.re K φ F H st σ).H a = H a :=
  if_neg fun ⟨i, m, h1, h2⟩ => h i m h1 h2
theorem Ent.re_cases {K : PySem.W.Frag} {φ : List Addr} {F H : Hp} {st : Sts} {σ : L2.St} {a : Addr} (h : (Ent.re K φ F H st σ).H a = none) : H a = none ∨ ∃ (i : Nat) (m : M), st[i]? = some (Sl.own m) ∧ σ[i]? = some (some (V.ref a)) := by
  by_cases c : ∃ (i : Nat) (m : M), st[i]? = some (Sl.own m) ∧ σ[i]? = some (some (V.ref a))
  · exact .inr c
  · rw [Ent.re_some fun i m h1 h2 => c ⟨i, m, h1, h2⟩] at h
    exact .inl h
theorem SimS.re (S : SimS K E φ F H st μ σ) : Sim K (Ent.re K φ F H st σ) F H st σ where
  sub := S.sim.sub
  ent := fun a o e => by
    by_cases c : ∃ (i : Nat) (m : M), st[i]? = some (Sl.own m) ∧ σ[i]? = some (some (V.ref a))
    · obtain ⟨i, m, h1, h2⟩ := c
      rw [Ent.re_none h1 h2] at e; cases e
    · rw [Ent.re_some fun i m h1 h2 => c ⟨i, m, h1, h2⟩] at e; exact e
  fe := Same.refl _
  gr := fun a o e => .inl e
  len := S.sim.len
  val := S.sim.val
  own := fun i m e => by
    obtain ⟨a, e1, ow⟩ := S.sim.own i m e
    exact ⟨a, e1, ow.f, Ent.re_none e e1, ow.here⟩
  sep := S.sim.sep
  adr := fun i b e => by
    obtain ⟨v, e1, e2⟩ := S.sim.adr i b e
    exact ⟨v, e1, by cases b <;> exact e2⟩
/-- .. and back -/
theorem SimS.back (S : SimS K E φ F H st μ σ) {F' H' : Hp} {st' : Sts} {σ' : L2.St} (sF : Same F F') (S' : Sim K (Ent.re K φ F H st σ) F' H' st' σ') : SimS K E φ F' H' st' μ σ' := by
  have eN : ∀ a, (Ent.re K φ F H st σ).H a = none → E.H a = none := fun a h => by
    rcases Ent.re_cases h with h | ⟨i, m, h1, h2⟩
    · exact S.sim.ent.free h
    · obtain ⟨b, e1, ow⟩ := S.sim.own i m h1
      rw [h2] at e1; cases e1
      exact ow.e
  have live : ∀ (n : Nat) (b : Ob) (a : Addr), μ[n]? = some (some b) → φ[n]? = some a → (Ent.re K φ F H st σ).H a = H a := fun n b a h1 h2 =>
    Ent.re_some fun i m g1 g2 => S.sep i n m b a g1 h1 g2 h2
  refine ⟨⟨S'.sub, fun a o e => ?_, S.sim.fe.trans sF, fun a o e => ?_, S'.len, S'.val, fun i m e => ?_, S'.sep, fun i b e => ?_⟩, S.len, fun n b e => ?_, S.inj, fun i n m b a h1 h2 h3 h4 => ?_⟩
  · refine S'.ent a o ?_
    have h : H a = some o := S.sim.ent a o e
    cases q : (Ent.re K φ F H st σ).H a with
    | none =>
      have h2 := eN a q
      have e2 : E.H a = some o := e
      rw [h2] at e2; cases e2
    | some u =>
      have := S.re.ent a u q
      rw [h] at this; cases this; rfl
  · rcases S'.gr a o e with g | g | g
    · exact S.sim.gr a o g
    · exact .inr (.inl (eN a g))
    · exact .inr (.inr g)
  · obtain ⟨a, e1, ow⟩ := S'.own i m e
    exact ⟨a, e1, ow.f, eN a ow.e, ow.here⟩
  · obtain ⟨v, e1, e2⟩ := S'.adr i b e
    refine ⟨v, e1, ?_⟩
    cases b with
    | ad a => exact e2
    | sd s => exact RepS.mono (Le.refl _) sF _ _ e2
  · obtain ⟨a, o, e1, e2, e3, e4, e5⟩ := S.sto n b e
    have e6 : H' a = some o := S'.ent a o (by rw [live n b a e e1]; exact e4)
    refine ⟨a, o, e1, ?_, e3, e6, e5.mono (Le.refl _) sF⟩
    cases q : F' a with
    | none => rfl
    | some u =>
      rcases S'.gr a u q with g | g | g
      · rw [show F a = some u from g] at e2; cases e2
      · rw [live n b a e e1, e4] at g; cases g
      · have := S'.sub a u q
        rw [e6] at this; cases this
        rw [e5.nt] at g; cases g
  · obtain ⟨a', e1, ow⟩ := S'.own i m h1
    rw [h3] at e1; cases e1
    obtain ⟨a2, o, g1, g2, g3, g4, g5⟩ := S.sto n b h2
    rw [h4] at g1; cases g1
    have := ow.e
    rw [live n b a h2 h4, g4] at this; cases this
end
/-! ## results -/
inductive RS (α : Type) where
  | ok (a : α) | exc (c : Nat) (st : Sts) (μ : Sto) | no
def RS.bind {α β : Type} (x : RS α) (f : α → RS β) : RS β := match x with
  | .ok a => f a
  | .exc c st μ => .exc c st μ
  | .no => .no
theorem RS.bind_ok {α β : Type} (a : α) (f : α → RS β) : (RS.ok a).bind f = f a := byDef rfl
theorem RS.bind_exc {α β : Type} (c : Nat) (st : Sts) (μ : Sto) (f : α → RS β) : (RS.exc c st μ : RS α).bind f = .exc c st μ := byDef rfl
theorem RS.bind_no {α β : Type} (f : α → RS β) : (RS.no : RS α).bind f = .no := byDef rfl
theorem RS.bind_ite {α β : Type} {c : Prop} [Decidable c] (x y : RS α) (f : α → RS β) : (if c then x else y).bind f = if c then x.bind f else y.bind f := by split <;> rfl
theorem RS.bind_congr {α β : Type} {x y : RS α} (f : α → RS β) (h : x = y) : x.bind f = y.bind f := by rw [h]
abbrev S2 := Sts × Sto
abbrev SE := S2 → RS (SD × S2)
abbrev SB := S2 → RS (Bool × S2)
abbrev SA := S2 → RS (List SD × S2)
inductive SFlow where
  | nx (s : S2) | rt (v : SD) (μ : Sto) | bk (s : S2) | ct (s : S2)
abbrev SS := S2 → RS SFlow
section
variable (K : PySem.W.Frag) (W : Wx) (E : Ent) (φ : List Addr) (F : Hp) (σ : L2.St)
def EndES (res : RS (SD × S2)) (Q : VK) : Prop := match res with
  | .ok (r, s) => ∀ v φ' F' H', Same F F' → Le φ φ' → SimS K E φ' F' H' s.1 s.2 σ → RepS K φ' F' r v → Q v H'
  | .exc c st μ => ∀ φ' F' H', Same F F' → Le φ φ' → SimS K E φ' F' H' st μ σ → W c σ H'
  | .no => False
def EndTS (res : RS (Bool × S2)) (Q : Bool → Hp → Prop) : Prop := match res with
  | .ok (r, s) => ∀ φ' F' H', Same F F' → Le φ φ' → SimS K E φ' F' H' s.1 s.2 σ → Q r H'
  | .exc c st μ => ∀ φ' F' H', Same F F' → Le φ φ' → SimS K E φ' F' H' st μ σ → W c σ H'
  | .no => False
def EndAS (res : RS (List SD × S2)) (Q : List V → Hp → Prop) : Prop := match res with
  | .ok (rs, s) => ∀ vs φ' F' H', Same F F' → Le φ φ' → SimS K E φ' F' H' s.1 s.2 σ → RepsS K φ' F' rs vs → Q vs H'
  | .exc c st μ => ∀ φ' F' H', Same F F' → Le φ φ' → SimS K E φ' F' H' st μ σ → W c σ H'
  | .no => False
def EndSS (res : RS SFlow) (D : Ends) : Prop := match res with
  | .ok (.nx s) => ∀ σ' φ' F' H', Same F F' → Le φ φ' → SimS K E φ' F' H' s.1 s.2 σ' → D.nx σ' H'
  | .ok (.bk s) => ∀ σ' φ' F' H', Same F F' → Le φ φ' → SimS K E φ' F' H' s.1 s.2 σ' → D.bk σ' H'
  | .ok (.ct s) => ∀ σ' φ' F' H', Same F F' → Le φ φ' → SimS K E φ' F' H' s.1 s.2 σ' → D.ct σ' H'
  | .ok (.rt r μ) => ∀ v st σ' φ' F' H', Same F F' → Le φ φ' → SimS K E φ' F' H' st μ σ' → RepS K φ' F' r v → D.rt v H'
  | .exc c st μ => ∀ σ' φ' F' H', Same F F' → Le φ φ' → SimS K E φ' F' H' st μ σ' → W c σ' H'
  | .no => False
end
def upE (K : PySem.W.Frag) (W : Wx) (f : SE) : TE := fun σ H Q => ∃ E φ F s, SimS K E φ F H s.1 s.2 σ ∧ EndES K W E φ F σ (f s) Q
def upB (K : PySem.W.Frag) (W : Wx) (f : SB) : TT := fun σ H Q => ∃ E φ F s, SimS K E φ F H s.1 s.2 σ ∧ EndTS K W E φ F σ (f s) Q
def upR (K : PySem.W.Frag) (W : Wx) (f : SA) : TA := fun σ H Q => ∃ E φ F s, SimS K E φ F H s.1 s.2 σ ∧ EndAS K W E φ F σ (f s) Q
def upZ (K : PySem.W.Frag) (W : Wx) (f : SS) : TS := fun D σ H => ∃ E φ F s, SimS K E φ F H s.1 s.2 σ ∧ EndSS K W E φ F (f s) D
abbrev BE (X : Cx) (W : Wx) (e : Expr) (f : SE) : Prop := PE X e (upE X.K W f)
abbrev BT (X : Cx) (W : Wx) (e : Expr) (f : SB) : Prop := PT X e (upB X.K W f)
abbrev BA (X : Cx) (W : Wx) (es : List Expr) (f : SA) : Prop := PA X es (upR X.K W f)
abbrev BS (X : Cx) (W : Wx) (s : Stmt) (f : SS) : Prop := PS X s (upZ X.K W f)
abbrev BSs (X : Cx) (W : Wx) (s : List Stmt) (f : SS) : Prop := PSs X s (upZ X.K W f)
section
variable {K : PySem.W.Frag} {W : Wx} {E : Ent} {φ φ' : List Addr} {F F' H : Hp} {σ : L2.St}
theorem EndES.mono {res : RS (SD × S2)} {Q : VK} (e : Same F F') (p : Le φ φ') (h : EndES K W E φ F σ res Q) : EndES K W E φ' F' σ res Q := by
  cases res with
  | ok r => exact fun v φ2 F2 H2 a b => h v φ2 F2 H2 (e.trans a) (p.trans b)
  | exc c st μ => exact fun φ2 F2 H2 a b => h φ2 F2 H2 (e.trans a) (p.trans b)
  | no => exact h
theorem EndTS.mono {res : RS (Bool × S2)} {Q : Bool → Hp → Prop} (e : Same F F') (p : Le φ φ') (h : EndTS K W E φ F σ res Q) : EndTS K W E φ' F' σ res Q := by
  cases res with
  | ok r => exact fun φ2 F2 H2 a b => h φ2 F2 H2 (e.trans a) (p.trans b)
  | exc c st μ => exact fun φ2 F2 H2 a b => h φ2 F2 H2 (e.trans a) (p.trans b)
  | no => exact h
theorem EndAS.mono {res : RS (List SD × S2)} {Q : List V → Hp → Prop} (e : Same F F') (p : Le φ φ') (h : EndAS K W E φ F σ res Q) : EndAS K W E φ' F' σ res Q := by
  cases res with
  | ok r => exact fun v φ2 F2 H2 a b => h v φ2 F2 H2 (e.trans a) (p.trans b)
  | exc c st μ => exact fun φ2 F2 H2 a b => h φ2 F2 H2 (e.trans a) (p.trans b)
  | no => exact h
theorem EndSS.mono {res : RS SFlow} {D : Ends} (e : Same F F') (p : Le φ φ') (h : EndSS K W E φ F res D) : EndSS K W E φ' F' res D := by
  cases res with
  | ok fl =>
    cases fl with
    | nx s => exact fun σ2 φ2 F2 H2 a b => h σ2 φ2 F2 H2 (e.trans a) (p.trans b)
    | bk s => exact fun σ2 φ2 F2 H2 a b => h σ2 φ2 F2 H2 (e.trans a) (p.trans b)
    | ct s => exact fun σ2 φ2 F2 H2 a b => h σ2 φ2 F2 H2 (e.trans a) (p.trans b)
    | rt r μ => exact fun v st σ2 φ2 F2 H2 a b => h v st σ2 φ2 F2 H2 (e.trans a) (p.trans b)
  | exc c st μ => exact fun σ2 φ2 F2 H2 a b => h σ2 φ2 F2 H2 (e.trans a) (p.trans b)
  | no => exact h
/-! one after the other -/
theorem zE {f : SE} {s : S2} {k : SD × S2 → RS (SD × S2)} {Q P : VK} (S : SimS K E φ F H s.1 s.2 σ) (h : EndES K W E φ F σ ((f s).bind k) Q)
    (hk : ∀ r s1 v φ1 F1 H1, Same F F1 → Le φ φ1 → SimS K E φ1 F1 H1 s1.1 s1.2 σ → RepS K φ1 F1 r v → EndES K W E φ1 F1 σ (k (r, s1)) Q → P v H1) : upE K W f σ H P := by
  refine ⟨E, φ, F, s, S, ?_⟩
  cases e : f s with
  | ok p => rw [e] at h; exact fun v φ1 F1 H1 a b S1 vr => hk _ _ v φ1 F1 H1 a b S1 vr (EndES.mono a b h)
  | exc c st μ => rw [e] at h; exact h
  | no => rw [e] at h; exact h
theorem zEA {f : SE} {s : S2} {k : SD × S2 → RS (List SD × S2)} {Q : List V → Hp → Prop} {P : VK} (S : SimS K E φ F H s.1 s.2 σ) (h : EndAS K W E φ F σ ((f s).bind k) Q)
    (hk : ∀ r s1 v φ1 F1 H1, Same F F1 → Le φ φ1 → SimS K E φ1 F1 H1 s1.1 s1.2 σ → RepS K φ1 F1 r v → EndAS K W E φ1 F1 σ (k (r, s1)) Q → P v H1) : upE K W f σ H P := by
  refine ⟨E, φ, F, s, S, ?_⟩
  cases e : f s with
  | ok p => rw [e] at h; exact fun v φ1 F1 H1 a b S1 vr => hk _ _ v φ1 F1 H1 a b S1 vr (EndAS.mono a b h)
  | exc c st μ => rw [e] at h; exact h
  | no => rw [e] at h; exact h
theorem zET {f : SE} {s : S2} {k : SD × S2 → RS (Bool × S2)} {Q : Bool → Hp → Prop} {P : VK} (S : SimS K E φ F H s.1 s.2 σ) (h : EndTS K W E φ F σ ((f s).bind k) Q)
    (hk : ∀ r s1 v φ1 F1 H1, Same F F1 → Le φ φ1 → SimS K E φ1 F1 H1 s1.1 s1.2 σ → RepS K φ1 F1 r v → EndTS K W E φ1 F1 σ (k (r, s1)) Q → P v H1) : upE K W f σ H P := by
  refine ⟨E, φ, F, s, S, ?_⟩
  cases e : f s with
  | ok p => rw [e] at h; exact fun v φ1 F1 H1 a b S1 vr => hk _ _ v φ1 F1 H1 a b S1 vr (EndTS.mono a b h)
  | exc c st μ => rw [e] at h; exact h
  | no => rw [e] at h; exact h
theorem zES {f : SE} {s : S2} {k : SD × S2 → RS SFlow} {D : Ends} {P : VK} (S : SimS K E φ F H s.1 s.2 σ) (h : EndSS K W E φ F ((f s).bind k) D)
    (hk : ∀ r s1 v φ1 F1 H1, Same F F1 → Le φ φ1 → SimS K E φ1 F1 H1 s1.1 s1.2 σ → RepS K φ1 F1 r v → EndSS K W E φ1 F1 (k (r, s1)) D → P v H1) : upE K W f σ H P := by
  refine ⟨E, φ, F, s, S, ?_⟩
  cases e : f s with
  | ok p => rw [e] at h; exact fun v φ1 F1 H1 a b S1 vr => hk _ _ v φ1 F1 H1 a b S1 vr (EndSS.mono a b h)
  | exc c st μ => rw [e] at h; exact h σ
  | no => rw [e] at h; exact h
theorem zAE {f : SA} {s : S2} {k : List SD × S2 → RS (SD × S2)} {Q : VK} {P : List V → Hp → Prop} (S : SimS K E φ F H s.1 s.2 σ) (h : EndES K W E φ F σ ((f s).bind k) Q)
    (hk : ∀ rs s1 vs φ1 F1 H1, Same F F1 → Le φ φ1 → SimS K E φ1 F1 H1 s1.1 s1.2 σ → RepsS K φ1 F1 rs vs → EndES K W E φ1 F1 σ (k (rs, s1)) Q → P vs H1) : upR K W f σ H P := by
  refine ⟨E, φ, F, s, S, ?_⟩
  cases e : f s with
  | ok p => rw [e] at h; exact fun v φ1 F1 H1 a b S1 vr => hk _ _ v φ1 F1 H1 a b S1 vr (EndES.mono a b h)
  | exc c st μ => rw [e] at h; exact h
  | no => rw [e] at h; exact h
theorem zAA {f : SA} {s : S2} {k : List SD × S2 → RS (List SD × S2)} {Q : List V → Hp → Prop} {P : List V → Hp → Prop} (S : SimS K E φ F H s.1 s.2 σ) (h : EndAS K W E φ F σ ((f s).bind k) Q)
    (hk : ∀ rs s1 vs φ1 F1 H1, Same F F1 → Le φ φ1 → SimS K E φ1 F1 H1 s1.1 s1.2 σ → RepsS K φ1 F1 rs vs → EndAS K W E φ1 F1 σ (k (rs, s1)) Q → P vs H1) : upR K W f σ H P := by
  refine ⟨E, φ, F, s, S, ?_⟩
  cases e : f s with
  | ok p => rw [e] at h; exact fun v φ1 F1 H1 a b S1 vr => hk _ _ v φ1 F1 H1 a b S1 vr (EndAS.mono a b h)
  | exc c st μ => rw [e] at h; exact h
  | no => rw [e] at h; exact h
theorem zTS {f : SB} {s : S2} {k : Bool × S2 → RS SFlow} {D : Ends} {P : Bool → Hp → Prop} (S : SimS K E φ F H s.1 s.2 σ) (h : EndSS K W E φ F ((f s).bind k) D)
    (hk : ∀ r s1 φ1 F1 H1, Same F F1 → Le φ φ1 → SimS K E φ1 F1 H1 s1.1 s1.2 σ → EndSS K W E φ1 F1 (k (r, s1)) D → P r H1) : upB K W f σ H P := by
  refine ⟨E, φ, F, s, S, ?_⟩
  cases e : f s with
  | ok p => rw [e] at h; exact fun φ1 F1 H1 a b S1 => hk _ _ φ1 F1 H1 a b S1 (EndSS.mono a b h)
  | exc c st μ => rw [e] at h; exact h σ
  | no => rw [e] at h; exact h
theorem zTT {f : SB} {s : S2} {k : Bool × S2 → RS (Bool × S2)} {Q : Bool → Hp → Prop} {P : Bool → Hp → Prop} (S : SimS K E φ F H s.1 s.2 σ) (h : EndTS K W E φ F σ ((f s).bind k) Q)
    (hk : ∀ r s1 φ1 F1 H1, Same F F1 → Le φ φ1 → SimS K E φ1 F1 H1 s1.1 s1.2 σ → EndTS K W E φ1 F1 σ (k (r, s1)) Q → P r H1) : upB K W f σ H P := by
  refine ⟨E, φ, F, s, S, ?_⟩
  cases e : f s with
  | ok p => rw [e] at h; exact fun φ1 F1 H1 a b S1 => hk _ _ φ1 F1 H1 a b S1 (EndTS.mono a b h)
  | exc c st μ => rw [e] at h; exact h
  | no => rw [e] at h; exact h
theorem zTE {f : SB} {s : S2} {k : Bool × S2 → RS (SD × S2)} {Q : VK} {P : Bool → Hp → Prop} (S : SimS K E φ F H s.1 s.2 σ) (h : EndES K W E φ F σ ((f s).bind k) Q)
    (hk : ∀ r s1 φ1 F1 H1, Same F F1 → Le φ φ1 → SimS K E φ1 F1 H1 s1.1 s1.2 σ → EndES K W E φ1 F1 σ (k (r, s1)) Q → P r H1) : upB K W f σ H P := by
  refine ⟨E, φ, F, s, S, ?_⟩
  cases e : f s with
  | ok p => rw [e] at h; exact fun φ1 F1 H1 a b S1 => hk _ _ φ1 F1 H1 a b S1 (EndES.mono a b h)
  | exc c st μ => rw [e] at h; exact h
  | no => rw [e] at h; exact h
theorem zAS {f : SA} {s : S2} {k : List SD × S2 → RS SFlow} {D : Ends} {P : List V → Hp → Prop} (S : SimS K E φ F H s.1 s.2 σ) (h : EndSS K W E φ F ((f s).bind k) D)
    (hk : ∀ rs s1 vs φ1 F1 H1, Same F F1 → Le φ φ1 → SimS K E φ1 F1 H1 s1.1 s1.2 σ → RepsS K φ1 F1 rs vs → EndSS K W E φ1 F1 (k (rs, s1)) D → P vs H1) : upR K W f σ H P := by
  refine ⟨E, φ, F, s, S, ?_⟩
  cases e : f s with
  | ok p => rw [e] at h; exact fun v φ1 F1 H1 a b S1 vr => hk _ _ v φ1 F1 H1 a b S1 vr (EndSS.mono a b h)
  | exc c st μ => rw [e] at h; exact h σ
  | no => rw [e] at h; exact h
end
end Vl
/-! # what the old readings do, in a state with a store -/
namespace Vl
open PySem PySem.Spec PyProof.Rows L2
section
variable {K : PySem.W.Frag} {E : Ent} {φ : List Addr} {F H : Hp} {st : Sts} {μ : Sto} {σ : L2.St}
/-- slot i holds a thing of the store -/
theorem Sim.setSd {i : Nat} {s : SD} {v : V} (S : Sim K E F H st σ) (hi : σ[i]? = some (some v)) (r : E.R s v) : Sim K E F H (st.set i (.adr (.sd s))) σ := by
  have get : ∀ (j : Nat) (x : Sl), i ≠ j → (st.set i (.adr (.sd s)))[j]? = some x → st[j]? = some x := fun j x hj e => by
    rw [List.getElem?_set_ne hj] at e; exact e
  have self : ∀ x, (st.set i (.adr (.sd s)))[i]? = some x → x = .adr (.sd s) := fun x e => by
    by_cases hl : i < st.length
    · rw [List.getElem?_set_self hl] at e; cases e; rfl
    · rw [List.getElem?_eq_none (by rw [List.length_set]; omega)] at e; cases e
  refine ⟨S.sub, S.ent, S.fe, S.gr, by rw [List.length_set]; exact S.len, fun j d e => ?_, fun j m e => ?_, fun j k m m' b hjk e1 e2 e3 e4 => ?_, fun j b e => ?_⟩
  · by_cases hj : i = j
    · subst hj; cases self _ e
    · exact S.val j d (get j _ hj e)
  · by_cases hj : i = j
    · subst hj; cases self _ e
    · exact S.own j m (get j _ hj e)
  · have h1 : i ≠ j := by rintro rfl; cases self _ e1
    have h2 : i ≠ k := by rintro rfl; cases self _ e2
    exact S.sep j k m m' b hjk (get j _ h1 e1) (get k _ h2 e2) e3 e4
  · by_cases hj : i = j
    · subst hj
      cases self _ e
      exact ⟨v, hi, r⟩
    · exact S.adr j b (get j _ hj e)
theorem set_own {st : Sts} {i j : Nat} {x : Sl} {m : M} (hx : ∀ m, x ≠ .own m) (h : (st.set i x)[j]? = some (Sl.own m)) : st[j]? = some (Sl.own m) := by
  by_cases hj : i = j
  · subst hj
    by_cases hl : i < st.length
    · rw [List.getElem?_set_self hl] at h
      cases h
      exact absurd rfl (hx m)
    · rw [List.getElem?_eq_none (by rw [List.length_set]; omega)] at h; cases h
  · rw [List.getElem?_set_ne hj] at h; exact h
theorem SimS.setSd {i : Nat} {s : SD} {v : V} (S : SimS K E φ F H st μ σ) (hi : σ[i]? = some (some v)) (r : RepS K φ F s v) : SimS K E φ F H (st.set i (.adr (.sd s))) μ σ :=
  ⟨S.sim.setSd hi r, S.len, S.sto, S.inj, fun j n m b a h1 h2 h3 h4 => S.sep j n m b a (set_own (fun m h => by cases h) h1) h2 h3 h4⟩
theorem sto_snoc {μ : Sto} {b c : Ob} {n : Nat} (h : (μ ++ [some b])[n]? = some (some c)) : μ[n]? = some (some c) ∨ (n = μ.length ∧ c = b) := by
  rcases Nat.lt_trichotomy n μ.length with hn | hn | hn
  · rw [List.getElem?_append_left hn] at h; exact .inl h
  · subst hn
    rw [List.getElem?_append_right (Nat.le_refl _), Nat.sub_self] at h
    cases h; exact .inr ⟨rfl, rfl⟩
  · rw [List.getElem?_eq_none (by simp; omega)] at h; cases h
theorem phi_last {φ : List Addr} {p : Addr} : (φ ++ [p])[φ.length]? = some p := by simp
theorem sto_lt {μ : Sto} {n : Nat} {x : Option Ob} (h : μ[n]? = some x) : n < μ.length := (List.getElem?_eq_some_iff.mp h).1
/-- a new object of the store -/
theorem SimS.newLab {p : Addr} {o : HO} {b : Ob} (S : SimS K E φ F H st μ σ) (hF : F p = none) (hE : E.H p = none) (hp : H p = some o) (hb : OAt K φ F b o) (hl : ∀ (n : Nat) (c : Ob), μ[n]? = some (some c) → φ[n]? = some p → False)
    (ho : ∀ (i : Nat) (m : M), st[i]? = some (Sl.own m) → σ[i]? = some (some (V.ref p)) → False) : SimS K E (φ ++ [p]) F H st (μ ++ [some b]) σ := by
  have old : ∀ {n : Nat} {a : Addr} {c : Ob}, μ[n]? = some (some c) → (φ ++ [p])[n]? = some a → φ[n]? = some a := fun {n a c} h1 h2 => by
    rw [List.getElem?_append_left (by rw [S.len]; exact sto_lt h1)] at h2; exact h2
  have last : ∀ {a : Addr}, (φ ++ [p])[μ.length]? = some a → a = p := fun {a} h => by
    rw [← S.len, phi_last] at h; cases h; rfl
  refine ⟨S.sim.setR rfl rfl fun s v r => RepS.mono (Le.app _ _) (Same.refl _) _ _ r, by rw [List.length_append, List.length_append, S.len]; rfl, fun n c h => ?_, fun n m c d a h1 h2 h3 h4 => ?_, fun i n m c a h1 h2 h3 h4 => ?_⟩
  · rcases sto_snoc h with h | ⟨rfl, rfl⟩
    · obtain ⟨a, o', e1, e2, e3, e4, e5⟩ := S.sto n c h
      exact ⟨a, o', Le.app _ _ _ _ e1, e2, e3, e4, e5.mono (Le.app _ _) (Same.refl _)⟩
    · exact ⟨p, o, by rw [← S.len]; exact phi_last, hF, hE, hp, hb.mono (Le.app _ _) (Same.refl _)⟩
  · rcases sto_snoc h1 with g1 | ⟨e1, _⟩
    · rcases sto_snoc h2 with g2 | ⟨e2, _⟩
      · exact S.inj n m c d a g1 g2 (old g1 h3) (old g2 h4)
      · subst e2; cases last h4; exact (hl n c g1 (old g1 h3)).elim
    · rcases sto_snoc h2 with g2 | ⟨e2, _⟩
      · subst e1; cases last h3; exact (hl m d g2 (old g2 h4)).elim
      · rw [e1, e2]
  · rcases sto_snoc h2 with h2 | ⟨rfl, rfl⟩
    · exact S.sep i n m c a h1 h2 h3 (old h2 h4)
    · cases last h4; exact ho i m h1 h3
theorem lab_last {p : Addr} (hl : φ.length = μ.length) : RepS K (φ ++ [p]) F (.lab μ.length) (.ref p) := ⟨p, by rw [← hl]; exact phi_last, rfl⟩
/-- an own object of a slot becomes one of the store -/
theorem SimS.promote {i : Nat} {m : M} {v : V} (S : SimS K E φ F H st μ σ) (hi : st[i]? = some (Sl.own m)) (hv : σ[i]? = some (some v)) :
    ∃ p, Le φ (φ ++ [p]) ∧ SimS K E (φ ++ [p]) F H (st.set i (.adr (.sd (.lab μ.length)))) (μ ++ [some (obM m)]) σ ∧ RepS K (φ ++ [p]) F (.lab μ.length) v := by
  obtain ⟨p, e1, ow⟩ := S.sim.own i m hi
  rw [hv] at e1; cases e1
  obtain ⟨o, e2, e3⟩ := ow.here
  have S0 : SimS K E φ F H (st.set i .no) μ σ := ⟨by
    refine ⟨S.sim.sub, S.sim.ent, S.sim.fe, S.sim.gr, by rw [List.length_set]; exact S.sim.len, fun j d e => ?_, fun j m e => ?_, fun j k m m' b hjk e1 e2 e3 e4 => ?_, fun j b e => ?_⟩
    · by_cases hj : i = j
      · subst hj
        rw [List.getElem?_set_self (List.getElem?_eq_some_iff.mp hi).1] at e; cases e
      · rw [List.getElem?_set_ne hj] at e; exact S.sim.val j d e
    · exact S.sim.own j m (set_own (fun m h => by cases h) e)
    · exact S.sim.sep j k m m' b hjk (set_own (fun m h => by cases h) e1) (set_own (fun m h => by cases h) e2) e3 e4
    · by_cases hj : i = j
      · subst hj
        rw [List.getElem?_set_self (List.getElem?_eq_some_iff.mp hi).1] at e; cases e
      · rw [List.getElem?_set_ne hj] at e; exact S.sim.adr j b e, S.len, S.sto, S.inj, fun j n m b a h1 h2 h3 h4 => S.sep j n m b a (set_own (fun m h => by cases h) h1) h2 h3 h4⟩
  have N := S0.newLab ow.f ow.e e2 e3.ob (fun n c h1 h2 => S.sep i n m c p hi h1 hv h2) fun j m' h1 h2 => by
    by_cases hj : i = j
    · subst hj
      rw [List.getElem?_set_self (List.getElem?_eq_some_iff.mp hi).1] at h1; cases h1
    · rw [List.getElem?_set_ne hj] at h1
      exact S.sim.sep j i m' m p (Ne.symm hj) h1 hi h2 hv
  have r : RepS K (φ ++ [p]) F (.lab μ.length) (.ref p) := lab_last S.len
  have N2 := N.setSd (i := i) hv r
  rw [List.set_set] at N2
  exact ⟨p, Le.app _ _, N2, r⟩
/-- a value of the old kind, told -/
def outV : Val → Sts → Sto → SD × S2
  | .fz d, st, μ => (.fz d, st, μ)
  | .nw m, st, μ => (.lab μ.length, st, μ ++ [some (obM m)])
  | .pk i m, st, μ => (.lab μ.length, st.set i (.adr (.sd (.lab μ.length))), μ ++ [some (obM m)])
theorem SimS.backV (S : SimS K E φ F H st μ σ) {F' H' : Hp} {st' : Sts} {σ' : L2.St} {r : Val} {v : V} (sF : Same F F') (S' : Sim K (Ent.re K φ F H st σ) F' H' st' σ') (vr : VRel K (Ent.re K φ F H st σ) F' H' st' σ' r v) :
    ∃ φ', Le φ φ' ∧ SimS K E φ' F' H' (outV r st' μ).2.1 (outV r st' μ).2.2 σ' ∧ RepS K φ' F' (outV r st' μ).1 v := by
  have B := S.back sF S'
  cases r with
  | fz d => exact ⟨φ, Le.refl _, B, vr⟩
  | nw m =>
    obtain ⟨p, rfl, ow, hn⟩ := vr
    obtain ⟨o, e1, e2⟩ := ow.here
    have hE : E.H p = none := by
      rcases Ent.re_cases ow.e with h | ⟨i, m', h1, h2⟩
      · exact S.sim.ent.free h
      · obtain ⟨b, e1, ow'⟩ := S.sim.own i m' h1
        rw [h2] at e1; cases e1; exact ow'.e
    refine ⟨φ ++ [p], Le.app _ _, B.newLab ow.f hE e1 e2.ob (fun n c h1 h2 => ?_) (fun i m' h1 h2 => hn i m' h1 h2), lab_last S.len⟩
    obtain ⟨a, o', g1, g2, g3, g4, g5⟩ := S.sto n c h1
    rw [h2] at g1; cases g1
    have := ow.e
    rw [Ent.re_some fun i m g1 g2 => S.sep i n m c p g1 h1 g2 h2, g4] at this; cases this
  | pk i m =>
    obtain ⟨h1, h2⟩ := vr
    obtain ⟨p, q1, q2, q3⟩ := B.promote h1 h2
    exact ⟨_, q1, q2, q3⟩
end
/-! ## old statements, old expressions -/
def oldF : R Flow → Sto → RS SFlow
  | .ok (.nx st), μ => .ok (.nx (st, μ))
  | .ok (.bk st), μ => .ok (.bk (st, μ))
  | .ok (.ct st), μ => .ok (.ct (st, μ))
  | .ok (.rt (.fz d)), μ => .ok (.rt (.fz d) μ)
  | .ok (.rt (.nw m)), μ => .ok (.rt (.lab μ.length) (μ ++ [some (obM m)]))
  | .ok (.rt (.pk _ m)), μ => .ok (.rt (.lab μ.length) (μ ++ [some (obM m)]))
  | .exc c st, μ => .exc c st μ
  | .no, _ => .no
def zOld (f : VS) : SS := fun s => oldF (f s.1) s.2
theorem up_old {K : PySem.W.Frag} {W : Wx} {f : VS} : ∀ D σ H, upZ K W (zOld f) D σ H → upS K W f D σ H := fun D σ H ⟨E, φ, F, s, S, q⟩ => by
  refine ⟨_, F, s.1, S.re, ?_⟩
  unfold zOld at q
  cases e : f s.1 with
  | no => rw [e] at q; exact q
  | exc c st => rw [e] at q; exact fun σ' F' H' a S' => q σ' φ F' H' a (Le.refl _) (S.back a S')
  | ok fl =>
    rw [e] at q
    cases fl with
    | nx st => exact fun σ' F' H' a S' => q σ' φ F' H' a (Le.refl _) (S.back a S')
    | bk st => exact fun σ' F' H' a S' => q σ' φ F' H' a (Le.refl _) (S.back a S')
    | ct st => exact fun σ' F' H' a S' => q σ' φ F' H' a (Le.refl _) (S.back a S')
    | rt r =>
      intro v st σ' F' H' a S' vr
      obtain ⟨φ', p, B, rr⟩ := S.backV a S' vr
      cases r with
      | fz d => exact q v _ σ' φ' F' H' a p B rr
      | nw m => exact q v _ σ' φ' F' H' a p B rr
      | pk i m => exact q v _ σ' φ' F' H' a p B rr
def oldE : R (Val × Sts) → Sto → RS (SD × S2)
  | .ok (r, st), μ => .ok (outV r st μ)
  | .exc c st, μ => .exc c st μ
  | .no, _ => .no
/-- an old expression; a new object becomes one of the store -/
def zO (f : VE) : SE := fun s => oldE (f s.1) s.2
theorem up_zO {K : PySem.W.Frag} {W : Wx} {f : VE} : ∀ σ H Q, upE K W (zO f) σ H Q → upM K W f σ H Q := fun σ H Q ⟨E, φ, F, s, S, q⟩ => by
  refine ⟨_, F, s.1, S.re, ?_⟩
  unfold zO at q
  cases e : f s.1 with
  | no => rw [e] at q; exact q
  | exc c st => rw [e] at q; exact fun F' H' a S' => q φ F' H' a (Le.refl _) (S.back a S')
  | ok p =>
    rw [e] at q
    intro v F' H' a S' vr
    obtain ⟨φ', le, B, rr⟩ := S.backV a S' vr
    exact q v φ' F' H' a le B rr
def oldB : R (Bool × Sts) → Sto → RS (Bool × S2)
  | .ok (r, st), μ => .ok (r, st, μ)
  | .exc c st, μ => .exc c st μ
  | .no, _ => .no
def zT (t : VT) : SB := fun s => oldB (t s.1) s.2
theorem up_zT {K : PySem.W.Frag} {W : Wx} {f : VT} : ∀ σ H Q, upB K W (zT f) σ H Q → upT K W f σ H Q := fun σ H Q ⟨E, φ, F, s, S, q⟩ => by
  refine ⟨_, F, s.1, S.re, ?_⟩
  unfold zT at q
  cases e : f s.1 with
  | no => rw [e] at q; exact q
  | exc c st => rw [e] at q; exact fun F' H' a _ S' => q φ F' H' a (Le.refl _) (S.back a S')
  | ok p => rw [e] at q; exact fun F' H' a _ S' => q φ F' H' a (Le.refl _) (S.back a S')
section
variable {X : Cx} {W : Wx}
theorem bs_old {s : Stmt} {f : VS} (h : DS X W s f) : BS X W s (zOld f) := PS.imp h up_old
theorem bss_old {s : List Stmt} {f : VS} (h : DSs X W s f) : BSs X W s (zOld f) := PSs.imp h up_old
theorem be_old {e : Expr} {f : VE} (h : DM X W e f) : BE X W e (zO f) := PE.imp h up_zO
theorem be_oldE {e : Expr} {f : VE} (h : DE X W e f) : BE X W e (zO f) := be_old (dm_of h)
theorem bt_old {e : Expr} {f : VT} (h : DT X W e f) : BT X W e (zT f) := PT.imp h up_zT
end
/-! ## all frozen for a look -/
mutual
def SD.deepW (g : Nat → Option D) : SD → Option D
  | .fz d => some d
  | .lab n => g n
  | .tup ds => (SD.deepWs g ds).map .tup
def SD.deepWs (g : Nat → Option D) : List SD → Option (List D)
  | [] => some []
  | d :: ds => (SD.deepW g d).bind fun x => (SD.deepWs g ds).map (x :: ·)
end
def Ob.deepW (g : Nat → Option D) : Ob → Option D
  | .lst ds => (SD.deepWs g ds).map .lst
  | .dct ks vs => (SD.deepWs g vs).map (.dct ks)
  | .dcu ks vs => (SD.deepWs g vs).map (.dcu ks)
  | .ins n ks fs => (SD.deepWs g fs).map (.ins n ks)
def obAt (g : Nat → Option D) (o : Option (Option Ob)) : Option D := match o with
  | some (some b) => b.deepW g
  | _ => none
def deepL (μ : Sto) : Nat → Nat → Option D
  | 0, _ => none
  | k + 1, n => obAt (deepL μ k) (μ[n]?)
def deep (μ : Sto) : SD → Option D := SD.deepW (deepL μ 6)
section
variable {K : PySem.W.Frag} {φ : List Addr} {F H : Hp} {g : Nat → Option D}
mutual
theorem RepS.deepW (s : Same F H) (hg : ∀ n d v, g n = some d → RepS K φ F (.lab n) v → Rep K H d v) : ∀ (x : SD) (d : D) (v : V), SD.deepW g x = some d → RepS K φ F x v → Rep K H d v
  | .fz d, _, v, e, h => by cases e; exact Rep.mono s _ _ h
  | .lab n, d, v, e, h => hg n d v e h
  | .tup ds, d, _, e, ⟨a, vs, h1, h2, h3⟩ => by
    obtain ⟨es, e1, rfl⟩ := Option.map_eq_some_iff.mp (show (SD.deepWs g ds).map D.tup = some d from e)
    exact ⟨a, vs, h1, s _ _ h2, RepsS.deepW s hg ds es vs e1 h3⟩
theorem RepsS.deepW (s : Same F H) (hg : ∀ n d v, g n = some d → RepS K φ F (.lab n) v → Rep K H d v) : ∀ (xs : List SD) (ds : List D) (vs : List V), SD.deepWs g xs = some ds → RepsS K φ F xs vs → Reps K H ds vs
  | [], _, _, e, h => by cases e; exact h
  | x :: xs, ds, _, e, ⟨v, r, h1, h2, h3⟩ => by
    obtain ⟨d, e1, e2⟩ := Option.bind_eq_some_iff.mp (show (SD.deepW g x).bind (fun y => (SD.deepWs g xs).map (y :: ·)) = some ds from e)
    obtain ⟨es, e3, rfl⟩ := Option.map_eq_some_iff.mp e2
    exact ⟨v, r, h1, RepS.deepW s hg x d v e1 h2, RepsS.deepW s hg xs es r e3 h3⟩
end
end
/-- a heap in which all of the store lies frozen -/
theorem deepL_at {K : PySem.W.Frag} {φ : List Addr} {F G : Hp} {μ : Sto} (hs : Same F G) (hst : ∀ (n : Nat) (b : Ob), μ[n]? = some (some b) → ∃ a o, φ[n]? = some a ∧ G a = some o ∧ OAt K φ F b o) : ∀ (k n : Nat) (d : D) (v : V), Vl.deepL μ k n = some d → RepS K φ F (.lab n) v → Rep K G d v
  | 0, _, _, _, e, _ => by cases e
  | k + 1, n, d, v, e, ⟨a, h1, h2⟩ => by
    have e : obAt (Vl.deepL μ k) (μ[n]?) = some d := e
    cases q : μ[n]? with
    | none => rw [q] at e; cases e
    | some ob =>
      rw [q] at e
      cases ob with
      | none => cases e
      | some b =>
        obtain ⟨a', o, g1, g4, g5⟩ := hst n b q
        rw [h1] at g1; cases g1
        subst h2
        have e : b.deepW (Vl.deepL μ k) = some d := e
        cases b with
        | lst ds =>
          obtain ⟨es, e1, rfl⟩ := Option.map_eq_some_iff.mp (show (SD.deepWs _ ds).map D.lst = some d from e)
          obtain ⟨vs, rfl, h2⟩ := g5
          exact ⟨a, vs, rfl, SqL.of g4, RepsS.deepW hs (fun n d v => deepL_at hs hst k n d v) _ _ _ e1 h2⟩
        | dct ks ds =>
          obtain ⟨es, e1, rfl⟩ := Option.map_eq_some_iff.mp (show (SD.deepWs _ ds).map (D.dct ks) = some d from e)
          obtain ⟨kvs, rfl, h2, h3⟩ := g5
          exact ⟨a, kvs, rfl, .inl g4, Reps.mono hs _ _ h2, RepsS.deepW hs (fun n d v => deepL_at hs hst k n d v) _ _ _ e1 h3⟩
        | dcu ks ds =>
          obtain ⟨es, e1, rfl⟩ := Option.map_eq_some_iff.mp (show (SD.deepWs _ ds).map (D.dcu ks) = some d from e)
          obtain ⟨kvs, rfl, h2, h3⟩ := g5
          exact ⟨a, kvs, rfl, g4, h2, RepsS.deepW hs (fun n d v => deepL_at hs hst k n d v) _ _ _ e1 h3⟩
        | ins c ks fs =>
          obtain ⟨es, e1, rfl⟩ := Option.map_eq_some_iff.mp (show (SD.deepWs _ fs).map (D.ins c ks) = some d from e)
          obtain ⟨C, dx, vs, h1', rfl, h3, h4⟩ := g5
          have r := RepsS.deepW hs (fun n d v => deepL_at hs hst k n d v) _ _ _ e1 h4
          refine ⟨a, C, dx, vs, rfl, h1', g4, ?_, r⟩
          rw [h3, ← h4.length, r.length]
theorem deep_at {K : PySem.W.Frag} {φ : List Addr} {F G : Hp} {μ : Sto} (hs : Same F G) (hst : ∀ (n : Nat) (b : Ob), μ[n]? = some (some b) → ∃ a o, φ[n]? = some a ∧ G a = some o ∧ OAt K φ F b o) {x : SD} {d : D} {v : V} (e : deep μ x = some d) (h : RepS K φ F x v) : Rep K G d v :=
  RepS.deepW hs (fun n d v => deepL_at hs hst 6 n d v) x d v e h
theorem SimS.dpp {K : PySem.W.Frag} {E : Ent} {φ : List Addr} {F H : Hp} {st : Sts} {μ : Sto} {σ : L2.St} (S : SimS K E φ F H st μ σ) {x : SD} {d : D} {v : V} (e : Vl.deep μ x = some d) (h : RepS K φ F x v) : Rep K H d v :=
  deep_at S.sim.sub (fun n b q => by
    obtain ⟨a, o, e1, _, _, e4, e5⟩ := S.sto n b q
    exact ⟨a, o, e1, e4, e5⟩) e h
def slD (o : Option D) : Sl := match o with
  | some d => .val d
  | none => .no
def deepSl (μ : Sto) : Sl → Sl
  | .val d => .val d
  | .own m => .val m.d
  | .adr (.sd s) => slD (deep μ s)
  | _ => .no
/-- the slots that are looked at -/
def frS (μ : Sto) : List Bool → Sts → Sts
  | _, [] => []
  | true :: bs, s :: st => deepSl μ s :: frS μ bs st
  | false :: bs, _ :: st => .no :: frS μ bs st
  | [], _ :: st => .no :: frS μ [] st
theorem frS_at {μ : Sto} : ∀ {bs : List Bool} {st : Sts} {i : Nat} {x : Sl}, (frS μ bs st)[i]? = some x → x = .no ∨ ∃ s, st[i]? = some s ∧ x = deepSl μ s
  | bs, [], _, _, h => by
    have : frS μ bs [] = [] := by unfold frS; rfl
    rw [this] at h; cases h
  | true :: bs, s :: st, 0, x, h => by cases h; exact .inr ⟨s, rfl, rfl⟩
  | true :: bs, s :: st, i + 1, x, h => by
    rcases frS_at (bs := bs) (st := st) (i := i) (by simpa [frS] using h) with e | ⟨s', e1, e2⟩
    · exact .inl e
    · exact .inr ⟨s', by simpa using e1, e2⟩
  | false :: bs, s :: st, 0, x, h => by cases h; exact .inl rfl
  | false :: bs, s :: st, i + 1, x, h => by
    rcases frS_at (bs := bs) (st := st) (i := i) (by simpa [frS] using h) with e | ⟨s', e1, e2⟩
    · exact .inl e
    · exact .inr ⟨s', by simpa using e1, e2⟩
  | [], s :: st, 0, x, h => by cases h; exact .inl rfl
  | [], s :: st, i + 1, x, h => by
    rcases frS_at (bs := []) (st := st) (i := i) (by simpa [frS] using h) with e | ⟨s', e1, e2⟩
    · exact .inl e
    · exact .inr ⟨s', by simpa using e1, e2⟩
theorem frS_len {μ : Sto} : ∀ (bs : List Bool) (st : Sts), (frS μ bs st).length = st.length
  | _, [] => by unfold frS; rfl
  | true :: bs, s :: st => by simp [frS, frS_len bs st]
  | false :: bs, s :: st => by simp [frS, frS_len bs st]
  | [], s :: st => by simp [frS, frS_len [] st]
section
variable {K : PySem.W.Frag} {W : Wx} {E : Ent} {φ : List Addr} {F H : Hp} {st : Sts} {μ : Sto} {σ : L2.St}
theorem SimS.look (S : SimS K E φ F H st μ σ) (bs : List Bool) : Sim K { H := H, F := H } H H (frS μ bs st) σ where
  sub := Same.refl _
  ent := Same.refl _
  fe := Same.refl _
  gr := fun a o e => .inl e
  len := by rw [frS_len]; exact S.sim.len
  val := fun i d e => by
    rcases frS_at e with h | ⟨s, e1, e2⟩
    · cases h
    · cases s with
      | no => cases e2
      | val d' =>
        cases e2
        obtain ⟨v, h1, h2⟩ := S.sim.val i d e1
        exact ⟨v, h1, Rep.mono S.sim.sub _ _ h2⟩
      | own m =>
        cases e2
        obtain ⟨a, h1, ow⟩ := S.sim.own i m e1
        obtain ⟨o, h2, h3⟩ := ow.here
        exact ⟨_, h1, (h3.mono S.sim.sub).rep h2⟩
      | adr b =>
        cases b with
        | ad a => cases e2
        | sd x =>
          obtain ⟨v, h1, h2⟩ := S.sim.adr i _ e1
          have e2 : Sl.val d = slD (deep μ x) := e2
          cases q : deep μ x with
          | none => rw [q] at e2; cases e2
          | some d' => rw [q] at e2; cases e2; exact ⟨v, h1, S.dpp q h2⟩
  own := fun i m e => by
    exfalso
    rcases frS_at e with h | ⟨s, e1, e2⟩
    · cases h
    · cases s with
      | no => cases e2
      | val d' => cases e2
      | own m => cases e2
      | adr b =>
        cases b with
        | ad a => cases e2
        | sd x =>
          have e2 : Sl.own m = slD (deep μ x) := e2
          cases q : deep μ x with
          | none => rw [q] at e2; cases e2
          | some d' => rw [q] at e2; cases e2
  sep := fun i j m m' a hij e => by
    exfalso
    rcases frS_at e with h | ⟨s, e1, e2⟩
    · cases h
    · cases s with
      | no => cases e2
      | val d' => cases e2
      | own m => cases e2
      | adr b =>
        cases b with
        | ad a => cases e2
        | sd x =>
          have e2 : Sl.own m = slD (deep μ x) := e2
          cases q : deep μ x with
          | none => rw [q] at e2; cases e2
          | some d' => rw [q] at e2; cases e2
  adr := fun i b e => by
    exfalso
    rcases frS_at e with h | ⟨s, e1, e2⟩
    · cases h
    · cases s with
      | no => cases e2
      | val d' => cases e2
      | own m => cases e2
      | adr b =>
        cases b with
        | ad a => cases e2
        | sd x =>
          have e2 : Sl.adr _ = slD (deep μ x) := e2
          cases q : deep μ x with
          | none => rw [q] at e2; cases e2
          | some d' => rw [q] at e2; cases e2
/-- what stays frozen behind a look: the tuples -/
def keepT (F F' : Hp) : Hp := fun a => match F a with
  | some o => some o
  | none => match F' a with
    | some o => if tuO o = true then some o else none
    | none => none
theorem keepT_some {F F' : Hp} {a : Addr} {o : HO} (h : F a = some o) : keepT F F' a = some o := by unfold keepT; rw [h]
theorem keepT_same (F F' : Hp) : Same F (keepT F F') := fun a o h => keepT_some h
theorem keepT_tup {F F' : Hp} {a : Addr} {xs : List V} (s : ∀ o, F a = some o → F' a = some o) (h : F' a = some (.tup xs)) : keepT F F' a = some (.tup xs) := by
  unfold keepT
  cases q : F a with
  | some o => have := s o q; rw [h] at this; cases this; rfl
  | none => rw [h]; rfl
theorem keepT_cases {F F' : Hp} {a : Addr} {o : HO} (h : keepT F F' a = some o) : F a = some o ∨ (F' a = some o ∧ tuO o = true) := by
  unfold keepT at h
  cases q : F a with
  | some u => rw [q] at h; exact .inl h
  | none =>
    rw [q] at h
    cases q2 : F' a with
    | none => rw [q2] at h; cases h
    | some u =>
      rw [q2] at h
      by_cases ht : tuO u = true
      · simp only [ht, if_true] at h
        cases h; exact .inr ⟨rfl, ht⟩
      · simp only [ht] at h
        simp at h
/-- behind a look -/
theorem SimS.seen (S : SimS K E φ F H st μ σ) {F' H' : Hp} (h1 : Same H F') (h2 : Same H H') (h3 : Same F' H') : SimS K E φ (keepT F F') H' st μ σ := by
  have sF := keepT_same F F'
  have sub : Same (keepT F F') H' := fun a o e => by
    rcases keepT_cases e with e | ⟨e, _⟩
    · exact h2 _ _ (S.sim.sub _ _ e)
    · exact h3 _ _ e
  have none_ : ∀ (a : Addr) (o : HO), F a = none → H a = some o → tuO o = false → keepT F F' a = none := fun a o e1 e2 e3 => by
    cases q : keepT F F' a with
    | none => rfl
    | some u =>
      rcases keepT_cases q with g | ⟨g, ht⟩
      · rw [e1] at g; cases g
      · have := h1 _ _ e2
        rw [g] at this; cases this
        rw [e3] at ht; cases ht
  refine ⟨⟨sub, S.sim.ent.trans h2, S.sim.fe.trans sF, fun a o e => ?_, S.sim.len, fun i d e => ?_, fun i m e => ?_, S.sim.sep, fun i b e => ?_⟩, S.len, fun n b e => ?_, S.inj, S.sep⟩
  · rcases keepT_cases e with g | ⟨g, ht⟩
    · exact S.sim.gr a o g
    · exact .inr (.inr ht)
  · obtain ⟨v, e1, e2⟩ := S.sim.val i d e
    exact ⟨v, e1, Rep.mono sF _ _ e2⟩
  · obtain ⟨a, e1, ow⟩ := S.sim.own i m e
    obtain ⟨o, e2, e3⟩ := ow.here
    exact ⟨a, e1, none_ a o ow.f e2 e3.nt, ow.e, o, h2 _ _ e2, e3.mono sF⟩
  · obtain ⟨v, e1, e2⟩ := S.sim.adr i b e
    refine ⟨v, e1, ?_⟩
    cases b with
    | ad a => exact e2
    | sd s => exact RepS.mono (Le.refl _) sF _ _ e2
  · obtain ⟨a, o, e1, e2, e3, e4, e5⟩ := S.sto n b e
    exact ⟨a, o, e1, none_ a o e2 e4 e5.nt, e3, h2 _ _ e4, e5.mono (Le.refl _) sF⟩
end
def lookE : R (Val × Sts) → S2 → RS (SD × S2)
  | .ok (.fz d, _), s => if d.noL = true then .ok (.fz d, s) else .no
  | .ok (.nw m, _), s => if m.noL = true then .ok (.lab s.2.length, s.1, s.2 ++ [some (obM m)]) else .no
  | .ok (.pk _ _, _), _ => .no
  | .exc c _, s => .exc c s.1 s.2
  | .no, _ => .no
/-- a look: all that the slots bs hold is taken as frozen; what comes of it leans on tuples alone -/
def zLk (bs : List Bool) (f : VE) : SE := fun s => lookE (f (frS s.2 bs s.1)) s
def lookB : R (Bool × Sts) → S2 → RS (Bool × S2)
  | .ok (b, _), s => .ok (b, s)
  | .exc c _, s => .exc c s.1 s.2
  | .no, _ => .no
def zLkT (bs : List Bool) (f : VT) : SB := fun s => lookB (f (frS s.2 bs s.1)) s
section
variable {K : PySem.W.Frag} {W : Wx}
theorem up_look {bs : List Bool} {f : VE} : ∀ σ H Q, upE K W (zLk bs f) σ H Q → up K W f σ H Q := fun σ H Q ⟨E, φ, F, s, S, q⟩ => by
  refine ⟨_, H, _, S.look bs, ?_⟩
  unfold zLk at q
  cases e : f (frS s.2 bs s.1) with
  | no => rw [e] at q; exact q
  | exc c st => rw [e] at q; exact fun F' H' a b S' => q φ (keepT F F') H' (keepT_same _ _) (Le.refl _) (S.seen a b S'.sub)
  | ok p =>
    rw [e] at q
    obtain ⟨r, st'⟩ := p
    intro v F' H' a b S' vr
    have B := S.seen a b S'.sub
    have tp : ∀ (b : Addr) (xs : List V), F' b = some (.tup xs) → keepT F F' b = some (.tup xs) := fun b xs h => keepT_tup (fun o g => a _ _ (S.sim.sub _ _ g)) h
    cases r with
    | fz d =>
      have q : EndES K W E φ F σ (if d.noL = true then .ok (.fz d, s) else .no) Q := q
      by_cases hd : d.noL = true
      · rw [if_pos hd] at q
        exact q v φ _ H' (keepT_same _ _) (Le.refl _) B (Rep.flat tp d v hd vr)
      · rw [if_neg hd] at q; exact q.elim
    | nw m =>
      have q : EndES K W E φ F σ (if m.noL = true then .ok (.lab s.2.length, s.1, s.2 ++ [some (obM m)]) else .no) Q := q
      by_cases hd : m.noL = true
      · rw [if_pos hd] at q
        obtain ⟨p, rfl, ow, hn⟩ := vr
        obtain ⟨o, e1, e2⟩ := ow.here
        have hp : H p = none := ow.e
        have hf : keepT F F' p = none := by
          cases z : keepT F F' p with
          | none => rfl
          | some u =>
            rcases keepT_cases z with g | ⟨g, _⟩
            · have := S.sim.sub _ _ g; rw [hp] at this; cases this
            · rw [ow.f] at g; cases g
        refine q _ (φ ++ [p]) _ H' (keepT_same _ _) (Le.app _ _) (B.newLab hf (S.sim.ent.free hp) e1 (MAt.ob (e2.flat tp hd)) (fun n c h1 h2 => ?_) fun i m' h1 h2 => ?_) (lab_last S.len)
        · obtain ⟨x, o', g1, g2, g3, g4, g5⟩ := S.sto n c h1
          rw [h2] at g1; cases g1
          rw [hp] at g4; cases g4
        · obtain ⟨x, g1, ow'⟩ := S.sim.own i m' h1
          rw [h2] at g1; cases g1
          obtain ⟨o', g2, _⟩ := ow'.here
          rw [hp] at g2; cases g2
      · rw [if_neg hd] at q; exact q.elim
    | pk i m => exact q.elim
theorem up_lookT {bs : List Bool} {f : VT} : ∀ σ H Q, upB K W (zLkT bs f) σ H Q → upT K W f σ H Q := fun σ H Q ⟨E, φ, F, s, S, q⟩ => by
  refine ⟨_, H, _, S.look bs, ?_⟩
  unfold zLkT at q
  cases e : f (frS s.2 bs s.1) with
  | no => rw [e] at q; exact q
  | exc c st => rw [e] at q; exact fun F' H' a b S' => q φ (keepT F F') H' (keepT_same _ _) (Le.refl _) (S.seen a b S'.sub)
  | ok p =>
    rw [e] at q
    exact fun F' H' a b S' => q φ (keepT F F') H' (keepT_same _ _) (Le.refl _) (S.seen a b S'.sub)
end
section
variable {X : Cx} {W : Wx}
theorem be_look {e : Expr} {f : VE} (bs : List Bool) (h : DE X W e f) : BE X W e (zLk bs f) := PE.imp h up_look
theorem bt_look {e : Expr} {f : VT} (bs : List Bool) (h : DT X W e f) : BT X W e (zLkT bs f) := PT.imp h up_lookT
end
end Vl
/-! # expressions and statements over a store -/
namespace Vl
open PySem PySem.Spec PyProof.Rows L2
def slotS : SD → Sl
  | .fz d => .val d
  | s => .adr (.sd s)
section
variable {K : PySem.W.Frag} {E : Ent} {φ : List Addr} {F H : Hp} {st : Sts} {μ : Sto} {σ : L2.St}
theorem SimS.setVal {i : Nat} {d : D} {v : V} (S : SimS K E φ F H st μ σ) (r : Rep K F d v) : SimS K E φ F H (st.set i (.val d)) μ (σ.set i (some v)) :=
  ⟨S.sim.setVal r, S.len, S.sto, S.inj, fun j n m b a h1 h2 h3 h4 => by
    by_cases hj : i = j
    · subst hj
      by_cases hl : i < st.length
      · rw [List.getElem?_set_self hl] at h1; cases h1
      · rw [List.getElem?_eq_none (by rw [List.length_set]; omega)] at h1; cases h1
    · rw [List.getElem?_set_ne hj] at h1 h3
      exact S.sep j n m b a h1 h2 h3 h4⟩
theorem SimS.setNo {i : Nat} {v : Option V} (S : SimS K E φ F H st μ σ) : SimS K E φ F H (st.set i .no) μ (σ.set i v) :=
  ⟨S.sim.setNone, S.len, S.sto, S.inj, fun j n m b a h1 h2 h3 h4 => by
    by_cases hj : i = j
    · subst hj
      by_cases hl : i < st.length
      · rw [List.getElem?_set_self hl] at h1; cases h1
      · rw [List.getElem?_eq_none (by rw [List.length_set]; omega)] at h1; cases h1
    · rw [List.getElem?_set_ne hj] at h1 h3
      exact S.sep j n m b a h1 h2 h3 h4⟩
theorem SimS.setS {i : Nat} {s : SD} {v : V} (S : SimS K E φ F H st μ σ) (r : RepS K φ F s v) : SimS K E φ F H (st.set i (slotS s)) μ (σ.set i (some v)) := by
  have key : ∀ s : SD, RepS K φ F s v → SimS K E φ F H (st.set i (.adr (.sd s))) μ (σ.set i (some v)) := fun s r => by
    have N := S.setNo (i := i) (v := some v)
    by_cases hl : i < σ.length
    · have N2 := N.setSd (i := i) (s := s) (List.getElem?_set_self hl) r
      rw [List.set_set] at N2
      exact N2
    · have e1 : st.set i (.adr (.sd s)) = st.set i .no := by
        rw [List.set_eq_of_length_le (by rw [← S.sim.len]; omega), List.set_eq_of_length_le (by rw [← S.sim.len]; omega)]
      rw [e1]; exact N
  cases s with
  | fz d => exact S.setVal r
  | lab n => exact key _ r
  | tup ds => exact key _ r
theorem SimS.grow {H' : Hp} (S : SimS K E φ F H st μ σ) (g : Same H H') : SimS K E φ F H' st μ σ :=
  ⟨S.sim.grow g, S.len, fun n b e => by
    obtain ⟨a, o, e1, e2, e3, e4, e5⟩ := S.sto n b e
    exact ⟨a, o, e1, e2, e3, g _ _ e4, e5⟩, S.inj, S.sep⟩
theorem SimS.newT {p : Addr} {xs : List V} (S : SimS K E φ F H st μ σ) (hp : H p = none) : SimS K E φ (upd F p (.tup xs)) (upd H p (.tup xs)) st μ σ := by
  have sF : Same F (upd F p (.tup xs)) := same_new (S.sim.sub.free hp)
  refine ⟨(S.sim.new hp).setR rfl rfl fun s v r => RepS.mono (Le.refl _) sF _ _ r, S.len, fun n b e => ?_, S.inj, S.sep⟩
  obtain ⟨a, o, e1, e2, e3, e4, e5⟩ := S.sto n b e
  have hap : a ≠ p := by rintro rfl; rw [hp] at e4; cases e4
  exact ⟨a, o, e1, by rw [upd_ne hap]; exact e2, e3, by rw [upd_ne hap]; exact e4, e5.mono (Le.refl _) sF⟩
/-- a new object of the store, just made -/
theorem SimS.made {p : Addr} {o : HO} {b : Ob} (S : SimS K E φ F H st μ σ) (hp : H p = none) (hb : OAt K φ F b o) : SimS K E (φ ++ [p]) F (upd H p o) st (μ ++ [some b]) σ :=
  (S.grow (same_new hp)).newLab (S.sim.sub.free hp) (S.sim.ent.free hp) upd_same hb (fun n c h1 h2 => by
    obtain ⟨a, o', e1, e2, e3, e4, e5⟩ := S.sto n c h1
    rw [h2] at e1; cases e1
    rw [hp] at e4; cases e4) fun i m h1 h2 => by
    obtain ⟨a, e1, ow⟩ := S.sim.own i m h1
    rw [h2] at e1; cases e1
    obtain ⟨o', e2, _⟩ := ow.here
    rw [hp] at e2; cases e2
/-- an object of the store is written -/
theorem SimS.write {n : Nat} {a : Addr} {b b' : Ob} {o' : HO} (S : SimS K E φ F H st μ σ) (e : μ[n]? = some (some b)) (ea : φ[n]? = some a) (hb : OAt K φ F b' o') : SimS K E φ F (upd H a o') st (μ.set n (some b')) σ := by
  obtain ⟨a', o, e1, e2, e3, e4, e5⟩ := S.sto n b e
  rw [ea] at e1; cases e1
  have keep : ∀ {G : Hp}, G a = none → Same G H → Same G (upd H a o') := fun {G} hg s c u q => by
    have hc : c ≠ a := by rintro rfl; rw [hg] at q; cases q
    rw [upd_ne hc]; exact s c u q
  have lt := sto_lt e
  have old : ∀ {m : Nat} {c : Ob}, (μ.set n (some b'))[m]? = some (some c) → m = n ∧ c = b' ∨ m ≠ n ∧ μ[m]? = some (some c) := fun {m c} h => by
    by_cases hm : m = n
    · subst hm
      rw [List.getElem?_set_self lt] at h
      cases h; exact .inl ⟨rfl, rfl⟩
    · rw [List.getElem?_set_ne (Ne.symm hm)] at h
      exact .inr ⟨hm, h⟩
  refine ⟨⟨keep e2 S.sim.sub, keep e3 S.sim.ent, S.sim.fe, S.sim.gr, S.sim.len, S.sim.val, fun i m h => ?_, S.sim.sep, S.sim.adr⟩, by rw [List.length_set]; exact S.len, fun m c h => ?_, fun m k c d x h1 h2 h3 h4 => ?_, fun i m mm c x h1 h2 h3 h4 => ?_⟩
  · obtain ⟨x, g1, ow⟩ := S.sim.own i m h
    obtain ⟨u, g2, g3⟩ := ow.here
    have hx : x ≠ a := by rintro rfl; exact S.sep i n m b x h e g1 ea
    exact ⟨x, g1, ow.f, ow.e, u, by rw [upd_ne hx]; exact g2, g3⟩
  · rcases old h with ⟨rfl, rfl⟩ | ⟨hm, h⟩
    · exact ⟨a, o', ea, e2, e3, upd_same, hb⟩
    · obtain ⟨x, u, g1, g2, g3, g4, g5⟩ := S.sto m c h
      have hx : x ≠ a := by rintro rfl; exact hm (S.inj m n c b x h e g1 ea)
      exact ⟨x, u, g1, g2, g3, by rw [upd_ne hx]; exact g4, g5⟩
  · have live : ∀ {m : Nat} {c : Ob}, (μ.set n (some b'))[m]? = some (some c) → ∃ c', μ[m]? = some (some c') := fun {m c} h => by
      rcases old h with ⟨rfl, _⟩ | ⟨_, h⟩
      · exact ⟨b, e⟩
      · exact ⟨c, h⟩
    obtain ⟨c', q1⟩ := live h1
    obtain ⟨d', q2⟩ := live h2
    exact S.inj m k c' d' x q1 q2 h3 h4
  · rcases old h2 with ⟨rfl, _⟩ | ⟨_, h2⟩
    · exact S.sep i m mm b x h1 e h3 h4
    · exact S.sep i m mm c x h1 h2 h3 h4
/-- where a thing of the store stands -/
theorem SimS.at_ {n : Nat} {b : Ob} {v : V} (S : SimS K E φ F H st μ σ) (e : μ[n]? = some (some b)) (r : RepS K φ F (.lab n) v) : ∃ a o, v = .ref a ∧ φ[n]? = some a ∧ H a = some o ∧ OAt K φ F b o := by
  obtain ⟨a, h1, h2⟩ := r
  obtain ⟨a', o, e1, e2, e3, e4, e5⟩ := S.sto n b e
  rw [h1] at e1; cases e1
  exact ⟨a, o, h2, h1, e4, e5⟩
end
/-! ## expressions -/
def nmEnd (o : Option Sl) (i : Nat) (s : S2) : RS (SD × S2) := match o with
  | some (.val d) => .ok (.fz d, s)
  | some (.adr (.sd x)) => .ok (x, s)
  | some (.own m) => .ok (.lab s.2.length, s.1.set i (.adr (.sd (.lab s.2.length))), s.2 ++ [some (obM m)])
  | _ => .no
def zNm (i : Nat) : SE := fun s => nmEnd (s.1[i]?) i s
section
variable {X : Cx} {W : Wx} {pos : Pos}
theorem be_nm {i : Nat} {e : Expr} (h : PE X e (tVar i)) : BE X W e (zNm i) := PE.imp h fun σ H Q ⟨E, φ, F, s, S, q⟩ => by
  unfold zNm at q
  cases e : s.1[i]? with
  | none => rw [e] at q; exact q.elim
  | some x =>
    rw [e] at q
    cases x with
    | no => exact q.elim
    | val d =>
      obtain ⟨v, e1, r⟩ := S.sim.val i d e
      exact ⟨v, e1, q v φ F H (Same.refl _) (Le.refl _) S r⟩
    | own m =>
      obtain ⟨a, e1, ow⟩ := S.sim.own i m e
      obtain ⟨p, le, S2, r⟩ := S.promote e e1
      exact ⟨_, e1, q _ _ F H (Same.refl _) le S2 r⟩
    | adr b =>
      cases b with
      | ad a => exact q.elim
      | sd x =>
        obtain ⟨v, e1, r⟩ := S.sim.adr i _ e
        exact ⟨v, e1, q v φ F H (Same.refl _) (Le.refl _) S r⟩
def zNil : SA := fun s => .ok ([], s)
def zCons2 (r : SD) (q : List SD × S2) : RS (List SD × S2) := .ok (r :: q.1, q.2)
def zCons1 (g : SA) (p : SD × S2) : RS (List SD × S2) := (g p.2).bind (zCons2 p.1)
def zCons (f : SE) (g : SA) : SA := fun s => (f s).bind (zCons1 g)
theorem ba_nil : BA X W [] zNil := PA.imp pa_nil fun σ H Q ⟨E, φ, F, s, S, q⟩ => q [] φ F H (Same.refl _) (Le.refl _) S rfl
theorem ba_cons {e : Expr} {es : List Expr} {f : SE} {g : SA} (he : BE X W e f) (hs : BA X W es g) (hst : starEach (e :: es) X.env = (false, eval e X.env) :: starEach es X.env := by rfl) : BA X W (e :: es) (zCons f g) := by
  refine PA.imp (pa_cons he hs hst) fun σ H Q ⟨E, φ, F, s, S, q⟩ => ?_
  refine zEA S q fun r s1 v φ1 F1 H1 a b S1 vr k => ?_
  refine zAA S1 k fun rs s2 vs φ2 F2 H2 a2 b2 S2 ar k2 => ?_
  exact k2 (v :: vs) φ2 F2 H2 (Same.refl _) (Le.refl _) S2 ⟨v, vs, rfl, RepS.mono b2 a2 _ _ vr, ar⟩
/-- a tuple: frozen data where all of it is -/
def mkT (rs : List SD) : SD := match fzS rs with
  | some ds => .fz (.tup ds)
  | none => .tup rs
def zTup1 (p : List SD × S2) : RS (SD × S2) := if p.1.length ≤ 1000 then .ok (mkT p.1, p.2) else .no
def zTup (f : SA) : SE := fun s => (f s).bind zTup1
theorem mkT_rep {K : PySem.W.Frag} {φ : List Addr} {F : Hp} {rs : List SD} {vs : List V} {p : Addr} (hp : F p = some (.tup vs)) (h : RepsS K φ F rs vs) : RepS K φ F (mkT rs) (.ref p) := by
  unfold mkT
  cases e : fzS rs with
  | some ds => exact ⟨p, vs, rfl, hp, fzS_reps e h⟩
  | none => exact ⟨p, vs, rfl, hp, h⟩
theorem be_tup {es : List Expr} {k : Nat} {f : SA} (h : BA X W es f) : BE X W (.Tuple es k pos) (zTup f) := PE.imp (pe_tup h) fun σ H Q ⟨E, φ, F, s, S, q⟩ => by
  refine zAE S q fun rs s1 vs φ1 F1 H1 a b S1 ar k => ?_
  unfold zTup1 at k
  by_cases hl : rs.length ≤ 1000
  · rw [if_pos hl] at k
    refine ⟨by rw [ar.length]; exact small_size hl, fun p hp => ?_⟩
    have sF : Same F1 (upd F1 p (.tup vs)) := same_new (S1.sim.sub.free hp)
    exact k _ φ1 _ _ sF (Le.refl _) (S1.newT hp) (mkT_rep upd_same (RepsS.mono (Le.refl _) sF _ _ ar))
  · rw [if_neg hl] at k; exact k.elim
def zLst1 (p : List SD × S2) : RS (SD × S2) := if p.1.length ≤ 1000 then .ok (.lab p.2.2.length, p.2.1, p.2.2 ++ [some (.lst p.1)]) else .no
def zLst (f : SA) : SE := fun s => (f s).bind zLst1
theorem be_lst {es : List Expr} {f : SA} (h : BA X W es f) : BE X W (.List es pos) (zLst f) := PE.imp (pe_lst h) fun σ H Q ⟨E, φ, F, s, S, q⟩ => by
  refine zAE S q fun rs s1 vs φ1 F1 H1 a b S1 ar k => ?_
  unfold zLst1 at k
  by_cases hl : rs.length ≤ 1000
  · rw [if_pos hl] at k
    refine ⟨by rw [ar.length]; exact small_size hl, fun p hp => ?_⟩
    exact k _ (φ1 ++ [p]) _ _ (Same.refl _) (Le.app _ _) (S1.made (b := .lst rs) (o := .lst vs) hp ⟨vs, rfl, ar⟩) (lab_last S1.len)
  · rw [if_neg hl] at k; exact k.elim
/-- what old data gives, in a state with a store (all frozen for the time) -/
def lkEnd (o : Option Val) (s : S2) : RS (SD × S2) := match o with
  | some (.fz d) => if d.noL = true then .ok (.fz d, s) else .no
  | some (.nw m) => if m.noL = true then .ok (.lab s.2.length, s.1, s.2 ++ [some (obM m)]) else .no
  | _ => .no
theorem lk_post {K : PySem.W.Frag} {E : Ent} {φ : List Addr} {F H : Hp} {σ σ0 : L2.St} {s : S2} {st0 : Sts} {res : Val} {Q : VK} (S : SimS K E φ F H s.1 s.2 σ) (q : EndES K W E φ F σ (lkEnd (some res) s) Q) : Post K { H := H, F := H } H H st0 σ0 res Q := by
  intro v F' H' a b S' vr
  have B := S.seen a b S'.sub
  have tp : ∀ (b : Addr) (xs : List V), F' b = some (.tup xs) → keepT F F' b = some (.tup xs) := fun b xs h => keepT_tup (fun o g => a _ _ (S.sim.sub _ _ g)) h
  cases res with
  | fz d =>
    have q : EndES K W E φ F σ (if d.noL = true then .ok (.fz d, s) else .no) Q := q
    by_cases hd : d.noL = true
    · rw [if_pos hd] at q
      exact q v φ _ H' (keepT_same _ _) (Le.refl _) B (Rep.flat tp d v hd vr)
    · rw [if_neg hd] at q; exact q.elim
  | nw m =>
    have q : EndES K W E φ F σ (if m.noL = true then .ok (.lab s.2.length, s.1, s.2 ++ [some (obM m)]) else .no) Q := q
    by_cases hd : m.noL = true
    · rw [if_pos hd] at q
      obtain ⟨p, rfl, ow, hn⟩ := vr
      obtain ⟨o, e1, e2⟩ := ow.here
      have hp : H p = none := ow.e
      have hf : keepT F F' p = none := by
        cases z : keepT F F' p with
        | none => rfl
        | some u =>
          rcases keepT_cases z with g | ⟨g, _⟩
          · have := S.sim.sub _ _ g; rw [hp] at this; cases this
          · rw [ow.f] at g; cases g
      refine q _ (φ ++ [p]) _ H' (keepT_same _ _) (Le.app _ _) (B.newLab hf (S.sim.ent.free hp) e1 (MAt.ob (e2.flat tp hd)) (fun n c h1 h2 => ?_) fun i m' h1 h2 => ?_) (lab_last S.len)
      · obtain ⟨x, o', g1, g2, g3, g4, g5⟩ := S.sto n c h1
        rw [h2] at g1; cases g1
        rw [hp] at g4; cases g4
      · obtain ⟨x, g1, ow'⟩ := S.sim.own i m' h1
        rw [h2] at g1; cases g1
        obtain ⟨o', g2, _⟩ := ow'.here
        rw [hp] at g2; cases g2
    · rw [if_neg hd] at q; exact q.elim
  | pk i m => exact q.elim
/-- two operands, all frozen for the time -/
def op2S (o : D → D → Option Val) (x y : Option D) : Option Val := match x, y with
  | some a, some b => o a b
  | _, _ => none
def z2b (o : D → D → Option Val) (x : SD) (q : SD × S2) : RS (SD × S2) := lkEnd (op2S o (deep q.2.2 x) (deep q.2.2 q.1)) q.2
def z2a (o : D → D → Option Val) (g : SE) (p : SD × S2) : RS (SD × S2) := (g p.2).bind (z2b o p.1)
def z2 (o : D → D → Option Val) (f g : SE) : SE := fun s => (f s).bind (z2a o g)
theorem up_z2 {K : PySem.W.Frag} {r : R2} {o : D → D → Option Val} {f g : SE} (hr : Op2 K r o) : ∀ σ H Q, upE K W (z2 o f g) σ H Q → tOp r (upE K W f) (upE K W g) σ H Q := fun σ H Q ⟨E, φ, F, s, S, q⟩ => by
  refine zE S q fun r1 s1 v φ1 F1 H1 a b S1 vr k => ?_
  refine zE S1 k fun r2 s2 u φ2 F2 H2 a2 b2 S2 vr2 k2 => ?_
  have k2 : EndES K W E φ2 F2 σ (lkEnd (op2S o (deep s2.2 r1) (deep s2.2 r2)) s2) Q := k2
  cases e1 : deep s2.2 r1 with
  | none => rw [e1] at k2; exact k2.elim
  | some x =>
    cases e2 : deep s2.2 r2 with
    | none => rw [e1, e2] at k2; exact k2.elim
    | some y =>
      rw [e1, e2] at k2
      have k2 : EndES K W E φ2 F2 σ (lkEnd (o x y) s2) Q := k2
      cases e3 : o x y with
      | none => rw [e3] at k2; exact k2.elim
      | some res =>
        rw [e3] at k2
        exact hr _ H2 H2 _ σ x y v u res Q (S2.look []) (.inl (S2.dpp e1 (RepS.mono b2 a2 _ _ vr))) (.inl (S2.dpp e2 vr2)) e3 (lk_post S2 k2)
theorem be_cmp {a b : Expr} {op : CmpOp} {r : R2} {o : D → D → Option Val} {f g : SE} (ho : OpR X (compareOp op) r) (hr : Op2 X.K r o) (ha : BE X W a f) (hb : BE X W b g) (hm : behindInMarks op b = false := by first | exact nomark _ | rfl) : BE X W (.Compare a [op] [b] pos) (z2 o f g) := PE.imp (pe_cmpR ho ha hb hm) (up_z2 hr)
theorem be_bin {a b : Expr} {op : Operator} {r : R2} {o : D → D → Option Val} {f g : SE} (ho : OpR X (binaryOp op) r) (hr : Op2 X.K r o) (ha : BE X W a f) (hb : BE X W b g) : BE X W (.BinOp a op b pos) (z2 o f g) := PE.imp (pe_op ho ha hb) (up_z2 hr)
/-- the truth of a bool -/
def asBS : SD × S2 → RS (Bool × S2)
  | (.fz (.bl b), s) => .ok (b, s)
  | _ => .no
def zTest (f : SE) : SB := fun s => (f s).bind asBS
theorem up_ztest {K : PySem.W.Frag} {f : SE} : ∀ σ H Q, upB K W (zTest f) σ H Q → tTest (upE K W f) σ H Q := fun σ H Q ⟨E, φ, F, s, S, q⟩ => by
  refine zET S q fun r1 s1 v φ1 F1 H1 a b S1 vr k => ?_
  cases r1 with
  | fz d =>
    cases d with
    | bl c =>
      have vr : v = .bl c := vr
      exact ⟨c, vr, k φ1 F1 H1 (Same.refl _) (Le.refl _) S1⟩
    | _ => exact k.elim
  | _ => exact k.elim
theorem bt_cmp {a b : Expr} {op : CmpOp} {r : R2} {o : D → D → Option Val} {f g : SE} (ho : OpR X (compareOp op) r) (hr : Op2 X.K r o) (ha : BE X W a f) (hb : BE X W b g) (hm : behindInMarks op b = false := by first | exact nomark _ | rfl) : BT X W (.Compare a [op] [b] pos) (zTest (z2 o f g)) :=
  PT.imp (pt_cmpR ho ha hb hm) fun σ H Q h => up_z2 hr σ H _ (up_ztest (f := z2 o f g) σ H Q h)
theorem bt_val {e : Expr} {f : SE} (h : BE X W e f) (he : ∀ whole, isTrue e X.env whole = (do let v ← whole; standAt e.pos; holding [v] (truthy v)) := by intro _; rfl) : BT X W e (zTest f) :=
  PT.imp (pt_val h he) up_ztest
def zNotT1 (p : Bool × S2) : RS (Bool × S2) := .ok (!p.1, p.2)
def zNotT (t : SB) : SB := fun s => (t s).bind zNotT1
def zAndT1 (u : SB) (p : Bool × S2) : RS (Bool × S2) := if p.1 = true then u p.2 else .ok (false, p.2)
def zAndT (t u : SB) : SB := fun s => (t s).bind (zAndT1 u)
def zOrT1 (u : SB) (p : Bool × S2) : RS (Bool × S2) := if p.1 = true then .ok (true, p.2) else u p.2
def zOrT (t u : SB) : SB := fun s => (t s).bind (zOrT1 u)
theorem bt_not {a : Expr} {t : SB} (h : BT X W a t) : BT X W (.UnaryOp .Not a pos) (zNotT t) := PT.imp (pt_not h) fun σ H Q ⟨E, φ, F, s, S, q⟩ => by
  refine zTT S q fun r s1 φ1 F1 H1 a b S1 k => ?_
  exact k φ1 F1 H1 (Same.refl _) (Le.refl _) S1
abbrev BW (X : Cx) (W : Wx) (e : Expr) (f : SB) : Prop := PW X e (upB X.K W f)
theorem bw_and1 {a : Expr} {t : SB} (h : BT X W a t) : BW X W (.BoolOp .And [a] pos) t := pw_and1 h
theorem bw_or1 {a : Expr} {t : SB} (h : BT X W a t) : BW X W (.BoolOp .Or [a] pos) t := pw_or1 h
theorem bw_and {a b : Expr} {rest : List Expr} {t u : SB} (ha : BT X W a t) (hb : BW X W (.BoolOp .And (b :: rest) pos) u) : BW X W (.BoolOp .And (a :: b :: rest) pos) (zAndT t u) := PW.imp (pw_and ha hb) fun σ H Q ⟨E, φ, F, s, S, q⟩ => by
  refine zTT S q fun r s1 φ1 F1 H1 a b S1 k => ?_
  cases r with
  | true => rw [if_pos rfl]; exact ⟨E, φ1, F1, s1, S1, k⟩
  | false => rw [if_neg Bool.false_ne_true]; exact k φ1 F1 H1 (Same.refl _) (Le.refl _) S1
theorem bw_or {a b : Expr} {rest : List Expr} {t u : SB} (ha : BT X W a t) (hb : BW X W (.BoolOp .Or (b :: rest) pos) u) : BW X W (.BoolOp .Or (a :: b :: rest) pos) (zOrT t u) := PW.imp (pw_or ha hb) fun σ H Q ⟨E, φ, F, s, S, q⟩ => by
  refine zTT S q fun r s1 φ1 F1 H1 a b S1 k => ?_
  cases r with
  | true => rw [if_pos rfl]; exact k φ1 F1 H1 (Same.refl _) (Le.refl _) S1
  | false => rw [if_neg Bool.false_ne_true]; exact ⟨E, φ1, F1, s1, S1, k⟩
end
end Vl
/-! # what reads and writes the store: places, keys, methods, calls -/
namespace Vl
open PySem PySem.Spec PyProof.Rows L2
def getG {α : Type} : List D → List α → D → Option α
  | k' :: ks, v :: vs, k => if k' = k then some v else getG ks vs k
  | _, _, _ => none
def setG {α : Type} : List D → List α → D → α → List α
  | k' :: ks, w :: ws, k, v => (if k' = k then v else w) :: setG ks ws k v
  | _, ws, _, _ => ws
section
variable {K : PySem.W.Frag} {φ : List Addr} {F : Hp}
theorem reps_getG {k : D} {κ : Key} (hk : keyD k = some κ) : ∀ {kvs : List (Key × V)} {ks : List D} {vs : List SD}, Reps K F ks (kvs.map fun p => kV p.1) → RepsS K φ F vs (kvs.map (·.2)) →
    (∀ d, getG ks vs k = some d → ∃ v, valV kvs κ = some v ∧ RepS K φ F d v) ∧ (getG ks vs k = none → valV kvs κ = none)
  | [], ks, vs, h1, h2 => by
    cases ks with
    | cons a as => obtain ⟨v, r, e, _⟩ := h1; cases e
    | nil => exact ⟨fun d e => (by cases vs <;> cases e), fun _ => rfl⟩
  | p :: kvs, ks, vs, h1, h2 => by
    cases ks with
    | nil => cases h1
    | cons a as =>
      cases vs with
      | nil => cases h2
      | cons b bs =>
        obtain ⟨v, r, e, r1, r2⟩ := h1
        cases e
        obtain ⟨w, r', e', r3, r4⟩ := h2
        cases e'
        have ha := rep_key r1
        obtain ⟨q1, q2⟩ := reps_getG hk r2 r4
        by_cases h : a = k
        · have hp : p.1 = κ := by
            rw [h, hk] at ha
            exact (Option.some.inj ha).symm
          unfold getG
          rw [if_pos h, valV_pos hp]
          exact ⟨fun d e => ⟨_, rfl, Option.some.inj e ▸ r3⟩, fun e => (nomatch e)⟩
        · have hp : ¬ p.1 = κ := fun z => h (keyD_inj (by rw [ha, z]) hk)
          unfold getG
          rw [if_neg h, valV_neg hp]
          exact ⟨q1, q2⟩
theorem reps_setG {k : D} {d : SD} {κ : Key} {y : V} (hk : keyD k = some κ) (hd : RepS K φ F d y) : ∀ {kvs : List (Key × V)} {ks : List D} {vs : List SD}, Reps K F ks (kvs.map fun p => kV p.1) → RepsS K φ F vs (kvs.map (·.2)) →
    RepsS K φ F (setG ks vs k d) ((kvs.map fun kv => if kv.1 = κ then (kv.1, y) else kv).map (·.2)) ∧ ((kvs.map fun kv => if kv.1 = κ then (kv.1, y) else kv).map fun p => kV p.1) = kvs.map fun p => kV p.1
  | [], ks, vs, h1, h2 => by
    cases ks with
    | cons a as => obtain ⟨v, r, e, _⟩ := h1; cases e
    | nil => exact ⟨by unfold setG; exact h2, rfl⟩
  | p :: kvs, ks, vs, h1, h2 => by
    cases ks with
    | nil => cases h1
    | cons a as =>
      cases vs with
      | nil => cases h2
      | cons b bs =>
        obtain ⟨v, r, e, r1, r2⟩ := h1
        cases e
        obtain ⟨w, r', e', r3, r4⟩ := h2
        cases e'
        have ha := rep_key r1
        obtain ⟨q1, q2⟩ := reps_setG hk hd r2 r4
        unfold setG
        by_cases h : a = k
        · have hp : p.1 = κ := by
            rw [h, hk] at ha
            exact (Option.some.inj ha).symm
          rw [if_pos h, List.map_cons, if_pos hp]
          exact ⟨⟨y, _, rfl, hd, q1⟩, by rw [List.map_cons, q2]; rfl⟩
        · have hp : ¬ p.1 = κ := fun z => h (keyD_inj (by rw [ha, z]) hk)
          rw [if_neg h, List.map_cons, if_neg hp]
          exact ⟨⟨p.2, _, rfl, r3, q1⟩, by rw [List.map_cons, q2]; rfl⟩
def putG (ks : List D) (vs : List SD) (k : D) (v : SD) : List D × List SD := match getG ks vs k with
  | some _ => (ks, setG ks vs k v)
  | none => (ks ++ [k], vs ++ [v])
theorem oat_put {k : D} {d : SD} {κ : Key} {y : V} (hk : keyD k = some κ) (hk2 : Rep K F k (kV κ)) (hd : RepS K φ F d y) {kvs : List (Key × V)} {ks : List D} {vs : List SD} (h1 : Reps K F ks (kvs.map fun p => kV p.1)) (h2 : RepsS K φ F vs (kvs.map (·.2))) :
    OAt K φ F (.dct (putG ks vs k d).1 (putG ks vs k d).2) (.dK (putK kvs κ y)) := by
  obtain ⟨g1, g2⟩ := reps_getG hk h1 h2
  unfold putG
  cases e : getG ks vs k with
  | some w =>
    obtain ⟨v, ev, _⟩ := g1 w e
    obtain ⟨q1, q2⟩ := reps_setG hk hd h1 h2
    have ep : putK kvs κ y = kvs.map fun kv => if kv.1 = κ then (kv.1, y) else kv := by
      unfold putK
      rw [valV_any, ev]; rfl
    exact ⟨_, rfl, by rw [ep, q2]; exact h1, by rw [ep]; exact q1⟩
  | none =>
    have ev := g2 e
    refine ⟨_, rfl, ?_, ?_⟩
    · rw [putK_new y ev, List.map_append]
      exact h1.append (Reps.one hk2)
    · rw [putK_new y ev, List.map_append]
      exact h2.append (RepsS.one hd)
theorem atI_repsS {ds : List SD} {vs : List V} {i : Int} {d : SD} (h : RepsS K φ F ds vs) (e : atI ds i = some d) : ∃ v, atI vs i = some v ∧ RepS K φ F d v := by
  unfold atI at e ⊢
  rw [h.length]
  cases q : ixN ds.length i with
  | none => rw [q] at e; cases e
  | some j =>
    rw [q] at e
    exact RepsS.get (i := j) h e
end
/-! ### x[y] -/
def ixOb (b : Option (Option Ob)) (y : SD) : Option SD := match b, y with
  | some (some (.lst ds)), .fz (.int i) => atI ds i
  | some (some (.dct ks vs)), .fz k => match keyD k with
    | some _ => getG ks vs k
    | none => none
  | _, _ => none
def ixS (μ : Sto) (x y : SD) : Option SD := match x with
  | .lab n => ixOb (μ[n]?) y
  | .tup ds => match y with
    | .fz (.int i) => atI ds i
    | _ => none
  | _ => none
def ixEnd (o : Option SD) (s : S2) : RS (SD × S2) := match o with
  | some d => .ok (d, s)
  | none => .no
def zIx2 (x : SD) (q : SD × S2) : RS (SD × S2) := ixEnd (ixS q.2.2 x q.1) q.2
def zIx1 (g : SE) (p : SD × S2) : RS (SD × S2) := (g p.2).bind (zIx2 p.1)
def zIx (f g : SE) : SE := fun s => (f s).bind (zIx1 g)
def rIxD : R2 := fun x y H Q => ∃ a v, x = .ref a ∧ DGet H a y (some v) ∧ Q v H
theorem ix_dict {X : Cx} (hu : X.A.units + 1 < cLine) : IxR X rIxD := by
  intro value slice pins s σ H x y v u Q I rx ry ⟨a, w, ex, g, q⟩ hs
  subst ex
  obtain rfl : v = Value.ref a := rx
  have hT : s.TypeIs (.ref a) "dict" := dict_typeIs I g
  unfold subscriptTail
  refine wpAny_bind ?_
  rw [getitemInPython_of_ne hT.not_modules]
  refine wpAny_bind (wpAny_specialOf hT PySem.F.slot_dict_getitem.lookup ?_)
  have fin : wpAny (model X.prog X.w) X.A (subscripted slice false (.ref a) u) (fun r s₃ => wpAny (model X.prog X.w) X.A (letTemporaryGo value (.ref a) r >>= fun _ => pure r) (EP X pins σ Q) X.xe s₃) X.xe s := by
    rw [hs]
    exact wpAny_operating (thn (d_getItem hu I g ry fun w' s3 I3 rw2 => ⟨w, H, I3, rw2, q⟩) fun r s3 q => wpAny_bind (wpAny_letTemporaryGo (wpAny_pure q)))
  first
    | exact wpAny_pure (wpAny_bind fin)
    | exact wpAny_bind (wpAny_pure (wpAny_bind fin))
    | exact wpAny_bind fin
/-- all three kinds -/
def rIxZ (K : PySem.W.Frag) : R2 := fun x y H Q => rIxL K x y H Q ∨ rIxT K x y H Q ∨ rIxD x y H Q
theorem ix_z {X : Cx} (hu : X.A.units + 1 < cLine) : IxR X (rIxZ X.K) := by
  intro value slice pins s σ H x y v u Q I rx ry h hs
  rcases h with h | h | h
  · exact ix_list value slice pins s σ H x y v u Q I rx ry h hs
  · exact ix_tup value slice pins s σ H x y v u Q I rx ry h hs
  · exact ix_dict hu value slice pins s σ H x y v u Q I rx ry h hs
section
variable {X : Cx} {W : Wx} {pos : Pos}
theorem be_ix {a b : Expr} {f g : SE} (hu : X.A.units + 1 < cLine) (ha : BE X W a f) (hb : BE X W b g) (hs : PlainIx b := by exact fun _ _ => rfl) : BE X W (.Subscript a b pos) (zIx f g) := PE.imp (pe_ix (ix_z hu) ha hb hs) fun σ H Q ⟨E, φ, F, s, S, q⟩ => by
  refine zE S q fun x s1 v φ1 F1 H1 a b S1 vr k => ?_
  refine zE S1 k fun y s2 u φ2 F2 H2 a2 b2 S2 ur k2 => ?_
  have k2 : EndES X.K W E φ2 F2 σ (ixEnd (ixS s2.2 x y) s2) Q := k2
  have vr2 := RepS.mono b2 a2 _ _ vr
  cases e : ixS s2.2 x y with
  | none => rw [e] at k2; exact k2.elim
  | some d =>
    rw [e] at k2
    have fin : ∀ w, RepS X.K φ2 F2 d w → Q w H2 := fun w r => k2 w φ2 F2 H2 (Same.refl _) (Le.refl _) S2 r
    cases x with
    | fz _ => cases e
    | tup ds =>
      cases y with
      | fz yd =>
        cases yd with
        | int i =>
          have ur : u = .int i := ur
          obtain ⟨ad, vs, h1, h2, h3⟩ := vr2
          obtain ⟨w, e1, rw'⟩ := atI_repsS h3 e
          exact .inr (.inl ⟨ad, vs, i, w, h1, ur, SqT.of (S2.sim.sub _ _ h2), e1, fin w rw'⟩)
        | _ => cases e
      | _ => cases e
    | lab n =>
      have e : ixOb (s2.2[n]?) y = some d := e
      cases eo : s2.2[n]? with
      | none => rw [eo] at e; cases e
      | some o =>
        rw [eo] at e
        cases o with
        | none => cases e
        | some ob =>
          obtain ⟨ad, o', h1, h2, h3, h4⟩ := S2.at_ eo vr2
          cases ob with
          | lst ds =>
            cases y with
            | fz yd =>
              cases yd with
              | int i =>
                have ur : u = .int i := ur
                obtain ⟨vs, rfl, h5⟩ := h4
                obtain ⟨w, e1, rw'⟩ := atI_repsS h5 e
                exact .inl ⟨ad, vs, i, w, h1, ur, SqL.of h3, e1, fin w rw'⟩
              | _ => cases e
            | _ => cases e
          | dct ks vs =>
            cases y with
            | fz yd =>
              have e : (match keyD yd with | some _ => getG ks vs yd | none => none) = some d := e
              cases ek : keyD yd with
              | none => rw [ek] at e; cases e
              | some κ =>
                rw [ek] at e
                obtain ⟨kvs, rfl, h5, h6⟩ := h4
                obtain ⟨ey, _⟩ := key_rep (H := F2) (.inl ur) ek
                obtain ⟨w, ew, rw'⟩ := (reps_getG ek h5 h6).1 d e
                exact .inr (.inr ⟨ad, w, h1, by rw [← ew]; exact .inl ⟨kvs, κ, .inl h3, ey, rfl⟩, fin w rw'⟩)
            | _ => cases e
          | dcu ks vs => cases y <;> cases e
          | ins n ks fs => cases y <;> cases e
/-! ### methods that write -/
def MutS (K : PySem.W.Frag) (r : V → List V → Hp → VK → Prop) (op : Ob → List SD → Option (SD × Ob)) : Prop := ∀ (E : Ent) (φ : List Addr) (F H : Hp) (st : Sts) (μ : Sto) (σ : L2.St) (n : Nat) (b b' : Ob) (a : Addr) (ds : List SD) (xs : List V) (res : SD) (Q : VK),
  SimS K E φ F H st μ σ → μ[n]? = some (some b) → φ[n]? = some a → RepsS K φ F ds xs → op b ds = some (res, b') → (∀ v H', SimS K E φ F H' st (μ.set n (some b')) σ → RepS K φ F res v → Q v H') → r (.ref a) xs H Q
def Ob.ty : Ob → String
  | .lst _ => "list" | .dct _ _ => "dict" | .dcu _ _ => "dict" | .ins _ _ _ => ""
def zMutF (o : Option (SD × Ob)) (n : Nat) (s : S2) : RS (SD × S2) := match o with
  | some (r, b') => .ok (r, s.1, s.2.set n (some b'))
  | none => .no
def zMutE (b : Option (Option Ob)) (op : Ob → List SD → Option (SD × Ob)) (n : Nat) (ds : List SD) (s : S2) : RS (SD × S2) := match b with
  | some (some b) => zMutF (op b ds) n s
  | _ => .no
def zMut2 (op : Ob → List SD → Option (SD × Ob)) (n : Nat) (q : List SD × S2) : RS (SD × S2) := zMutE (q.2.2[n]?) op n q.1 q.2
def zMut0 (b : Option (Option Ob)) (T : String) (x : RS (SD × S2)) : RS (SD × S2) := match b with
  | some (some b) => if b.ty = T then x else .no
  | _ => .no
def zMut1 (T : String) (op : Ob → List SD → Option (SD × Ob)) (g : SA) (p : SD × S2) : RS (SD × S2) := match p.1 with
  | .lab n => zMut0 (p.2.2[n]?) T ((g p.2).bind (zMut2 op n))
  | _ => .no
def zMut (T : String) (op : Ob → List SD → Option (SD × Ob)) (f : SE) (g : SA) : SE := fun s => (f s).bind (zMut1 T op g)
theorem ob_ty {K : PySem.W.Frag} {φ : List Addr} {F H : Hp} {b : Ob} {o : HO} {a : Addr} (h : OAt K φ F b o) (e : H a = some o) {T : String} (hT : b.ty = T) (hl : T = "list" ∨ T = "dict") : tyV K T (.ref a) H := by
  subst hT
  cases b with
  | lst ds => obtain ⟨vs, rfl, _⟩ := h; exact .inl ⟨rfl, vs, SqL.of e⟩
  | dct ks ds => obtain ⟨kvs, rfl, _⟩ := h; exact .inr (.inr (.inl ⟨rfl, .inl ⟨kvs, e⟩⟩))
  | dcu ks ds => obtain ⟨kvs, rfl, _⟩ := h; exact .inr (.inr (.inl ⟨rfl, .inr ⟨kvs, e⟩⟩))
  | ins n ks fs => rcases hl with h | h <;> exact absurd (show ("" : String) = _ from h) (by decide)
theorem up_zmut {T : String} {r : V → List V → Hp → VK → Prop} {op : Ob → List SD → Option (SD × Ob)} {f : SE} {g : SA} (hT : T = "list" ∨ T = "dict") (hr : MutS X.K r op) : ∀ σ H Q, upE X.K W (zMut T op f g) σ H Q → tBM X.K T r (upE X.K W f) (upR X.K W g) σ H Q := fun σ H Q ⟨E, φ, F, s, S, q⟩ => by
  refine zE S q fun x s1 v φ1 F1 H1 a b S1 vr k => ?_
  cases x with
  | fz _ => exact k.elim
  | tup _ => exact k.elim
  | lab n =>
    have k : EndES X.K W E φ1 F1 σ (zMut0 (s1.2[n]?) T ((g s1).bind (zMut2 op n))) Q := k
    cases eo : s1.2[n]? with
    | none => rw [eo] at k; exact k.elim
    | some o =>
      rw [eo] at k
      cases o with
      | none => exact k.elim
      | some ob =>
        have k : EndES X.K W E φ1 F1 σ (if ob.ty = T then (g s1).bind (zMut2 op n) else .no) Q := k
        by_cases ht : ob.ty = T
        · rw [if_pos ht] at k
          obtain ⟨ad, o', rfl, h2, h3, h4⟩ := S1.at_ eo vr
          refine ⟨ob_ty h4 h3 ht hT, ?_⟩
          refine zAE S1 k fun ds s2 xs φ2 F2 H2 a2 b2 S2 ar k2 => ?_
          have k2 : EndES X.K W E φ2 F2 σ (zMutE (s2.2[n]?) op n ds s2) Q := k2
          cases eo2 : s2.2[n]? with
          | none => rw [eo2] at k2; exact k2.elim
          | some o2 =>
            rw [eo2] at k2
            cases o2 with
            | none => exact k2.elim
            | some ob2 =>
              have k2 : EndES X.K W E φ2 F2 σ (zMutF (op ob2 ds) n s2) Q := k2
              cases e5 : op ob2 ds with
              | none => rw [e5] at k2; exact k2.elim
              | some rm =>
                rw [e5] at k2
                exact hr E φ2 F2 H2 _ _ σ n ob2 rm.2 ad ds xs rm.1 Q S2 eo2 (b2 _ _ h2) ar e5 fun w H' S' r' => k2 w φ2 F2 H' (Same.refl _) (Le.refl _) S' r'
        · rw [if_neg ht] at k; exact k.elim
theorem be_mut {T id : String} {name : Str} {r : V → List V → Hp → VK → Prop} {op : Ob → List SD → Option (SD × Ob)} {f : SE} {g : SA} {o e : Expr} {es : List Expr} {apos cpos : Pos} (hT : T = "list" ∨ T = "dict") (pa : PlainAttrs T) (slot : Slot T name id) (hty : typeOf (.builtin id) = pure (.type "method_descriptor")) (hm : MtR X id r) (hr : MutS X.K r op) (ho : BE X W o f) (ha : BA X W (e :: es) g)
    (hbase : attributeBase o name X.env (eval o X.env) = eval o X.env := by rfl)
    (hfew : ((backTo cpos (starEach (e :: es) X.env)).all (fun x => !x.1) && (backToKw cpos (keywordEach [] X.env)).all (fun x => x.1.isSome)
      && decide ((e :: es).length + ([] : List Keyword).length + (if ([] : List Keyword).isEmpty then 0 else 1) < 30)) = true := by rfl)
    (hline : (apos.endLine == cpos.line) = true := by rfl) (hs : starEach (e :: es) X.env = (false, eval e X.env) :: starEach es X.env := by rfl) (hplain : (backTo cpos (starEach es X.env)).any (·.1) = false := by rfl) :
    BE X W (.Call (.Attribute o name apos) (e :: es) [] cpos) (zMut T op f g) := PE.imp (pe_bm pa slot hty hm ho ha hbase hfew hline hs hplain) (up_zmut hT hr)
theorem be_mut0 {T id : String} {name : Str} {r : V → List V → Hp → VK → Prop} {op : Ob → List SD → Option (SD × Ob)} {f : SE} {o : Expr} {apos cpos : Pos} (hT : T = "list" ∨ T = "dict") (pa : PlainAttrs T) (slot : Slot T name id) (hty : typeOf (.builtin id) = pure (.type "method_descriptor")) (hm : MtR X id r) (hr : MutS X.K r op) (ho : BE X W o f)
    (hbase : attributeBase o name X.env (eval o X.env) = eval o X.env := by rfl) (hline : (apos.endLine == cpos.line) = true := by rfl) :
    BE X W (.Call (.Attribute o name apos) [] [] cpos) (zMut T op f zNil) := PE.imp (pe_bm0 pa slot hty hm ho hbase hline) fun σ H Q h => by
  obtain ⟨E, φ, F, s, S, h⟩ := up_zmut (W := W) hT hr σ H Q h
  refine ⟨E, φ, F, s, S, ?_⟩
  cases e : f s with
  | no => rw [e] at h; exact h
  | exc c st μ => rw [e] at h; exact h
  | ok p =>
    rw [e] at h
    intro v φ' F' H' a b S' r'
    obtain ⟨h1, E2, φ2, F2, s2, S2, h2⟩ := h v φ' F' H' a b S' r'
    exact ⟨h1, h2 [] φ2 F2 H' (Same.refl _) (Le.refl _) S2 rfl⟩
def oAppend : Ob → List SD → Option (SD × Ob)
  | .lst ds, [d] => if ds.length < 16777216 then some (.fz .non, .lst (ds ++ [d])) else none
  | _, _ => none
theorem mus_append {K : PySem.W.Frag} : MutS K rAppend oAppend := fun E φ F H st μ σ n b b' a ds xs res Q S e ea r op q => by
  match b, ds, op with
  | .lst es, [d], op =>
    dsimp only [oAppend] at op
    by_cases hl : es.length < 16777216
    · rw [if_pos hl] at op
      cases op
      obtain ⟨v, rfl, rv⟩ := r.one'
      obtain ⟨a', o, g1, g2, g3, g4, vs, rfl, rs⟩ := S.sto n _ e
      rw [ea] at g1; cases g1
      exact ⟨a, vs, v, rfl, rfl, g4, by rw [rs.length, sizeLine_eq]; exact hl, q _ _ (S.write e ea ⟨_, rfl, rs.append (RepsS.one rv)⟩) rfl⟩
    · rw [if_neg hl] at op; cases op
def oReverse : Ob → List SD → Option (SD × Ob)
  | .lst ds, [] => some (.fz .non, .lst ds.reverse)
  | _, _ => none
theorem mus_reverse {K : PySem.W.Frag} : MutS K rReverse oReverse := fun E φ F H st μ σ n b b' a ds xs res Q S e ea r op q => by
  match b, ds, op with
  | .lst es, [], op =>
    cases op
    obtain ⟨a', o, g1, g2, g3, g4, vs, rfl, rs⟩ := S.sto n _ e
    rw [ea] at g1; cases g1
    exact ⟨a, vs, rfl, r, g4, q _ _ (S.write e ea ⟨_, rfl, rs.reverse⟩) rfl⟩
def oClear : Ob → List SD → Option (SD × Ob)
  | .lst ds, [] => some (.fz .non, .lst [])
  | _, _ => none
theorem mus_clear {K : PySem.W.Frag} : MutS K rClear oClear := fun E φ F H st μ σ n b b' a ds xs res Q S e ea r op q => by
  match b, ds, op with
  | .lst es, [], op =>
    cases op
    obtain ⟨a', o, g1, g2, g3, g4, vs, rfl, rs⟩ := S.sto n _ e
    rw [ea] at g1; cases g1
    exact ⟨a, vs, rfl, r, g4, q _ _ (S.write e ea ⟨_, rfl, rfl⟩) rfl⟩
def oInsert : Ob → List SD → Option (SD × Ob)
  | .lst ds, [.fz (.int i), d] => if (decide (ds.length < 16777216) && (decide (0 ≤ i) && decide (i < 1073741824))) = true then some (.fz .non, .lst (ds.take i.toNat ++ [d] ++ ds.drop i.toNat)) else none
  | _, _ => none
theorem mus_insert {K : PySem.W.Frag} : MutS K rInsertL oInsert := fun E φ F H st μ σ n b b' a ds xs res Q S e ea r op q => by
  match b, ds, op with
  | .lst es, [.fz (.int j), d], op =>
    dsimp only [oInsert] at op
    by_cases hl : (decide (es.length < 16777216) && (decide (0 ≤ j) && decide (j < 1073741824))) = true
    · rw [if_pos hl] at op
      cases op
      rw [Bool.and_eq_true, Bool.and_eq_true, decide_eq_true_eq, decide_eq_true_eq, decide_eq_true_eq] at hl
      obtain ⟨v, u, rfl, rv, ru⟩ := r.two'
      have ev : v = .int j := rv
      subst ev
      obtain ⟨a', o, g1, g2, g3, g4, vs, rfl, rs⟩ := S.sto n _ e
      rw [ea] at g1; cases g1
      exact ⟨a, vs, j, u, rfl, rfl, g4, by rw [rs.length, sizeLine_eq]; exact hl.1, hl.2.1, by omega, q _ _ (S.write e ea ⟨_, rfl, ((RepsS.take _ rs).append (RepsS.one ru)).append (RepsS.drop _ rs)⟩) rfl⟩
    · rw [if_neg hl] at op; cases op
end
end Vl
/-! # calls, statements, loops, contracts over a store -/
namespace Vl
open PySem PySem.Spec PyProof.Rows L2
/-! ## calls of old defs: all frozen for the time -/
def deeps (μ : Sto) : List SD → Option (List D)
  | [] => some []
  | x :: xs => match deep μ x, deeps μ xs with
    | some d, some ds => some (d :: ds)
    | _, _ => none
theorem SimS.dpps {K : PySem.W.Frag} {E : Ent} {φ : List Addr} {F H : Hp} {st : Sts} {μ : Sto} {σ : L2.St} (S : SimS K E φ F H st μ σ) : ∀ {xs : List SD} {ds : List D} {vs : List V}, deeps μ xs = some ds → RepsS K φ F xs vs → Reps K H ds vs
  | [], _, _, e, h => by cases e; exact h
  | x :: xs, ds, _, e, ⟨v, r, h1, h2, h3⟩ => by
    have e : (match deep μ x, deeps μ xs with | some d, some ds => some (d :: ds) | _, _ => none) = some ds := e
    cases e1 : deep μ x with
    | none => rw [e1] at e; cases e
    | some d =>
      cases e2 : deeps μ xs with
      | none => rw [e1, e2] at e; cases e
      | some es =>
        rw [e1, e2] at e
        cases e
        exact ⟨v, r, h1, S.dpp e1 h2, S.dpps e2 h3⟩
def callOldR (r : R Val) (s : S2) : RS (SD × S2) := match r with
  | .ok r => lkEnd (some r) s
  | _ => .no
def callOld (run : Fn) (o : Option (List D)) (s : S2) : RS (SD × S2) := match o with
  | some ds => callOldR (run ds) s
  | none => .no
def zCallO1 (run : Fn) (p : List SD × S2) : RS (SD × S2) := callOld run (deeps p.2.2 p.1) p.2
/-- an old def is called -/
def zCallO (run : Fn) (f : SA) : SE := fun s => (f s).bind (zCallO1 run)
theorem lk_rrel {K : PySem.W.Frag} {W : Wx} {E : Ent} {φ : List Addr} {F H : Hp} {σ : L2.St} {s : S2} {res : Val} {Q : VK} (S : SimS K E φ F H s.1 s.2 σ) (q : EndES K W E φ F σ (lkEnd (some res) s) Q) :
    ∀ v F' H', Same H F' → Same H H' → Same F' H' → RRel K H F' H' res v → Q v H' := by
  intro v F' H' a b c rr
  have B := S.seen a b c
  have tp : ∀ (b : Addr) (xs : List V), F' b = some (.tup xs) → keepT F F' b = some (.tup xs) := fun b xs h => keepT_tup (fun o g => a _ _ (S.sim.sub _ _ g)) h
  cases res with
  | fz d =>
    have q : EndES K W E φ F σ (if d.noL = true then .ok (.fz d, s) else .no) Q := q
    by_cases hd : d.noL = true
    · rw [if_pos hd] at q
      exact q v φ _ H' (keepT_same _ _) (Le.refl _) B (Rep.flat tp d v hd rr)
    · rw [if_neg hd] at q; exact q.elim
  | nw m =>
    have q : EndES K W E φ F σ (if m.noL = true then .ok (.lab s.2.length, s.1, s.2 ++ [some (obM m)]) else .no) Q := q
    by_cases hd : m.noL = true
    · rw [if_pos hd] at q
      obtain ⟨p, o, rfl, hf', hp, e1, e2⟩ := rr
      have hf : keepT F F' p = none := by
        cases z : keepT F F' p with
        | none => rfl
        | some u =>
          rcases keepT_cases z with g | ⟨g, _⟩
          · have := S.sim.sub _ _ g; rw [hp] at this; cases this
          · rw [hf'] at g; cases g
      refine q _ (φ ++ [p]) _ H' (keepT_same _ _) (Le.app _ _) (B.newLab hf (S.sim.ent.free hp) e1 (MAt.ob (e2.flat tp hd)) (fun n c h1 h2 => ?_) fun i m' h1 h2 => ?_) (lab_last S.len)
      · obtain ⟨x, o', g1, g2, g3, g4, g5⟩ := S.sto n c h1
        rw [h2] at g1; cases g1
        rw [hp] at g4; cases g4
      · obtain ⟨x, g1, ow'⟩ := S.sim.own i m' h1
        rw [h2] at g1; cases g1
        obtain ⟨o', g2, _⟩ := ow'.here
        rw [hp] at g2; cases g2
    · rw [if_neg hd] at q; exact q.elim
  | pk i m => exact rr.elim
section
variable {X : Cx} {W : Wx} {pos p : Pos}
theorem up_callO {cls : Nat → Value} {run : Fn} {f : SA} : ∀ σ H Q, upE X.K W (zCallO run f) σ H Q → tCall (spF X.K cls run) [] E0 (upR X.K W f) σ H Q := fun σ H Q ⟨E, φ, F, s, S, q⟩ => by
  refine zAE S q fun rs s1 vs φ1 F1 H1 a b S1 ar k => ?_
  rw [List.append_nil]
  have k : EndES X.K W E φ1 F1 σ (callOld run (deeps s1.2 rs) s1) Q := k
  cases e : deeps s1.2 rs with
  | none => rw [e] at k; exact k.elim
  | some ds =>
    rw [e] at k
    have k : EndES X.K W E φ1 F1 σ (callOldR (run ds) s1) Q := k
    refine ⟨H1, ds, Same.refl _, S1.dpps e ar, ?_⟩
    cases hr : run ds with
    | no => rw [hr] at k; exact k.elim
    | exc c s' => rw [hr] at k; exact k.elim
    | ok r => rw [hr] at k; exact fun v F' H' a b c _ rr => lk_rrel S1 k v F' H' a b c rr
theorem be_callO {cls : Nat → Value} {run : Fn} {f : SA} {x : Str} {e : Expr} {es : List Expr} {k : Nat} {fa : Addr} {fd : FuncData} {ps : List Str} (G : FnOk X.prog X.w X.K X.mg X.base CX0 k fa fd ps (spF X.K cls run)) (hr : Room k X.A) (hg : Gl X x) (hm : X.mg x = some (.ref fa)) (hk : PySem.W.keepIn X.K (.ref fa) = true) (hb : Binds X.K fd ps [])
    (ha : BA X W (e :: es) f) (hdb : (x == ("__debug__" : Str)) = false := by decide) (he : starEach (e :: es) X.env = (false, eval e X.env) :: starEach es X.env := by rfl) (hpl : (backTo pos (starEach es X.env)).any (·.1) = false := by rfl) :
    BE X W (.Call (.Name x p) (e :: es) [] pos) (zCallO run f) := PE.imp (pe_call G hr hg hm hk hb .nil pass0 ha hdb he hpl) up_callO
/-- built-ins and the like, of frozen data -/
def zN1 (o : List D → Option Val) (p : List SD × S2) : RS (SD × S2) := match deeps p.2.2 p.1 with
  | some ds => lkEnd (o ds) p.2
  | none => .no
def zN (o : List D → Option Val) (f : SA) : SE := fun s => (f s).bind (zN1 o)
end
/-! ## calls of defs over a store -/
structure StoOk (K : PySem.W.Frag) (G : Hp) (φ : List Addr) (F H : Hp) (μ : Sto) : Prop where
  sub : Same F H
  ent : Same G H
  len : φ.length = μ.length
  sto : ∀ (n : Nat) (b : Ob), μ[n]? = some (some b) → ∃ a o, φ[n]? = some a ∧ F a = none ∧ G a = none ∧ H a = some o ∧ OAt K φ F b o
  inj : ∀ (n m : Nat) (b c : Ob) (a : Addr), μ[n]? = some (some b) → μ[m]? = some (some c) → φ[n]? = some a → φ[m]? = some a → n = m
abbrev FnS := List SD → Sto → RS (SD × Sto)
def spS (K : PySem.W.Frag) (cls : Nat → Value) (run : FnS) : Sp := fun vs H Q E => ∃ G φ F μ ds, StoOk K G φ F H μ ∧ RepsS K φ F ds vs ∧ match run ds μ with
  | .ok (r, μ') => ∀ v φ' F' H', Same F F' → Le φ φ' → StoOk K G φ' F' H' μ' → (∀ a o, F' a = some o → F a = some o ∨ Fre G a o) → RepS K φ' F' r v → Q v H'
  | .exc c _ μ' => ∀ φ' F' H', Same F F' → Le φ φ' → StoOk K G φ' F' H' μ' → (∀ a o, F' a = some o → F a = some o ∨ Fre G a o) → E (cls c) none H'
  | .no => False
section
variable {K : PySem.W.Frag} {E : Ent} {φ : List Addr} {F H : Hp} {st : Sts} {μ : Sto} {σ : L2.St}
open Classical in
/-- what a callee may not touch: all but the store -/
noncomputable def restH (φ : List Addr) (μ : Sto) (H : Hp) : Hp := fun a => if ∃ (n : Nat) (b : Ob), μ[n]? = some (some b) ∧ φ[n]? = some a then none else H a
theorem restH_live {n : Nat} {b : Ob} {a : Addr} (h : μ[n]? = some (some b)) (g : φ[n]? = some a) : restH φ μ H a = none := if_pos ⟨n, b, h, g⟩
theorem restH_else {a : Addr} (h : ∀ (n : Nat) (b : Ob), μ[n]? = some (some b) → φ[n]? = some a → False) : restH φ μ H a = H a := if_neg fun ⟨n, b, h1, h2⟩ => h n b h1 h2
theorem restH_cases {a : Addr} (h : restH φ μ H a = none) : H a = none ∨ ∃ (n : Nat) (b : Ob), μ[n]? = some (some b) ∧ φ[n]? = some a := by
  by_cases c : ∃ (n : Nat) (b : Ob), μ[n]? = some (some b) ∧ φ[n]? = some a
  · exact .inr c
  · rw [restH_else fun n b h1 h2 => c ⟨n, b, h1, h2⟩] at h
    exact .inl h
theorem restH_le {a : Addr} {o : HO} (h : restH φ μ H a = some o) : H a = some o := by
  by_cases c : ∃ (n : Nat) (b : Ob), μ[n]? = some (some b) ∧ φ[n]? = some a
  · obtain ⟨n, b, h1, h2⟩ := c
    rw [restH_live h1 h2] at h; cases h
  · rw [restH_else fun n b h1 h2 => c ⟨n, b, h1, h2⟩] at h; exact h
theorem SimS.lend (S : SimS K E φ F H st μ σ) : StoOk K (restH φ μ H) φ F H μ :=
  ⟨S.sim.sub, fun a o e => restH_le e, S.len, fun n b e => by
    obtain ⟨a, o, e1, e2, e3, e4, e5⟩ := S.sto n b e
    exact ⟨a, o, e1, e2, restH_live e e1, e4, e5⟩, S.inj⟩
theorem SimS.took (S : SimS K E φ F H st μ σ) {φ' : List Addr} {F' H' : Hp} {μ' : Sto} (sF : Same F F') (le : Le φ φ') (T : StoOk K (restH φ μ H) φ' F' H' μ') (gr : ∀ a o, F' a = some o → F a = some o ∨ Fre (restH φ μ H) a o) : SimS K E φ' F' H' st μ' σ := by
  have eN : ∀ a, restH φ μ H a = none → E.H a = none := fun a h => by
    rcases restH_cases h with h | ⟨n, b, h1, h2⟩
    · exact S.sim.ent.free h
    · obtain ⟨x, o, e1, e2, e3, _⟩ := S.sto n b h1
      rw [h2] at e1; cases e1; exact e3
  have ownH : ∀ (i : Nat) (m : M) (a : Addr), st[i]? = some (Sl.own m) → σ[i]? = some (some (V.ref a)) → restH φ μ H a = H a := fun i m a h1 h2 => restH_else fun n b g1 g2 => S.sep i n m b a h1 g1 h2 g2
  refine ⟨⟨T.sub, fun a o e => ?_, S.sim.fe.trans sF, fun a o e => ?_, S.sim.len, fun i d e => ?_, fun i m e => ?_, S.sim.sep, fun i b e => ?_⟩, T.len, fun n b e => ?_, T.inj, fun i n m b a h1 h2 h3 h4 => ?_⟩
  · refine T.ent a o ?_
    have e : E.H a = some o := e
    have h : H a = some o := S.sim.ent a o e
    rw [restH_else fun n b g1 g2 => ?_]
    · exact h
    · obtain ⟨x, o', e1, e2, e3, _⟩ := S.sto n b g1
      rw [g2] at e1; cases e1
      rw [e3] at e; cases e
  · rcases gr a o e with g | g | g
    · exact S.sim.gr a o g
    · exact .inr (.inl (eN a g))
    · exact .inr (.inr g)
  · obtain ⟨v, e1, e2⟩ := S.sim.val i d e
    exact ⟨v, e1, Rep.mono sF _ _ e2⟩
  · obtain ⟨a, e1, ow⟩ := S.sim.own i m e
    obtain ⟨o, e2, e3⟩ := ow.here
    have hh : restH φ μ H a = some o := by rw [ownH i m a e e1]; exact e2
    refine ⟨a, e1, ?_, ow.e, o, T.ent _ _ hh, e3.mono sF⟩
    cases q : F' a with
    | none => rfl
    | some u =>
      rcases gr a u q with g | g | g
      · rw [ow.f] at g; cases g
      · rw [hh] at g; cases g
      · have := T.sub _ _ q
        rw [T.ent _ _ hh] at this; cases this
        rw [e3.nt] at g; cases g
  · obtain ⟨v, e1, e2⟩ := S.sim.adr i b e
    refine ⟨v, e1, ?_⟩
    cases b with
    | ad a => exact e2
    | sd s => exact RepS.mono le sF _ _ e2
  · obtain ⟨a, o, e1, e2, e3, e4, e5⟩ := T.sto n b e
    exact ⟨a, o, e1, e2, eN a e3, e4, e5⟩
  · obtain ⟨a', e1, ow⟩ := S.sim.own i m h1
    rw [h3] at e1; cases e1
    obtain ⟨o, e2, e3⟩ := ow.here
    obtain ⟨x, o', g1, g2, g3, g4, g5⟩ := T.sto n b h2
    rw [h4] at g1; cases g1
    rw [ownH i m a h1 h3, e2] at g3; cases g3
end
def callSEnd (r : RS (SD × Sto)) (st : Sts) : RS (SD × S2) := match r with
  | .ok (v, μ) => .ok (v, st, μ)
  | _ => .no
def zCall1 (run : FnS) (p : List SD × S2) : RS (SD × S2) := callSEnd (run p.1 p.2.2) p.2.1
/-- a def over the store is called -/
def zCall (run : FnS) (f : SA) : SE := fun s => (f s).bind (zCall1 run)
section
variable {X : Cx} {W : Wx} {pos p : Pos}
theorem up_callS {cls : Nat → Value} {run : FnS} {f : SA} : ∀ σ H Q, upE X.K W (zCall run f) σ H Q → tCall (spS X.K cls run) [] E0 (upR X.K W f) σ H Q := fun σ H Q ⟨E, φ, F, s, S, q⟩ => by
  refine zAE S q fun rs s1 vs φ1 F1 H1 a b S1 ar k => ?_
  rw [List.append_nil]
  have k : EndES X.K W E φ1 F1 σ (callSEnd (run rs s1.2) s1.1) Q := k
  refine ⟨restH φ1 s1.2 H1, φ1, F1, s1.2, rs, S1.lend, ar, ?_⟩
  cases hr : run rs s1.2 with
  | no => rw [hr] at k; exact k.elim
  | exc c st μ => rw [hr] at k; exact k.elim
  | ok r =>
    rw [hr] at k
    exact fun v φ' F' H' sF le T gr rr => k v φ' F' H' sF le (S1.took sF le T gr) rr
theorem be_call {cls : Nat → Value} {run : FnS} {f : SA} {x : Str} {e : Expr} {es : List Expr} {k : Nat} {fa : Addr} {fd : FuncData} {ps : List Str} (G : FnOk X.prog X.w X.K X.mg X.base CX0 k fa fd ps (spS X.K cls run)) (hr : Room k X.A) (hg : Gl X x) (hm : X.mg x = some (.ref fa)) (hk : PySem.W.keepIn X.K (.ref fa) = true) (hb : Binds X.K fd ps [])
    (ha : BA X W (e :: es) f) (hdb : (x == ("__debug__" : Str)) = false := by decide) (he : starEach (e :: es) X.env = (false, eval e X.env) :: starEach es X.env := by rfl) (hpl : (backTo pos (starEach es X.env)).any (·.1) = false := by rfl) :
    BE X W (.Call (.Name x p) (e :: es) [] pos) (zCall run f) := PE.imp (pe_call G hr hg hm hk hb .nil pass0 ha hdb he hpl) up_callS
end
/-! ## statements -/
def zNx : SS := fun s => .ok (.nx s)
def zSeq1 (b : SS) (fl : SFlow) : RS SFlow := match fl with
  | .nx s => b s
  | fl => .ok fl
def zSeq (a b : SS) : SS := fun s => (a s).bind (zSeq1 b)
def zAsg1 (i : Nat) (p : SD × S2) : RS SFlow := .ok (.nx (p.2.1.set i (slotS p.1), p.2.2))
def zAsg (i : Nat) (f : SE) : SS := fun s => (f s).bind (zAsg1 i)
def zRet1 (p : SD × S2) : RS SFlow := .ok (.rt p.1 p.2.2)
def zRet (f : SE) : SS := fun s => (f s).bind zRet1
def zRetN : SS := fun s => .ok (.rt (.fz .non) s.2)
def zDrop1 (p : SD × S2) : RS SFlow := .ok (.nx p.2)
def zDrop (f : SE) : SS := fun s => (f s).bind zDrop1
def zIf1 (a b : SS) (p : Bool × S2) : RS SFlow := if p.1 = true then a p.2 else b p.2
def zIf (t : SB) (a b : SS) : SS := fun s => (t s).bind (zIf1 a b)
def zBrk : SS := fun s => .ok (.bk s)
def zCnt : SS := fun s => .ok (.ct s)
section
variable {X : Cx} {W : Wx} {pos : Pos}
theorem bs_nil : BSs X W [] zNx := PSs.imp pss_nil fun D σ H ⟨E, φ, F, s, S, q⟩ => q σ φ F H (Same.refl _) (Le.refl _) S
theorem bs_cons {s : Stmt} {ss : List Stmt} {a b : SS} (ha : BS X W s a) (hb : BSs X W ss b) : BSs X W (s :: ss) (zSeq a b) := PSs.imp (pss_cons ha hb) fun D σ H ⟨E, φ, F, s, S, q⟩ => by
  refine ⟨E, φ, F, s, S, ?_⟩
  unfold zSeq at q
  cases e : a s with
  | no => rw [e] at q; exact q
  | exc c st μ => rw [e] at q; exact q
  | ok fl =>
    rw [e] at q
    cases fl with
    | nx s' => exact fun σ' φ' F' H' a' le S' => ⟨E, φ', F', s', S', EndSS.mono a' le q⟩
    | bk s' => exact q
    | ct s' => exact q
    | rt r μ => exact q
theorem bs_one {s : Stmt} {a : SS} (ha : BS X W s a) : BSs X W [s] a := pss_one ha
theorem bs_pass : BS X W (.Pass pos) zNx := PS.imp ps_pass fun D σ H ⟨E, φ, F, s, S, q⟩ => q σ φ F H (Same.refl _) (Le.refl _) S
theorem bs_brk : BS X W (.Break pos) zBrk := PS.imp ps_break fun D σ H ⟨E, φ, F, s, S, q⟩ => q σ φ F H (Same.refl _) (Le.refl _) S
theorem bs_cnt : BS X W (.Continue pos) zCnt := PS.imp ps_continue fun D σ H ⟨E, φ, F, s, S, q⟩ => q σ φ F H (Same.refl _) (Le.refl _) S
theorem bs_set {i : Nat} {x : Str} {e : Expr} {f : SE} {pos' : Pos} (hN : X.N.Nodup) (hi : X.N[i]? = some x) (hx : Loc X.env.scope x) (he : BE X W e f) (hs : swapsWith e (some (.Name x pos')) pos.line X.env = pure false := by rfl) (hf : X.fn x = true ∨ X.env.scope.names.lookup x = some .local := by first | exact .inl rfl | exact .inr rfl | assumption) :
    BS X W (.Assign [.Name x pos'] e pos) (zAsg i f) := PS.imp (ps_set hN hi hx he hs hf) fun D σ H ⟨E, φ, F, s, S, q⟩ => by
  refine zES S q fun r s1 v φ1 F1 H1 a b S1 vr k => ?_
  exact k _ φ1 F1 H1 (Same.refl _) (Le.refl _) (S1.setS vr)
theorem bs_ret {e : Expr} {f : SE} (he : BE X W e f) : BS X W (.Return (some e) pos) (zRet f) := PS.imp (ps_ret he) fun D σ H ⟨E, φ, F, s, S, q⟩ => by
  refine zES S q fun r s1 v φ1 F1 H1 a b S1 vr k => ?_
  exact k v s1.1 σ φ1 F1 H1 (Same.refl _) (Le.refl _) S1 vr
theorem bs_retN : BS X W (.Return none pos) zRetN := PS.imp ps_retN fun D σ H ⟨E, φ, F, s, S, q⟩ => q _ s.1 σ φ F H (Same.refl _) (Le.refl _) S rfl
theorem bs_expr {e : Expr} {f : SE} (he : BE X W e f) (hs : swapsWith e none pos.line X.env = pure false := by rfl) : BS X W (.Expr e pos) (zDrop f) := PS.imp (ps_expr he hs) fun D σ H ⟨E, φ, F, s, S, q⟩ => by
  refine zES S q fun r s1 v φ1 F1 H1 a b S1 vr k => ?_
  exact k σ φ1 F1 H1 (Same.refl _) (Le.refl _) S1
theorem bs_if {c : Expr} {a b : List Stmt} {t : SB} {f g : SS} (hc : BT X W c t) (ha : BSs X W a f) (hb : BSs X W b g) : BS X W (.If c a b pos) (zIf t f g) := PS.imp (ps_if hc ha hb) fun D σ H ⟨E, φ, F, s, S, q⟩ => by
  refine zTS S q fun r s1 φ1 F1 H1 a b S1 k => ?_
  cases r with
  | true => rw [if_pos rfl]; exact ⟨E, φ1, F1, s1, S1, k⟩
  | false => rw [if_neg Bool.false_ne_true]; exact ⟨E, φ1, F1, s1, S1, k⟩
/-! ### d[k] = v -/
def zPutE (b : Option (Option Ob)) (n : Nat) (v k : SD) (s : S2) : RS SFlow := match b, k with
  | some (some (.dct ks vs)), .fz kd => match keyD kd with
    | some _ => if ks.length < 16777216 then .ok (.nx (s.1, s.2.set n (some (.dct (putG ks vs kd v).1 (putG ks vs kd v).2)))) else .no
    | none => .no
  | _, _ => .no
def zPut3 (v x : SD) (q : SD × S2) : RS SFlow := match x with
  | .lab n => zPutE (q.2.2[n]?) n v q.1 q.2
  | _ => .no
def zPut2 (fk : SE) (v : SD) (q : SD × S2) : RS SFlow := (fk q.2).bind (zPut3 v q.1)
def zPut1 (fo fk : SE) (p : SD × S2) : RS SFlow := (fo p.2).bind (zPut2 fk p.1)
def zPut (fv fo fk : SE) : SS := fun s => (fv s).bind (zPut1 fo fk)
theorem zput_inv {K : PySem.W.Frag} {E : Ent} {φ : List Addr} {F : Hp} {D : Ends} {v x k : SD} {s : S2} (q : EndSS K W E φ F (zPut3 v x (k, s)) D) :
    ∃ n ks vs kd κ, x = .lab n ∧ k = .fz kd ∧ s.2[n]? = some (some (.dct ks vs)) ∧ keyD kd = some κ ∧ ks.length < 16777216 ∧ EndSS K W E φ F (.ok (.nx (s.1, s.2.set n (some (.dct (putG ks vs kd v).1 (putG ks vs kd v).2))))) D := by
  unfold zPut3 at q
  cases x with
  | fz _ => exact q.elim
  | tup _ => exact q.elim
  | lab n =>
    have q : EndSS K W E φ F (zPutE (s.2[n]?) n v k s) D := q
    unfold zPutE at q
    split at q
    · rename_i ks vs kd h1 _
      cases ek : keyD kd with
      | none => simp only [ek] at q; exact q.elim
      | some κ =>
        simp only [ek] at q
        by_cases hl : ks.length < 16777216
        · rw [if_pos hl] at q
          exact ⟨n, ks, vs, kd, κ, rfl, rfl, h1, ek, hl, q⟩
        · rw [if_neg hl] at q; exact q.elim
    · exact q.elim
theorem bs_put {o e ix : Expr} {fv fo fk : SE} {pos' : Pos} (hu : X.A.units + 1 < cLine) (ho : BE X W o fo) (he : BE X W e fv) (hi : BE X W ix fk) (hs : swapsWith e (some (.Subscript o ix pos')) pos.line X.env = pure false := by rfl) :
    BS X W (.Assign [.Subscript o ix pos'] e pos) (zPut fv fo fk) := PS.imp (ps_dput hu ho hi he hs) fun D σ H ⟨E, φ, F, s, S, q⟩ => by
  refine zES S q fun v s1 vv φ1 F1 H1 a1 b1 S1 vr q1 => ?_
  refine zES S1 q1 fun x s2 xv φ2 F2 H2 a2 b2 S2 xr q2 => ?_
  refine zES S2 q2 fun k s3 kv φ3 F3 H3 a3 b3 S3 kr q3 => ?_
  obtain ⟨n, ks, vs, kd, κ, rfl, rfl, eo, ek, hl, q4⟩ := zput_inv q3
  obtain ⟨ad, o', h1, h2, h3, kvs, rfl, r1, r2⟩ := S3.at_ eo (RepS.mono b3 a3 _ _ xr)
  obtain ⟨ey, rk⟩ := key_rep (H := F3) (.inl kr) ek
  subst ey
  have hlen : kvs.length = ks.length := by
    have := r1.length
    rw [List.length_map] at this
    exact this
  refine ⟨ad, _, h1, DPut.k h3 (by rw [hlen, sizeLine_eq]; exact hl), ?_⟩
  exact q4 σ φ3 F3 _ (Same.refl _) (Le.refl _) (S3.write eo h2 (oat_put ek rk (RepS.mono (b2.trans b3) (a2.trans a3) _ _ vr) r1 r2))
/-! ## targets -/
abbrev SG := SD → S2 → Option S2
def zgN (i : Nat) : SG := fun d s => some (s.1.set i (slotS d), s.2)
def upGZ (K : PySem.W.Frag) (g : SG) : TG := fun v σ H Q => ∃ E φ F s d s', SimS K E φ F H s.1 s.2 σ ∧ RepS K φ F d v ∧ g d s = some s' ∧ ∀ σ' φ' F' H', Same F F' → Le φ φ' → SimS K E φ' F' H' s'.1 s'.2 σ' → Q σ' H'
abbrev BG (X : Cx) (e : Expr) (g : SG) : Prop := PG X e (upGZ X.K g)
theorem bg_name {i : Nat} {x : Str} (hN : X.N.Nodup) (hi : X.N[i]? = some x) (hx : Loc X.env.scope x) (hf : X.fn x = true ∨ X.env.scope.names.lookup x = some .local := by first | exact .inl rfl | exact .inr rfl | assumption) : BG X (.Name x pos) (zgN i) :=
  PG.imp (pg_name hN hi hx hf) fun v σ H Q ⟨E, φ, F, s, d, s', S, r, e, q⟩ => by
    cases e
    exact q _ φ F H (Same.refl _) (Le.refl _) (S.setS r)
def zgsRun : List SG → List SD → S2 → Option S2
  | [], [], s => some s
  | g :: gs, d :: ds, s => (g d s).bind (zgsRun gs ds)
  | _, _, _ => none
def zgT (gs : List SG) : SG := fun d s => match d with
  | .tup ds => zgsRun gs ds s
  | .fz (.tup ds) => zgsRun gs (ds.map .fz) s
  | _ => none
def upGZs (K : PySem.W.Frag) (gs : List SG) : TGs := fun vs σ H Q => ∃ E φ F s ds s', SimS K E φ F H s.1 s.2 σ ∧ RepsS K φ F ds vs ∧ zgsRun gs ds s = some s' ∧ ∀ σ' φ' F' H', Same F F' → Le φ φ' → SimS K E φ' F' H' s'.1 s'.2 σ' → Q σ' H'
abbrev BGs (X : Cx) (es : List Expr) (gs : List SG) : Prop := PGs X es (upGZs X.K gs)
theorem bgs_nil : BGs X [] [] := PGs.imp pgs_nil fun vs σ H Q ⟨E, φ, F, s, ds, s', S, r, e, q⟩ => by
  cases ds with
  | nil =>
    cases e
    exact ⟨r, q σ φ F H (Same.refl _) (Le.refl _) S⟩
  | cons d ds => cases e
theorem bgs_cons {e : Expr} {es : List Expr} {g : SG} {gs : List SG} (h1 : BG X e g) (h2 : BGs X es gs) (hs : (assignEach (e :: es) X.env).map (·.2) = assign e X.env :: (assignEach es X.env).map (·.2) := by rfl) : BGs X (e :: es) (g :: gs) :=
  PGs.imp (pgs_cons h1 h2 hs) fun vs σ H Q ⟨E, φ, F, s, ds, s', S, r, e, q⟩ => by
    cases ds with
    | nil => cases e
    | cons d ds =>
      obtain ⟨v, us, e1, r1, r2⟩ := r
      obtain ⟨s1, e2, e3⟩ := Option.bind_eq_some_iff.mp e
      exact ⟨v, us, e1, E, φ, F, s, d, s1, S, r1, e2, fun σ' φ' F' H' a b S' => ⟨E, φ', F', s1, ds, s', S', RepsS.mono b a _ _ r2, e3, fun σ2 φ2 F2 H2 a2 b2 S2 => q σ2 φ2 F2 H2 (a.trans a2) (b.trans b2) S2⟩⟩
theorem zgsRun_len : ∀ {gs : List SG} {ds : List SD} {s s' : S2}, zgsRun gs ds s = some s' → ds.length = gs.length
  | [], [], _, _, _ => rfl
  | [], _ :: _, _, _, e => by cases e
  | _ :: _, [], _, _, e => by cases e
  | g :: gs, d :: ds, s, s', e => by
    obtain ⟨s1, e2, e3⟩ := Option.bind_eq_some_iff.mp e
    show ds.length + 1 = gs.length + 1
    rw [zgsRun_len e3]
theorem bg_tup {es : List Expr} {k : Nat} {gs : List SG} (hc : X.calm = true) (h : BGs X es gs) (hn : (assignEach es X.env).length = gs.length := by rfl) (hst : (assignEach es X.env).findIdx? (·.1) = none := by rfl) : BG X (.Tuple es k pos) (zgT gs) :=
  PG.imp (pg_tup hc h hn hst) fun v σ H Q ⟨E, φ, F, s, d, s', S, r, e, q⟩ => by
    cases d with
    | lab n => cases e
    | tup ds =>
      obtain ⟨a, vs, e1, sq, rs⟩ := r
      exact ⟨a, vs, e1, SqT.of (S.sim.sub _ _ sq), by rw [rs.length]; exact zgsRun_len e, E, φ, F, s, ds, s', S, rs, e, q⟩
    | fz d =>
      cases d with
      | tup ds =>
        obtain ⟨a, vs, e1, sq, rs⟩ := r
        have rs' : RepsS X.K φ F (ds.map .fz) vs := rs.s
        exact ⟨a, vs, e1, SqT.of (S.sim.sub _ _ sq), by rw [rs'.length]; exact zgsRun_len (show zgsRun gs (ds.map .fz) s = some s' from e), E, φ, F, s, _, s', S, rs', e, q⟩
      | _ => cases e
def zAsgG1 (g : SG) (p : SD × S2) : RS SFlow := match g p.1 p.2 with
  | some s => .ok (.nx s)
  | none => .no
/-- a, b = e -/
def zAsgG (g : SG) (f : SE) : SS := fun s => (f s).bind (zAsgG1 g)
theorem bs_asg {tg e : Expr} {f : SE} {g : SG} (he : BE X W e f) (hg : BG X tg g) (hs : swapsWithSole [tg] e pos.line X.env = pure false := by rfl) (hw : swappedStores [tg] e X.env = pure none := by rfl)
    (h1 : (assignEach [tg] X.env).map (·.2) = [assign tg X.env] := by rfl) : BS X W (.Assign [tg] e pos) (zAsgG g f) := PS.imp (ps_asg he hg hs hw h1) fun D σ H ⟨E, φ, F, s, S, q⟩ => by
  refine zES S q fun r s1 v φ1 F1 H1 a b S1 vr k => ?_
  unfold zAsgG1 at k
  cases e : g r s1 with
  | none => simp only [e] at k; exact k.elim
  | some s' =>
    simp only [e] at k
    exact ⟨E, φ1, F1, s1, r, s', S1, vr, e, fun σ' φ' F' H' c d S' => k σ' φ' F' H' c d S'⟩
end
end Vl
/-! # loops and contracts over a store -/
namespace Vl
open PySem PySem.Spec PyProof.Rows L2
def zturn (k : S2 → RS SFlow) (fl : SFlow) : RS SFlow := match fl with
  | .nx s => k s
  | .ct s => k s
  | .bk s => .ok (.nx s)
  | .rt v μ => .ok (.rt v μ)
def zstep (o : Option S2) (body : SS) (k : S2 → RS SFlow) : RS SFlow := match o with
  | none => .no
  | some s1 => (body s1).bind (zturn k)
/-- chk: what is walked stands as it was -/
def zloop (g : SG) (body : SS) (chk : Sto → Bool) : List SD → S2 → RS SFlow
  | [], s => if chk s.2 = true then .ok (.nx s) else .no
  | d :: ds, s => if chk s.2 = true then zstep (g d s) body (zloop g body chk ds) else .no
section
variable {K : PySem.W.Frag} {W : Wx} {E : Ent} {φ : List Addr} {F H : Hp} {σ : L2.St}
theorem zloop_turn {g : SG} {body : SS} {chk : Sto → Bool} {d : SD} {ds : List SD} {s : S2} {D : Ends} {N : L2.St → Hp → Prop} (h : EndSS K W E φ F (zloop g body chk (d :: ds) s) D)
    (hN : ∀ s2 σ' φ' F' H', Same F F' → Le φ φ' → SimS K E φ' F' H' s2.1 s2.2 σ' → EndSS K W E φ' F' (zloop g body chk ds s2) D → N σ' H') :
    chk s.2 = true ∧ ∃ s1, g d s = some s1 ∧ EndSS K W E φ F (body s1) { D with nx := N, ct := N, bk := D.nx } := by
  have h : EndSS K W E φ F (if chk s.2 = true then zstep (g d s) body (zloop g body chk ds) else .no) D := h
  by_cases hc : chk s.2 = true
  · rw [if_pos hc] at h
    refine ⟨hc, ?_⟩
    cases e : g d s with
    | none => rw [e] at h; exact h.elim
    | some s1 =>
      rw [e] at h
      refine ⟨s1, rfl, ?_⟩
      have h : EndSS K W E φ F ((body s1).bind (zturn (zloop g body chk ds))) D := h
      cases e2 : body s1 with
      | no => rw [e2] at h; exact h
      | exc c st μ => rw [e2] at h; exact h
      | ok fl =>
        rw [e2] at h
        cases fl with
        | nx s2 => exact fun σ' φ' F' H' a b S' => hN s2 σ' φ' F' H' a b S' (EndSS.mono a b h)
        | ct s2 => exact fun σ' φ' F' H' a b S' => hN s2 σ' φ' F' H' a b S' (EndSS.mono a b h)
        | bk s2 => exact h
        | rt r μ => exact h
  · rw [if_neg hc] at h; exact h.elim
theorem zloop_end {g : SG} {body : SS} {chk : Sto → Bool} {s : S2} {D : Ends} (h : EndSS K W E φ F (zloop g body chk [] s) D) : chk s.2 = true ∧ EndSS K W E φ F (.ok (.nx s)) D := by
  have h : EndSS K W E φ F (if chk s.2 = true then .ok (.nx s) else .no) D := h
  by_cases hc : chk s.2 = true
  · rw [if_pos hc] at h; exact ⟨hc, h⟩
  · rw [if_neg hc] at h; exact h.elim
def LoopZ (K : PySem.W.Frag) (W : Wx) (E : Ent) (φ : List Addr) (F : Hp) (g : SG) (body : SS) (chk : Sto → Bool) (ds : List SD) (D : Ends) (i m : Nat) (σ : L2.St) (H : Hp) : Prop :=
  ∃ φ2 F2 s2, Same F F2 ∧ Le φ φ2 ∧ SimS K E φ2 F2 H s2.1 s2.2 σ ∧ EndSS K W E φ2 F2 (zloop g body chk (ds.drop i) s2) D ∧ m = ds.length - i ∧ i ≤ ds.length
theorem zloop_rule {g : SG} {body : SS} {chk : Sto → Bool} {ds : List SD} {D : Ends} {s : S2} {J : It} (S : SimS K E φ F H s.1 s.2 σ) (h : EndSS K W E φ F (zloop g body chk ds s) D)
    (hgo : ∀ (i : Nat) (d : SD) (φ2 : List Addr) (F2 H2 : Hp) (s2 : S2) (σ2 : L2.St), Same F F2 → Le φ φ2 → SimS K E φ2 F2 H2 s2.1 s2.2 σ2 → chk s2.2 = true → ds[i]? = some d → J.go i H2 ∧ ∀ x H', J.yld i H2 x H' → H' = H2 ∧ RepS K φ2 F2 d x)
    (hstop : ∀ (i : Nat) (φ2 : List Addr) (F2 H2 : Hp) (s2 : S2) (σ2 : L2.St), Same F F2 → Le φ φ2 → SimS K E φ2 F2 H2 s2.1 s2.2 σ2 → chk s2.2 = true → ds.length ≤ i → J.stop i H2) :
    ∃ Wl : Nat → Nat → L2.St → Hp → Prop, (∃ m, Wl 0 m σ H) ∧ ∀ i m σ H, Wl i m σ H → (J.stop i H ∧ D.nx σ H) ∨
      (J.go i H ∧ ∃ N : L2.St → Hp → Prop, (∀ σ' H', N σ' H' → ∃ m', m' < m ∧ Wl (i + 1) m' σ' H') ∧ ∀ x H', J.yld i H x H' → upGZ K g x σ H' fun σ2 H2 => upZ K W body { D with nx := N, ct := N, bk := D.nx } σ2 H2) := by
  refine ⟨LoopZ K W E φ F g body chk ds D, ⟨ds.length, φ, F, s, Same.refl _, Le.refl _, S, h, by simp, Nat.zero_le _⟩, ?_⟩
  rintro i m σ' H' ⟨φ2, F2, s2, sF, le, S2, q, rfl, hi⟩
  by_cases hlt : i < ds.length
  · have ed : ds.drop i = ds[i] :: ds.drop (i + 1) := List.drop_eq_getElem_cons hlt
    rw [ed] at q
    obtain ⟨hc, s3, e1, q1⟩ := zloop_turn (N := fun σ' H' => LoopZ K W E φ F g body chk ds D (i + 1) (ds.length - (i + 1)) σ' H') q fun s3 σ3 φ3 F3 H3 a3 b3 S3 k3 => ⟨φ3, F3, s3, sF.trans a3, le.trans b3, S3, k3, rfl, hlt⟩
    obtain ⟨go, yl⟩ := hgo i ds[i] φ2 F2 H' s2 σ' sF le S2 hc (List.getElem?_eq_getElem hlt)
    refine .inr ⟨go, fun σ' H' => LoopZ K W E φ F g body chk ds D (i + 1) (ds.length - (i + 1)) σ' H', fun σ' H' n => ⟨_, by omega, n⟩, fun x H3 y => ?_⟩
    obtain ⟨e3, rx⟩ := yl x H3 y
    subst e3
    exact ⟨E, φ2, F2, s2, ds[i], s3, S2, rx, e1, fun σ4 φ4 F4 H4 a4 b4 S4 => ⟨E, φ4, F4, s3, S4, EndSS.mono a4 b4 q1⟩⟩
  · have ei : i = ds.length := by omega
    have ed : ds.drop i = [] := List.drop_eq_nil_of_le (by omega)
    rw [ed] at q
    obtain ⟨hc, q⟩ := zloop_end q
    exact .inl ⟨hstop i φ2 F2 H' s2 σ' sF le S2 hc (by omega), q σ' φ2 F2 H' (Same.refl _) (Le.refl _) S2⟩
end
def yes1 : Sto → Bool := fun _ => true
/-- the list is as it was -/
def asWas (n : Nat) (ds : List SD) (μ : Sto) : Bool := decide (μ[n]? = some (some (.lst ds)))
def zForL (g : SG) (body : SS) (b : Option (Option Ob)) (n : Nat) (s : S2) : RS SFlow := match b with
  | some (some (.lst ds)) => zloop g body (asWas n ds) ds s
  | _ => .no
def zForF (g : SG) (body : SS) (o : Option (List D)) (s : S2) : RS SFlow := match o with
  | some ds => zloop g body yes1 (ds.map .fz) s
  | none => .no
def zFor1 (g : SG) (body : SS) (p : SD × S2) : RS SFlow := match p.1 with
  | .fz d => zForF g body (itemsOf d) p.2
  | .lab n => zForL g body (p.2.2[n]?) n p.2
  | .tup ds => zloop g body yes1 ds p.2
def zFor (f : SE) (g : SG) (body : SS) : SS := fun s => (f s).bind (zFor1 g body)
def iz (K : PySem.W.Frag) (W : Wx) (f : SE) : TI := fun σ H Rr => ∃ E φ F s, SimS K E φ F H s.1 s.2 σ ∧ match f s with
  | .ok (r, s') => ∀ v φ' F' H', Same F F' → Le φ φ' → SimS K E φ' F' H' s'.1 s'.2 σ → RepS K φ' F' r v → (match r with
    | .fz (.lst _) => ∃ a vs, v = .ref a ∧ SqL K H' a vs ∧ Rr (Itl K a) H'
    | .fz (.tup _) => ∃ a vs, v = .ref a ∧ SqT K H' a vs ∧ Rr (Itt K a) H'
    | .fz (.str x) => v = .str (tx x) ∧ Rr (Its (tx x)) H'
    | .lab _ => ∃ a vs, v = .ref a ∧ SqL K H' a vs ∧ Rr (Itl K a) H'
    | .tup _ => ∃ a vs, v = .ref a ∧ SqT K H' a vs ∧ Rr (Itt K a) H'
    | _ => False)
  | .exc c st μ => ∀ φ' F' H', Same F F' → Le φ φ' → SimS K E φ' F' H' st μ σ → W c σ H'
  | .no => False
section
variable {X : Cx} {W : Wx} {pos : Pos}
theorem pi_z {tg e : Expr} {f : SE} (h : BE X W e f) : PI X tg e (iz X.K W f) := by
  refine ⟨fun pins s σ H Rr I q => ?_⟩
  obtain ⟨E, φ, F, s0, S, q⟩ := q
  have lst : ∀ (r : SD) (s' : S2), f s0 = .ok (r, s') → (∀ v φ' F' H', Same F F' → Le φ φ' → SimS X.K E φ' F' H' s'.1 s'.2 σ → RepS X.K φ' F' r v → ∃ a vs, v = .ref a ∧ SqL X.K H' a vs ∧ Rr (Itl X.K a) H') → iList X.K (upE X.K W f) σ H Rr := fun r s' e k => by
    refine ⟨E, φ, F, s0, S, ?_⟩
    rw [e]
    intro v φ' F' H' a b S' vr
    obtain ⟨ad, vs, ev, sq, rr⟩ := k v φ' F' H' a b S' vr
    exact ⟨ad, ev, ⟨vs, sq⟩, rr⟩
  have tup : ∀ (r : SD) (s' : S2), f s0 = .ok (r, s') → (∀ v φ' F' H', Same F F' → Le φ φ' → SimS X.K E φ' F' H' s'.1 s'.2 σ → RepS X.K φ' F' r v → ∃ a vs, v = .ref a ∧ SqT X.K H' a vs ∧ Rr (Itt X.K a) H') → iTup X.K (upE X.K W f) σ H Rr := fun r s' e k => by
    refine ⟨E, φ, F, s0, S, ?_⟩
    rw [e]
    intro v φ' F' H' a b S' vr
    obtain ⟨ad, vs, ev, sq, rr⟩ := k v φ' F' H' a b S' vr
    exact ⟨ad, ev, ⟨vs, sq⟩, rr⟩
  cases e1 : f s0 with
  | no => rw [e1] at q; exact q.elim
  | exc c st μ =>
    rw [e1] at q
    exact (pi_list h).run pins s σ H Rr I ⟨E, φ, F, s0, S, by rw [e1]; exact q⟩
  | ok p =>
    rw [e1] at q
    obtain ⟨r, s'⟩ := p
    cases r with
    | lab n => exact (pi_list h).run pins s σ H Rr I (lst _ _ e1 q)
    | tup ds => exact (pi_tup h).run pins s σ H Rr I (tup _ _ e1 q)
    | fz d =>
      cases d with
      | lst ds => exact (pi_list h).run pins s σ H Rr I (lst _ _ e1 q)
      | tup ds => exact (pi_tup h).run pins s σ H Rr I (tup _ _ e1 q)
      | str x =>
        refine (pi_str h).run pins s σ H Rr I ⟨E, φ, F, s0, S, ?_⟩
        rw [e1]
        intro v φ' F' H' a b S' vr
        have q' := q v φ' F' H' a b S' vr
        exact ⟨_, q'.1, q'.2⟩
      | non => exact (pi_list h).run pins s σ H Rr I (lst _ _ e1 fun v φ' F' H' a b S' vr => (q v φ' F' H' a b S' vr).elim)
      | bl c => exact (pi_list h).run pins s σ H Rr I (lst _ _ e1 fun v φ' F' H' a b S' vr => (q v φ' F' H' a b S' vr).elim)
      | int c => exact (pi_list h).run pins s σ H Rr I (lst _ _ e1 fun v φ' F' H' a b S' vr => (q v φ' F' H' a b S' vr).elim)
      | dct _ _ => exact (pi_list h).run pins s σ H Rr I (lst _ _ e1 fun v φ' F' H' a b S' vr => (q v φ' F' H' a b S' vr).elim)
      | dcu _ _ => exact (pi_list h).run pins s σ H Rr I (lst _ _ e1 fun v φ' F' H' a b S' vr => (q v φ' F' H' a b S' vr).elim)
      | ins _ _ _ => exact (pi_list h).run pins s σ H Rr I (lst _ _ e1 fun v φ' F' H' a b S' vr => (q v φ' F' H' a b S' vr).elim)
theorem bs_for {tg e : Expr} {ss : List Stmt} {f : SE} {g : SG} {body : SS} (hp : PassesOwn (model X.prog X.w) X.A X.env X.xe) (hc : X.calm = true) (he : BE X W e f) (hg : BG X tg g) (hb : BSs X W ss body)
    (hs : ∀ x, foldedSetIterable e X.env x = pure x := by intro _; rfl) : BS X W (.For tg e ss [] pos) (zFor f g body) := PS.imp (ps_for hp hc (pi_z he) hg hb hs) fun D σ H ⟨E, φ, F, s, S, q⟩ => by
  refine ⟨E, φ, F, s, S, ?_⟩
  unfold zFor at q
  cases e1 : f s with
  | no => rw [e1] at q; exact q
  | exc c st μ => rw [e1] at q; exact q σ
  | ok p =>
    rw [e1] at q
    obtain ⟨r, s1⟩ := p
    have q : EndSS X.K W E φ F (zFor1 g body (r, s1)) D := q
    intro v φ1 F1 H1 a1 b1 S1 vr
    have seqL : ∀ (ad : Addr) (vs : List V) (ds : List SD), (∀ (φ2 : List Addr) (F2 H2 : Hp) (s2 : S2) (σ2 : L2.St), Same F1 F2 → Le φ1 φ2 → SimS X.K E φ2 F2 H2 s2.1 s2.2 σ2 → SqL X.K H2 ad vs) → RepsS X.K φ1 F1 ds vs → EndSS X.K W E φ F (zloop g body yes1 ds s1) D →
        ∃ Wl : Nat → Nat → L2.St → Hp → Prop, (∃ m, Wl 0 m σ H1) ∧ ∀ i m σ H, Wl i m σ H → ((Itl X.K ad).stop i H ∧ D.nx σ H) ∨
          ((Itl X.K ad).go i H ∧ ∃ N : L2.St → Hp → Prop, (∀ σ' H', N σ' H' → ∃ m', m' < m ∧ Wl (i + 1) m' σ' H') ∧ ∀ x H', (Itl X.K ad).yld i H x H' → upGZ X.K g x σ H' fun σ2 H2 => upZ X.K W body { D with nx := N, ct := N, bk := D.nx } σ2 H2) := fun ad vs ds hl rs q => by
      refine zloop_rule (J := Itl X.K ad) S1 (EndSS.mono a1 b1 q) (fun i d φ2 F2 H2 s2 σ2 a b S2 _ hd => ?_) (fun i φ2 F2 H2 s2 σ2 a b S2 _ hl' => ?_)
      · obtain ⟨w, ew, rw'⟩ := RepsS.get rs hd
        have sq := hl φ2 F2 H2 s2 σ2 a b S2
        exact ⟨⟨vs, w, sq, ew⟩, fun x H' ⟨y1, y2⟩ => ⟨y1, by
          have := y2 vs sq
          rw [ew] at this
          cases this
          exact RepS.mono b a _ _ rw'⟩⟩
      · exact ⟨vs, hl φ2 F2 H2 s2 σ2 a b S2, by rw [rs.length]; exact hl'⟩
    have seqT : ∀ (ad : Addr) (vs : List V) (ds : List SD), (∀ (φ2 : List Addr) (F2 H2 : Hp) (s2 : S2) (σ2 : L2.St), Same F1 F2 → Le φ1 φ2 → SimS X.K E φ2 F2 H2 s2.1 s2.2 σ2 → SqT X.K H2 ad vs) → RepsS X.K φ1 F1 ds vs → EndSS X.K W E φ F (zloop g body yes1 ds s1) D →
        ∃ Wl : Nat → Nat → L2.St → Hp → Prop, (∃ m, Wl 0 m σ H1) ∧ ∀ i m σ H, Wl i m σ H → ((Itt X.K ad).stop i H ∧ D.nx σ H) ∨
          ((Itt X.K ad).go i H ∧ ∃ N : L2.St → Hp → Prop, (∀ σ' H', N σ' H' → ∃ m', m' < m ∧ Wl (i + 1) m' σ' H') ∧ ∀ x H', (Itt X.K ad).yld i H x H' → upGZ X.K g x σ H' fun σ2 H2 => upZ X.K W body { D with nx := N, ct := N, bk := D.nx } σ2 H2) := fun ad vs ds hl rs q => by
      refine zloop_rule (J := Itt X.K ad) S1 (EndSS.mono a1 b1 q) (fun i d φ2 F2 H2 s2 σ2 a b S2 _ hd => ?_) (fun i φ2 F2 H2 s2 σ2 a b S2 _ hl' => ?_)
      · obtain ⟨w, ew, rw'⟩ := RepsS.get rs hd
        have sq := hl φ2 F2 H2 s2 σ2 a b S2
        exact ⟨⟨vs, w, sq, ew⟩, fun x H' ⟨y1, y2⟩ => ⟨y1, by
          have := y2 vs sq
          rw [ew] at this
          cases this
          exact RepS.mono b a _ _ rw'⟩⟩
      · exact ⟨vs, hl φ2 F2 H2 s2 σ2 a b S2, by rw [rs.length]; exact hl'⟩
    cases r with
    | tup ds =>
      obtain ⟨ad, vs, e2, rd, rs⟩ := vr
      refine ⟨ad, vs, e2, SqT.of (S1.sim.sub _ _ rd), ?_⟩
      exact seqT ad vs ds (fun φ2 F2 H2 s2 σ2 a b S2 => SqT.of (S2.sim.sub _ _ (a _ _ rd))) rs q
    | lab n =>
      have q : EndSS X.K W E φ F (zForL g body (s1.2[n]?) n s1) D := q
      unfold zForL at q
      split at q
      · rename_i ds eo
        obtain ⟨ad, o, rfl, h2, h3, vs, rfl, rs⟩ := S1.at_ eo vr
        refine ⟨ad, vs, rfl, SqL.of h3, ?_⟩
        refine zloop_rule (J := Itl X.K ad) S1 (EndSS.mono a1 b1 q) (fun i d φ2 F2 H2 s2 σ2 a b S2 hc hd => ?_) (fun i φ2 F2 H2 s2 σ2 a b S2 hc hl' => ?_)
        · have eo2 : s2.2[n]? = some (some (.lst ds)) := of_decide_eq_true hc
          obtain ⟨ad2, o2, e2, g2, g3, vs2, rfl, rs2⟩ := S2.at_ eo2 (v := .ref ad) ⟨ad, b _ _ h2, rfl⟩
          cases e2
          obtain ⟨w, ew, rw'⟩ := RepsS.get rs2 hd
          exact ⟨⟨vs2, w, SqL.of g3, ew⟩, fun x H' ⟨y1, y2⟩ => ⟨y1, by
            have := y2 vs2 (SqL.of g3)
            rw [ew] at this
            cases this
            exact rw'⟩⟩
        · have eo2 : s2.2[n]? = some (some (.lst ds)) := of_decide_eq_true hc
          obtain ⟨ad2, o2, e2, g2, g3, vs2, rfl, rs2⟩ := S2.at_ eo2 (v := .ref ad) ⟨ad, b _ _ h2, rfl⟩
          cases e2
          exact ⟨vs2, SqL.of g3, by rw [rs2.length]; exact hl'⟩
      · exact q.elim
    | fz d =>
      have q : EndSS X.K W E φ F (zForF g body (itemsOf d) s1) D := q
      cases d with
      | lst es =>
        have q : EndSS X.K W E φ F (zloop g body yes1 (es.map .fz) s1) D := q
        obtain ⟨ad, vs, e2, rd, rs⟩ := vr
        refine ⟨ad, vs, e2, Same.seq S1.sim.sub rd, ?_⟩
        exact seqL ad vs _ (fun φ2 F2 H2 s2 σ2 a b S2 => Same.seq (a.trans S2.sim.sub) rd) rs.s q
      | tup es =>
        have q : EndSS X.K W E φ F (zloop g body yes1 (es.map .fz) s1) D := q
        obtain ⟨ad, vs, e2, rd, rs⟩ := vr
        refine ⟨ad, vs, e2, SqT.of (S1.sim.sub _ _ rd), ?_⟩
        exact seqT ad vs _ (fun φ2 F2 H2 s2 σ2 a b S2 => SqT.of (S2.sim.sub _ _ (a _ _ rd))) rs.s q
      | str z =>
        have q : EndSS X.K W E φ F (zloop g body yes1 ((z.map fun c => Vl.D.str [c]).map .fz) s1) D := q
        obtain ⟨e2, ok⟩ := vr
        refine ⟨e2, ?_⟩
        refine zloop_rule (J := Its (tx z)) S1 (EndSS.mono a1 b1 q) (fun i d φ2 F2 H2 s2 σ2 a b S2 _ hd => ?_) (fun i φ2 F2 H2 s2 σ2 a b S2 _ hl => ?_)
        · rw [List.getElem?_map, List.getElem?_map] at hd
          obtain ⟨d2, e3, e4⟩ := Option.map_eq_some_iff.mp hd
          obtain ⟨c, e5, e6⟩ := Option.map_eq_some_iff.mp e3
          subst e4 e6
          obtain ⟨hlt, _⟩ := List.getElem?_eq_some_iff.mp e5
          refine ⟨by show i < z.toArray.size; simpa using hlt, fun x H' ⟨y1, c', y2, y3⟩ => ⟨y1, ?_⟩⟩
          have y2' : z.toArray[i]? = some c' := y2
          rw [List.getElem?_toArray, e5] at y2'
          cases y2'
          refine ⟨y3, ?_, fun c2 hc2 => ?_⟩
          · show 1 ≤ sizeLine
            decide
          · have hcc : c2 = c := by simpa using hc2
            subst hcc
            exact ok.2 _ (List.mem_of_getElem? e5)
        · show z.toArray.size ≤ i
          simpa using hl
      | non => exact q.elim
      | bl c => exact q.elim
      | int c => exact q.elim
      | dct _ _ => exact q.elim
      | dcu _ _ => exact q.elim
      | ins _ _ _ => exact q.elim
/-! ### over a range -/
def zForR1' (g : SG) (body : SS) (ds : List SD) (s : S2) : RS SFlow := match ds with
  | [.fz (.int n)] => if bigI n then zloop g body yes1 ((rangeD 0 n.toNat).map .fz) s else .no
  | _ => .no
def zForR1a (g : SG) (body : SS) (p : List SD × S2) : RS SFlow := zForR1' g body p.1 p.2
def zForR1 (f : SA) (g : SG) (body : SS) : SS := fun s => (f s).bind (zForR1a g body)
theorem zrange_rule {K : PySem.W.Frag} {E : Ent} {φ : List Addr} {F H : Hp} {g : SG} {body : SS} {D : Ends} {s : S2} {σ : L2.St} {lo : Int} {n : Nat} (S : SimS K E φ F H s.1 s.2 σ) (h : EndSS K W E φ F (zloop g body yes1 ((rangeD lo n).map .fz) s) D) :
    ∃ Wl : Nat → Nat → L2.St → Hp → Prop, (∃ m, Wl 0 m σ H) ∧ ∀ i m σ H, Wl i m σ H → ((Itr lo n).stop i H ∧ D.nx σ H) ∨
      ((Itr lo n).go i H ∧ ∃ N : L2.St → Hp → Prop, (∀ σ' H', N σ' H' → ∃ m', m' < m ∧ Wl (i + 1) m' σ' H') ∧ ∀ x H', (Itr lo n).yld i H x H' → upGZ K g x σ H' fun σ2 H2 => upZ K W body { D with nx := N, ct := N, bk := D.nx } σ2 H2) := by
  refine zloop_rule (J := Itr lo n) S h (fun i d φ2 F3 H3 s2 σ2 a b S2 _ hd => ?_) (fun i φ2 F3 H3 s2 σ2 a b S2 _ hl => ?_)
  · unfold rangeD at hd
    rw [List.getElem?_map, List.getElem?_map] at hd
    obtain ⟨d2, e3, e4⟩ := Option.map_eq_some_iff.mp hd
    obtain ⟨j, e1, e2⟩ := Option.map_eq_some_iff.mp e3
    obtain ⟨hlt, e5⟩ := List.getElem?_eq_some_iff.mp e1
    rw [List.getElem_range] at e5
    subst e5 e4 e2
    exact ⟨by show i < n; simpa using hlt, fun x H' ⟨y1, y2⟩ => ⟨y1, y2⟩⟩
  · show n ≤ i
    simpa [rangeD] using hl
theorem bs_forR1 {tg e : Expr} {ss : List Stmt} {f : SA} {g : SG} {body : SS} {p p2 : Pos} (hp : PassesOwn (model X.prog X.w) X.A X.env X.xe) (hc : X.calm = true) (hgl : Gl X "range") (hm : X.mg "range" = none) (he : BA X W [e] f) (hg : BG X tg g) (hb : BSs X W ss body)
    (hst : starEach [e] X.env = [(false, eval e X.env)] := by rfl) (hs : ∀ x, foldedSetIterable (.Call (.Name "range" p) [e] [] p2) X.env x = pure x := by intro _; rfl) : BS X W (.For tg (.Call (.Name "range" p) [e] [] p2) ss [] pos) (zForR1 f g body) :=
  PS.imp (ps_for hp hc (pi_range1 hgl hm he hst) hg hb hs) fun D σ H ⟨E, φ, F, s, S, q⟩ => by
    refine zAS S q fun rs s1 vs φ1 F1 H1 a b S1 ar k => ?_
    have k : EndSS X.K W E φ1 F1 (zForR1' g body rs s1) D := k
    unfold zForR1' at k
    split at k
    · rename_i n _
      obtain ⟨v, rfl, h⟩ := ar.one'
      have h : v = .int n := h
      subst h
      by_cases hn : bigI n = true
      · rw [if_pos hn] at k
        exact ⟨n, rfl, (bigI_ok hn).1, (bigI_ok hn).2, zrange_rule S1 k⟩
      · rw [if_neg hn] at k; exact k.elim
    · exact k.elim
/-! ### while: so many turns at most -/
def zWh (body : SS) (k : SS) (p : Bool × S2) : RS SFlow := if p.1 = true then (body p.2).bind (zturn k) else .ok (.nx p.2)
def zWhile (t : SB) (body : SS) : Nat → SS
  | 0 => fun _ => .no
  | n + 1 => fun s => (t s).bind (zWh body (zWhile t body n))
theorem bs_while {c : Expr} {ss : List Stmt} {t : SB} {body : SS} (n : Nat) (hp : PassesOwn (model X.prog X.w) X.A X.env X.xe) (hc : BT X W c t) (hb : BSs X W ss body) : BS X W (.While c ss [] pos) (zWhile t body n) :=
  PS.imp (ps_while hp hc hb) fun D σ H ⟨E, φ, F, s, S, q⟩ => by
    refine ⟨fun m σ' H' => ∃ φ2 F2 s2, SimS X.K E φ2 F2 H' s2.1 s2.2 σ' ∧ EndSS X.K W E φ2 F2 (zWhile t body m s2) D, ⟨n, φ, F, s, S, q⟩, ?_⟩
    rintro m σ' H' ⟨φ2, F2, s2, S2, q2⟩
    cases m with
    | zero => exact q2.elim
    | succ m =>
      refine zTS S2 (k := zWh body (zWhile t body m)) q2 fun r s3 φ3 F3 H3 a b S3 k => ?_
      have k : EndSS X.K W E φ3 F3 (if r = true then (body s3).bind (zturn (zWhile t body m)) else .ok (.nx s3)) D := k
      cases r with
      | false => rw [if_neg Bool.false_ne_true] at k ⊢; exact k σ' φ3 F3 H3 (Same.refl _) (Le.refl _) S3
      | true =>
        rw [if_pos rfl] at k ⊢
        refine ⟨fun σ4 H4 => ∃ φ4 F4 s4, SimS X.K E φ4 F4 H4 s4.1 s4.2 σ4 ∧ EndSS X.K W E φ4 F4 (zWhile t body m s4) D, fun σ4 H4 h => ⟨m, Nat.lt_succ_self m, h⟩, E, φ3, F3, s3, S3, ?_⟩
        cases e2 : body s3 with
        | no => rw [e2] at k; exact k
        | exc c st μ => rw [e2] at k; exact k
        | ok fl =>
          rw [e2] at k
          cases fl with
          | nx s4 => exact fun σ5 φ5 F5 H5 a5 b5 S5 => ⟨φ5, F5, s4, S5, EndSS.mono a5 b5 k⟩
          | ct s4 => exact fun σ5 φ5 F5 H5 a5 b5 S5 => ⟨φ5, F5, s4, S5, EndSS.mono a5 b5 k⟩
          | bk s4 => exact k
          | rt r μ => exact k
end
/-! ## contracts -/
def finS : RS SFlow → RS (SD × Sto)
  | .ok (.rt v μ) => .ok (v, μ)
  | .ok (.nx s) => .ok (.fz .non, s.2)
  | _ => .no
def runS (np nl : Nat) (body : SS) : FnS := fun ds μ => if ds.length = np then finS (body (ds.map slotS ++ List.replicate nl .no, μ)) else .no
def finOD (o : Option D) : R Val := match o with
  | some d => .ok (.fz d)
  | none => .no
def finO : RS SFlow → R Val
  | .ok (.rt v μ) => finOD (deep μ v)
  | .ok (.nx _) => .ok (.fz .non)
  | _ => .no
/-- a def over a store of its own: what it gives is frozen -/
def runO (np nl : Nat) (body : SS) : Fn := fun ds => if ds.length = np then finO (body (ds.map .val ++ List.replicate nl .no, [])) else .no
theorem slots_at {ds : List SD} {nl i : Nat} {x : Sl} (h : (ds.map slotS ++ List.replicate nl Sl.no)[i]? = some x) : x = .no ∨ ∃ d, ds[i]? = some d ∧ x = slotS d := by
  by_cases hi : i < ds.length
  · rw [List.getElem?_append_left (by simpa using hi), List.getElem?_map] at h
    obtain ⟨d, e1, e2⟩ := Option.map_eq_some_iff.mp h
    exact .inr ⟨d, e1, e2.symm⟩
  · rw [List.getElem?_append_right (by simpa using hi), List.getElem?_replicate] at h
    split at h <;> cases h
    exact .inl rfl
theorem slotS_own {d : SD} {m : M} (h : slotS d = .own m) : False := by cases d <;> cases h
theorem StoOk.start {K : PySem.W.Frag} {G : Hp} {φ : List Addr} {F H : Hp} {μ : Sto} {ds : List SD} {vs : List V} (T : StoOk K G φ F H μ) (h : RepsS K φ F ds vs) (nl : Nat) :
    SimS K { H := G, F := F } φ F H (ds.map slotS ++ List.replicate nl Sl.no) μ (vs.map some ++ List.replicate nl none) where
  sim := {
    sub := T.sub
    ent := T.ent
    fe := Same.refl _
    gr := fun a o e => .inl e
    len := by simp [h.length]
    val := fun i d e => by
      rcases slots_at e with e | ⟨d', e1, e2⟩
      · cases e
      · obtain ⟨v, e3, r⟩ := h.get e1
        have hi := (List.getElem?_eq_some_iff.mp e3).1
        refine ⟨v, ?_, ?_⟩
        · rw [List.getElem?_append_left (by rw [List.length_map]; exact hi), List.getElem?_map, e3]; rfl
        · cases d' <;> cases e2
          exact r
    own := fun i m e => by
      exfalso
      rcases slots_at e with e | ⟨d', e1, e2⟩
      · cases e
      · exact slotS_own e2.symm
    sep := fun i j m m' a hij e => by
      exfalso
      rcases slots_at e with e | ⟨d', e1, e2⟩
      · cases e
      · exact slotS_own e2.symm
    adr := fun i b e => by
      rcases slots_at e with e | ⟨d', e1, e2⟩
      · cases e
      · obtain ⟨v, e3, r⟩ := h.get e1
        have hi := (List.getElem?_eq_some_iff.mp e3).1
        refine ⟨v, ?_, ?_⟩
        · rw [List.getElem?_append_left (by rw [List.length_map]; exact hi), List.getElem?_map, e3]; rfl
        · cases d' with
          | fz _ => cases e2
          | lab n => cases e2; exact r
          | tup ds => cases e2; exact r }
  len := T.len
  sto := T.sto
  inj := T.inj
  sep := fun i n m b a e => by
    exfalso
    rcases slots_at e with e | ⟨d', e1, e2⟩
    · cases e
    · exact slotS_own e2.symm
theorem SimS.done {K : PySem.W.Frag} {E : Ent} {φ : List Addr} {F H : Hp} {st : Sts} {μ : Sto} {σ : L2.St} (S : SimS K E φ F H st μ σ) : StoOk K E.H φ F H μ :=
  ⟨S.sim.sub, S.sim.ent, S.len, S.sto, S.inj⟩
/-- THE RULE for a def over a store -/
theorem fn_okS {P : Program} {w : World} {K : PySem.W.Frag} {mg : Str → Option Value} {base : Heap} {x qual : Str} {s : Stmt} {f : Addr} {fd : FuncData} {N ps : List Str} {k : Nat} {cls : Nat → Value} {body : SS} (nl : Nat) (F : Fun K x qual s f fd) (Sc : FnScope N ps (defScope s)) (hN : N.length = ps.length + nl)
    (hb : ∀ (cdv : Value) (A : Around) (outer : List Env) (sh : Shared) (H : Hp) (E : XK), Room k (A.deeper (envOfC qual (defScope s) sh.heap.objs.size f cdv)) → BSs (cxOf CX0 P w K mg base N qual (defScope s) f cdv A outer sh H E).nox (fun _ _ _ => False) (defBody s) body) :
    FnOk P w K mg base CX0 (k + 1) f fd ps (spS K cls (runS ps.length nl body)) := by
  refine F.ok Sc (fun vs H Q E h => ?_) (fun cdv A outer sh H vs Q E hr h => ⟨_, hb cdv A outer sh H E hr, ?_⟩)
  · obtain ⟨G, φ, Fe, μ, ds, T, rs, h⟩ := h
    rw [rs.length]
    unfold runS at h
    by_cases hl : ds.length = ps.length
    · exact hl
    · rw [if_neg hl] at h; exact h.elim
  · obtain ⟨G, φ, Fe, μ, ds, T, rs, h⟩ := h
    unfold runS at h
    by_cases hl : ds.length = ps.length
    · rw [if_pos hl] at h
      have est : L2.start N vs = vs.map some ++ List.replicate nl none := by
        unfold L2.start
        rw [rs.length, hl, hN, Nat.add_sub_cancel_left]
      rw [est]
      refine ⟨{ H := G, F := Fe }, φ, Fe, (_, μ), T.start rs nl, ?_⟩
      cases e : body (ds.map slotS ++ List.replicate nl Sl.no, μ) with
      | no => rw [e] at h; exact h
      | exc c s' μ' => rw [e] at h; exact h.elim
      | ok fl =>
        rw [e] at h
        cases fl with
        | nx s' => exact fun σ' φ' F' H' a b S' => h _ φ' F' H' a b S'.done S'.sim.gr rfl
        | bk s' => exact h.elim
        | ct s' => exact h.elim
        | rt r μ' => exact fun v st' σ' φ' F' H' a b S' vr => h v φ' F' H' a b S'.done S'.sim.gr vr
    · rw [if_neg hl] at h; exact h.elim
/-- all that is new is frozen -/
def newF (H F' H' : Hp) : Hp := fun a => match F' a with
  | some o => some o
  | none => match H a with
    | some _ => none
    | none => H' a
theorem newF_some {H F' H' : Hp} {a : Addr} {o : HO} (h : F' a = some o) : newF H F' H' a = some o := by unfold newF; rw [h]
theorem newF_new {H F' H' : Hp} {a : Addr} {o : HO} (h1 : F' a = none) (h2 : H a = none) (h : H' a = some o) : newF H F' H' a = some o := by unfold newF; rw [h1, h2]; exact h
theorem newF_cases {H F' H' : Hp} {a : Addr} {o : HO} (h : newF H F' H' a = some o) : F' a = some o ∨ (H a = none ∧ H' a = some o) := by
  unfold newF at h
  cases q : F' a with
  | some u => rw [q] at h; exact .inl h
  | none =>
    rw [q] at h
    cases q2 : H a with
    | some u => rw [q2] at h; cases h
    | none => rw [q2] at h; exact .inr ⟨rfl, h⟩
theorem fn_okO {P : Program} {w : World} {K : PySem.W.Frag} {mg : Str → Option Value} {base : Heap} {x qual : Str} {s : Stmt} {f : Addr} {fd : FuncData} {N ps : List Str} {k : Nat} {cls : Nat → Value} {body : SS} (nl : Nat) (F : Fun K x qual s f fd) (Sc : FnScope N ps (defScope s)) (hN : N.length = ps.length + nl)
    (hb : ∀ (cdv : Value) (A : Around) (outer : List Env) (sh : Shared) (H : Hp) (E : XK), Room k (A.deeper (envOfC qual (defScope s) sh.heap.objs.size f cdv)) → BSs (cxOf CX0 P w K mg base N qual (defScope s) f cdv A outer sh H E).nox (fun _ _ _ => False) (defBody s) body) :
    FnOk P w K mg base CX0 (k + 1) f fd ps (spF K cls (runO ps.length nl body)) := by
  refine F.ok Sc (fun vs H Q E h => ?_) (fun cdv A outer sh H vs Q E hr h => ⟨_, hb cdv A outer sh H E hr, ?_⟩)
  · obtain ⟨F, ds, sF, rs, h⟩ := h
    rw [rs.length]
    unfold runO at h
    by_cases hl : ds.length = ps.length
    · exact hl
    · rw [if_neg hl] at h; exact h.elim
  · obtain ⟨Fe, ds, sF, rs, h⟩ := h
    unfold runO at h
    by_cases hl : ds.length = ps.length
    · rw [if_pos hl] at h
      have est : L2.start N vs = vs.map some ++ List.replicate nl none := by
        unfold L2.start
        rw [rs.length, hl, hN, Nat.add_sub_cancel_left]
      rw [est]
      have T : StoOk K H [] Fe H [] := ⟨sF, Same.refl _, rfl, fun n b e => by simp at e, fun n m b c a e => by simp at e⟩
      have S0 := T.start (φ := []) (rs.s (φ := [])) nl
      have em : (ds.map SD.fz).map slotS = ds.map Sl.val := by rw [List.map_map]; rfl
      rw [em] at S0
      refine ⟨{ H := H, F := Fe }, [], Fe, (_, []), S0, ?_⟩
      cases e : body (ds.map Sl.val ++ List.replicate nl Sl.no, []) with
      | no => rw [e] at h; exact h
      | exc c s' μ' => rw [e] at h; exact h.elim
      | ok fl =>
        rw [e] at h
        cases fl with
        | nx s' => exact fun σ' φ' F' H' a b S' => h _ F' H' a S'.sim.ent S'.sim.sub S'.sim.gr rfl
        | bk s' => exact h.elim
        | ct s' => exact h.elim
        | rt r μ' =>
          intro v st' σ' φ' F' H' a b S' vr
          have h : (match finOD (deep μ' r) with
            | .ok r => ∀ v F' H', Same Fe F' → Same H H' → Same F' H' → (∀ a o, F' a = some o → Fe a = some o ∨ Fre H a o) → RRel K H F' H' r v → Q v H'
            | .exc c _ => ∀ H', Same H H' → E (cls c) none H'
            | .no => False) := h
          cases ed : deep μ' r with
          | none => rw [ed] at h; exact h.elim
          | some d =>
            rw [ed] at h
            have sF' : Same F' (newF H F' H') := fun x o q => newF_some q
            refine h v (newF H F' H') H' (a.trans sF') S'.sim.ent (fun x o q => ?_) (fun x o q => ?_) ?_
            · rcases newF_cases q with q | ⟨_, q⟩
              · exact S'.sim.sub _ _ q
              · exact q
            · rcases newF_cases q with q | ⟨q, _⟩
              · exact S'.sim.gr x o q
              · exact .inr (.inl q)
            · exact deep_at sF' (fun n c q => by
                obtain ⟨y, o, e1, e2, e3, e4, e5⟩ := S'.sto n c q
                exact ⟨y, o, e1, newF_new e2 e3 e4, e5⟩) ed vr
    · rw [if_neg hl] at h; exact h.elim
end Vl
/-! # the combinators over a store, run -/
namespace Vl
open L2
theorem bt_w {X : L2.Cx} {W : Wx} {e : PySem.Expr} {t : SB} (h : BW X W e t) : BT X W e t := h.pt
theorem zNm_ap (i : Nat) (st : Sts) (μ : Sto) : zNm i (st, μ) = nmEnd (st[i]?) i (st, μ) := byDef rfl
theorem nmEnd_val (d : D) (i : Nat) (s : S2) : nmEnd (some (.val d)) i s = .ok (.fz d, s) := byDef rfl
theorem nmEnd_sd (x : SD) (i : Nat) (s : S2) : nmEnd (some (.adr (.sd x))) i s = .ok (x, s) := byDef rfl
theorem nmEnd_own (m : M) (i : Nat) (st : Sts) (μ : Sto) : nmEnd (some (.own m)) i (st, μ) = .ok (.lab μ.length, st.set i (.adr (.sd (.lab μ.length))), μ ++ [some (obM m)]) := byDef rfl
theorem zNil_ap (s : S2) : zNil s = .ok ([], s) := byDef rfl
theorem zCons_ap (f : SE) (g : SA) (s : S2) : zCons f g s = (f s).bind (zCons1 g) := byDef rfl
theorem zCons1_ap (g : SA) (r : SD) (s : S2) : zCons1 g (r, s) = (g s).bind (zCons2 r) := byDef rfl
theorem zCons2_ap (r : SD) (rs : List SD) (s : S2) : zCons2 r (rs, s) = .ok (r :: rs, s) := byDef rfl
theorem zTup_ap (f : SA) (s : S2) : zTup f s = (f s).bind zTup1 := byDef rfl
theorem zTup1_ap (rs : List SD) (s : S2) : zTup1 (rs, s) = if rs.length ≤ 1000 then .ok (mkT rs, s) else .no := byDef rfl
def mkTE (o : Option (List D)) (rs : List SD) : SD := match o with
  | some ds => .fz (.tup ds)
  | none => .tup rs
theorem mkT_ap (rs : List SD) : mkT rs = mkTE (fzS rs) rs := by unfold mkT mkTE; rfl
theorem mkTE_some (ds : List D) (rs : List SD) : mkTE (some ds) rs = .fz (.tup ds) := byDef rfl
theorem mkTE_none (rs : List SD) : mkTE none rs = .tup rs := byDef rfl
theorem fzS_nil : fzS [] = some [] := byDef rfl
theorem fzS_fz (d : D) (r : List SD) : fzS (.fz d :: r) = (fzS r).map (d :: ·) := byDef rfl
theorem fzS_lab (n : Nat) (r : List SD) : fzS (.lab n :: r) = none := byDef rfl
theorem fzS_tup (n : List SD) (r : List SD) : fzS (.tup n :: r) = none := byDef rfl
theorem zLst_ap (f : SA) (s : S2) : zLst f s = (f s).bind zLst1 := byDef rfl
theorem zLst1_ap (rs : List SD) (st : Sts) (μ : Sto) : zLst1 (rs, st, μ) = if rs.length ≤ 1000 then .ok (.lab μ.length, st, μ ++ [some (.lst rs)]) else .no := byDef rfl
theorem lkEnd_fz (d : D) (s : S2) : lkEnd (some (.fz d)) s = if d.noL = true then .ok (.fz d, s) else .no := byDef rfl
theorem lkEnd_nw (m : M) (st : Sts) (μ : Sto) : lkEnd (some (.nw m)) (st, μ) = if m.noL = true then .ok (.lab μ.length, st, μ ++ [some (obM m)]) else .no := byDef rfl
theorem lkEnd_ite {c : Prop} [Decidable c] (x y : Option Val) (s : S2) : lkEnd (if c then x else y) s = if c then lkEnd x s else lkEnd y s := by split <;> rfl
theorem obM_lst (ds : List D) : obM (.lst ds) = .lst (ds.map .fz) := byDef rfl
theorem obM_dct (ks vs : List D) : obM (.dct ks vs) = .dct ks (vs.map .fz) := byDef rfl
theorem obM_dcu (ks vs : List D) : obM (.dcu ks vs) = .dcu ks (vs.map .fz) := byDef rfl
theorem op2S_ap (o : D → D → Option Val) (a b : D) : op2S o (some a) (some b) = o a b := byDef rfl
theorem z2_ap (o : D → D → Option Val) (f g : SE) (s : S2) : z2 o f g s = (f s).bind (z2a o g) := byDef rfl
theorem z2a_ap (o : D → D → Option Val) (g : SE) (r : SD) (s : S2) : z2a o g (r, s) = (g s).bind (z2b o r) := byDef rfl
theorem z2b_ap (o : D → D → Option Val) (x y : SD) (st : Sts) (μ : Sto) : z2b o x (y, st, μ) = lkEnd (op2S o (deep μ x) (deep μ y)) (st, μ) := byDef rfl
theorem zTest_ap (f : SE) (s : S2) : zTest f s = (f s).bind asBS := byDef rfl
theorem asBS_ap (b : Bool) (s : S2) : asBS (.fz (.bl b), s) = .ok (b, s) := byDef rfl
theorem zNotT_ap (t : SB) (s : S2) : zNotT t s = (t s).bind zNotT1 := byDef rfl
theorem zNotT1_ap (b : Bool) (s : S2) : zNotT1 (b, s) = .ok (!b, s) := byDef rfl
theorem zAndT_ap (t u : SB) (s : S2) : zAndT t u s = (t s).bind (zAndT1 u) := byDef rfl
theorem zAndT1_ap (u : SB) (b : Bool) (s : S2) : zAndT1 u (b, s) = if b = true then u s else .ok (false, s) := byDef rfl
theorem zOrT_ap (t u : SB) (s : S2) : zOrT t u s = (t s).bind (zOrT1 u) := byDef rfl
theorem zOrT1_ap (u : SB) (b : Bool) (s : S2) : zOrT1 u (b, s) = if b = true then .ok (true, s) else u s := byDef rfl
theorem zOld_ap (f : VS) (st : Sts) (μ : Sto) : zOld f (st, μ) = oldF (f st) μ := byDef rfl
theorem oldF_nx (st : Sts) (μ : Sto) : oldF (.ok (.nx st)) μ = .ok (.nx (st, μ)) := byDef rfl
theorem oldF_bk (st : Sts) (μ : Sto) : oldF (.ok (.bk st)) μ = .ok (.bk (st, μ)) := byDef rfl
theorem oldF_ct (st : Sts) (μ : Sto) : oldF (.ok (.ct st)) μ = .ok (.ct (st, μ)) := byDef rfl
theorem oldF_fz (d : D) (μ : Sto) : oldF (.ok (.rt (.fz d))) μ = .ok (.rt (.fz d) μ) := byDef rfl
theorem oldF_nw (m : M) (μ : Sto) : oldF (.ok (.rt (.nw m))) μ = .ok (.rt (.lab μ.length) (μ ++ [some (obM m)])) := byDef rfl
theorem oldF_pk (i : Nat) (m : M) (μ : Sto) : oldF (.ok (.rt (.pk i m))) μ = .ok (.rt (.lab μ.length) (μ ++ [some (obM m)])) := byDef rfl
theorem oldF_ite {c : Prop} [Decidable c] (x y : R Flow) (μ : Sto) : oldF (if c then x else y) μ = if c then oldF x μ else oldF y μ := by split <;> rfl
theorem zO_ap (f : VE) (st : Sts) (μ : Sto) : zO f (st, μ) = oldE (f st) μ := byDef rfl
theorem oldE_fz (d : D) (st : Sts) (μ : Sto) : oldE (.ok (.fz d, st)) μ = .ok (.fz d, st, μ) := byDef rfl
theorem oldE_nw (m : M) (st : Sts) (μ : Sto) : oldE (.ok (.nw m, st)) μ = .ok (.lab μ.length, st, μ ++ [some (obM m)]) := byDef rfl
theorem oldE_pk (i : Nat) (m : M) (st : Sts) (μ : Sto) : oldE (.ok (.pk i m, st)) μ = .ok (.lab μ.length, st.set i (.adr (.sd (.lab μ.length))), μ ++ [some (obM m)]) := byDef rfl
theorem oldE_ite {c : Prop} [Decidable c] (x y : R (Val × Sts)) (μ : Sto) : oldE (if c then x else y) μ = if c then oldE x μ else oldE y μ := by split <;> rfl
theorem zT_ap (t : VT) (st : Sts) (μ : Sto) : zT t (st, μ) = oldB (t st) μ := byDef rfl
theorem oldB_ap (b : Bool) (st : Sts) (μ : Sto) : oldB (.ok (b, st)) μ = .ok (b, st, μ) := byDef rfl
theorem oldB_ite {c : Prop} [Decidable c] (x y : R (Bool × Sts)) (μ : Sto) : oldB (if c then x else y) μ = if c then oldB x μ else oldB y μ := by split <;> rfl
theorem zLk_ap (bs : List Bool) (f : VE) (st : Sts) (μ : Sto) : zLk bs f (st, μ) = lookE (f (frS μ bs st)) (st, μ) := byDef rfl
theorem lookE_fz (d : D) (st' : Sts) (s : S2) : lookE (.ok (.fz d, st')) s = if d.noL = true then .ok (.fz d, s) else .no := byDef rfl
theorem lookE_nw (m : M) (st' : Sts) (st : Sts) (μ : Sto) : lookE (.ok (.nw m, st')) (st, μ) = if m.noL = true then .ok (.lab μ.length, st, μ ++ [some (obM m)]) else .no := byDef rfl
theorem lookE_ite {c : Prop} [Decidable c] (x y : R (Val × Sts)) (s : S2) : lookE (if c then x else y) s = if c then lookE x s else lookE y s := by split <;> rfl
theorem zLkT_ap (bs : List Bool) (f : VT) (st : Sts) (μ : Sto) : zLkT bs f (st, μ) = lookB (f (frS μ bs st)) (st, μ) := byDef rfl
theorem lookB_ap (b : Bool) (st' : Sts) (s : S2) : lookB (.ok (b, st')) s = .ok (b, s) := byDef rfl
theorem lookB_ite {c : Prop} [Decidable c] (x y : R (Bool × Sts)) (s : S2) : lookB (if c then x else y) s = if c then lookB x s else lookB y s := by split <;> rfl
theorem frS_nil (μ : Sto) (bs : List Bool) : frS μ bs [] = [] := by unfold frS; rfl
theorem frS_t (μ : Sto) (bs : List Bool) (s : Sl) (st : Sts) : frS μ (true :: bs) (s :: st) = deepSl μ s :: frS μ bs st := byDef rfl
theorem frS_f (μ : Sto) (bs : List Bool) (s : Sl) (st : Sts) : frS μ (false :: bs) (s :: st) = .no :: frS μ bs st := byDef rfl
theorem deepSl_val (μ : Sto) (d : D) : deepSl μ (.val d) = .val d := byDef rfl
theorem deepSl_own (μ : Sto) (m : M) : deepSl μ (.own m) = .val m.d := byDef rfl
theorem deepSl_sd (μ : Sto) (s : SD) : deepSl μ (.adr (.sd s)) = slD (deep μ s) := byDef rfl
theorem deepSl_no (μ : Sto) : deepSl μ .no = .no := byDef rfl
theorem slD_some (d : D) : slD (some d) = .val d := byDef rfl
theorem slotS_fz (d : D) : slotS (.fz d) = .val d := byDef rfl
theorem slotS_lab (n : Nat) : slotS (.lab n) = .adr (.sd (.lab n)) := byDef rfl
theorem slotS_tup (ds : List SD) : slotS (.tup ds) = .adr (.sd (.tup ds)) := byDef rfl
theorem zIx_ap (f g : SE) (s : S2) : zIx f g s = (f s).bind (zIx1 g) := byDef rfl
theorem zIx1_ap (g : SE) (x : SD) (s : S2) : zIx1 g (x, s) = (g s).bind (zIx2 x) := byDef rfl
theorem zIx2_ap (x y : SD) (st : Sts) (μ : Sto) : zIx2 x (y, st, μ) = ixEnd (ixS μ x y) (st, μ) := byDef rfl
theorem ixEnd_ap (d : SD) (s : S2) : ixEnd (some d) s = .ok (d, s) := byDef rfl
theorem ixS_lab (μ : Sto) (n : Nat) (y : SD) : ixS μ (.lab n) y = ixOb (μ[n]?) y := byDef rfl
theorem ixS_tup (μ : Sto) (ds : List SD) (i : Int) : ixS μ (.tup ds) (.fz (.int i)) = atI ds i := byDef rfl
theorem ixOb_lst (ds : List SD) (i : Int) : ixOb (some (some (.lst ds))) (.fz (.int i)) = atI ds i := byDef rfl
theorem ixOb_str (ks : List D) (vs : List SD) (x : List Nat) : ixOb (some (some (.dct ks vs))) (.fz (.str x)) = getG ks vs (.str x) := byDef rfl
theorem zMut_ap (T : String) (op : Ob → List SD → Option (SD × Ob)) (f : SE) (g : SA) (s : S2) : zMut T op f g s = (f s).bind (zMut1 T op g) := byDef rfl
theorem zMut1_ap (T : String) (op : Ob → List SD → Option (SD × Ob)) (g : SA) (n : Nat) (st : Sts) (μ : Sto) : zMut1 T op g (.lab n, st, μ) = zMut0 (μ[n]?) T ((g (st, μ)).bind (zMut2 op n)) := byDef rfl
theorem zMut0_ap (b : Ob) (T : String) (x : RS (SD × S2)) : zMut0 (some (some b)) T x = if b.ty = T then x else .no := byDef rfl
theorem zMut2_ap (op : Ob → List SD → Option (SD × Ob)) (n : Nat) (ds : List SD) (st : Sts) (μ : Sto) : zMut2 op n (ds, st, μ) = zMutE (μ[n]?) op n ds (st, μ) := byDef rfl
theorem zMutE_ap (b : Ob) (op : Ob → List SD → Option (SD × Ob)) (n : Nat) (ds : List SD) (s : S2) : zMutE (some (some b)) op n ds s = zMutF (op b ds) n s := byDef rfl
theorem zMutF_ap (r : SD) (b' : Ob) (n : Nat) (st : Sts) (μ : Sto) : zMutF (some (r, b')) n (st, μ) = .ok (r, st, μ.set n (some b')) := byDef rfl
theorem zMutF_ite {c : Prop} [Decidable c] (x y : Option (SD × Ob)) (n : Nat) (s : S2) : zMutF (if c then x else y) n s = if c then zMutF x n s else zMutF y n s := by split <;> rfl
theorem ty_lst (ds : List SD) : (Ob.lst ds).ty = "list" := byDef rfl
theorem ty_dct (ks : List D) (vs : List SD) : (Ob.dct ks vs).ty = "dict" := byDef rfl
theorem oAppend_ap (ds : List SD) (d : SD) : oAppend (.lst ds) [d] = if ds.length < 16777216 then some (.fz .non, .lst (ds ++ [d])) else none := byDef rfl
theorem oReverse_ap (ds : List SD) : oReverse (.lst ds) [] = some (.fz .non, .lst ds.reverse) := byDef rfl
theorem oClear_ap (ds : List SD) : oClear (.lst ds) [] = some (.fz .non, .lst []) := byDef rfl
theorem oInsert_ap (ds : List SD) (i : Int) (d : SD) : oInsert (.lst ds) [.fz (.int i), d] = if (decide (ds.length < 16777216) && (decide (0 ≤ i) && decide (i < 1073741824))) = true then some (.fz .non, .lst (ds.take i.toNat ++ [d] ++ ds.drop i.toNat)) else none := byDef rfl
theorem zCallO_ap (run : Fn) (f : SA) (s : S2) : zCallO run f s = (f s).bind (zCallO1 run) := byDef rfl
theorem zCallO1_ap (run : Fn) (rs : List SD) (st : Sts) (μ : Sto) : zCallO1 run (rs, st, μ) = callOld run (deeps μ rs) (st, μ) := byDef rfl
theorem callOld_ap (run : Fn) (ds : List D) (s : S2) : callOld run (some ds) s = callOldR (run ds) s := byDef rfl
theorem callOldR_ap (r : Val) (s : S2) : callOldR (.ok r) s = lkEnd (some r) s := byDef rfl
theorem callOldR_ite {c : Prop} [Decidable c] (x y : R Val) (s : S2) : callOldR (if c then x else y) s = if c then callOldR x s else callOldR y s := by split <;> rfl
def deepsE (a : Option D) (b : Option (List D)) : Option (List D) := match a, b with
  | some d, some ds => some (d :: ds)
  | _, _ => none
theorem deeps_nil (μ : Sto) : deeps μ [] = some [] := byDef rfl
theorem deeps_cons (μ : Sto) (x : SD) (xs : List SD) : deeps μ (x :: xs) = deepsE (deep μ x) (deeps μ xs) := by
  unfold deepsE; rfl
theorem deepsE_ap (d : D) (ds : List D) : deepsE (some d) (some ds) = some (d :: ds) := byDef rfl
theorem deep_fz (μ : Sto) (d : D) : deep μ (.fz d) = some d := byDef rfl
theorem zCall_ap (run : FnS) (f : SA) (s : S2) : zCall run f s = (f s).bind (zCall1 run) := byDef rfl
theorem zCall1_ap (run : FnS) (rs : List SD) (st : Sts) (μ : Sto) : zCall1 run (rs, st, μ) = callSEnd (run rs μ) st := byDef rfl
theorem callSEnd_ap (v : SD) (μ : Sto) (st : Sts) : callSEnd (.ok (v, μ)) st = .ok (v, st, μ) := byDef rfl
theorem callSEnd_ite {c : Prop} [Decidable c] (x y : RS (SD × Sto)) (st : Sts) : callSEnd (if c then x else y) st = if c then callSEnd x st else callSEnd y st := by split <;> rfl
theorem zNx_ap (s : S2) : zNx s = .ok (.nx s) := byDef rfl
theorem zSeq_ap (a b : SS) (s : S2) : zSeq a b s = (a s).bind (zSeq1 b) := byDef rfl
theorem zSeq1_nx (b : SS) (s : S2) : zSeq1 b (.nx s) = b s := byDef rfl
theorem zSeq1_rt (b : SS) (v : SD) (μ : Sto) : zSeq1 b (.rt v μ) = .ok (.rt v μ) := byDef rfl
theorem zSeq1_bk (b : SS) (s : S2) : zSeq1 b (.bk s) = .ok (.bk s) := byDef rfl
theorem zSeq1_ct (b : SS) (s : S2) : zSeq1 b (.ct s) = .ok (.ct s) := byDef rfl
theorem zAsg_ap (i : Nat) (f : SE) (s : S2) : zAsg i f s = (f s).bind (zAsg1 i) := byDef rfl
theorem zAsg1_ap (i : Nat) (r : SD) (st : Sts) (μ : Sto) : zAsg1 i (r, st, μ) = .ok (.nx (st.set i (slotS r), μ)) := byDef rfl
theorem zRet_ap (f : SE) (s : S2) : zRet f s = (f s).bind zRet1 := byDef rfl
theorem zRet1_ap (r : SD) (st : Sts) (μ : Sto) : zRet1 (r, st, μ) = .ok (.rt r μ) := byDef rfl
theorem zRetN_ap (st : Sts) (μ : Sto) : zRetN (st, μ) = .ok (.rt (.fz .non) μ) := byDef rfl
theorem zDrop_ap (f : SE) (s : S2) : zDrop f s = (f s).bind zDrop1 := byDef rfl
theorem zDrop1_ap (r : SD) (s : S2) : zDrop1 (r, s) = .ok (.nx s) := byDef rfl
theorem zIf_ap (t : SB) (a b : SS) (s : S2) : zIf t a b s = (t s).bind (zIf1 a b) := byDef rfl
theorem zIf1_ap (a b : SS) (c : Bool) (s : S2) : zIf1 a b (c, s) = if c = true then a s else b s := byDef rfl
theorem zBrk_ap (s : S2) : zBrk s = .ok (.bk s) := byDef rfl
theorem zCnt_ap (s : S2) : zCnt s = .ok (.ct s) := byDef rfl
theorem zPut_ap (fv fo fk : SE) (s : S2) : zPut fv fo fk s = (fv s).bind (zPut1 fo fk) := byDef rfl
theorem zPut1_ap (fo fk : SE) (v : SD) (s : S2) : zPut1 fo fk (v, s) = (fo s).bind (zPut2 fk v) := byDef rfl
theorem zPut2_ap (fk : SE) (v o : SD) (s : S2) : zPut2 fk v (o, s) = (fk s).bind (zPut3 v o) := byDef rfl
theorem zPut3_ap (v : SD) (n : Nat) (k : SD) (st : Sts) (μ : Sto) : zPut3 v (.lab n) (k, st, μ) = zPutE (μ[n]?) n v k (st, μ) := byDef rfl
theorem zPutE_str (ks : List D) (vs : List SD) (n : Nat) (v : SD) (x : List Nat) (st : Sts) (μ : Sto) : zPutE (some (some (.dct ks vs))) n v (.fz (.str x)) (st, μ) = if ks.length < 16777216 then .ok (.nx (st, μ.set n (some (.dct (putG ks vs (.str x) v).1 (putG ks vs (.str x) v).2)))) else .no := byDef rfl
theorem zgN_ap (i : Nat) (d : SD) (st : Sts) (μ : Sto) : zgN i d (st, μ) = some (st.set i (slotS d), μ) := byDef rfl
theorem zgT_tup (gs : List SG) (ds : List SD) (s : S2) : zgT gs (.tup ds) s = zgsRun gs ds s := byDef rfl
theorem zgT_fz (gs : List SG) (ds : List D) (s : S2) : zgT gs (.fz (.tup ds)) s = zgsRun gs (ds.map .fz) s := byDef rfl
theorem zgsRun_nil (s : S2) : zgsRun [] [] s = some s := byDef rfl
theorem zgsRun_cons (g : SG) (gs : List SG) (d : SD) (ds : List SD) (s : S2) : zgsRun (g :: gs) (d :: ds) s = (g d s).bind (zgsRun gs ds) := byDef rfl
def zasgE (o : Option S2) : RS SFlow := match o with
  | some s => .ok (.nx s)
  | none => .no
theorem zAsgG_ap (g : SG) (f : SE) (s : S2) : zAsgG g f s = (f s).bind (zAsgG1 g) := byDef rfl
theorem zAsgG1_ap (g : SG) (r : SD) (s : S2) : zAsgG1 g (r, s) = zasgE (g r s) := by unfold zAsgG1 zasgE; rfl
theorem zasgE_ap (s : S2) : zasgE (some s) = .ok (.nx s) := byDef rfl
theorem zFor_ap (f : SE) (g : SG) (body : SS) (s : S2) : zFor f g body s = (f s).bind (zFor1 g body) := byDef rfl
theorem zFor1_fz (g : SG) (body : SS) (d : D) (s : S2) : zFor1 g body (.fz d, s) = zForF g body (itemsOf d) s := byDef rfl
theorem zFor1_lab (g : SG) (body : SS) (n : Nat) (st : Sts) (μ : Sto) : zFor1 g body (.lab n, st, μ) = zForL g body (μ[n]?) n (st, μ) := byDef rfl
theorem zFor1_tup (g : SG) (body : SS) (ds : List SD) (s : S2) : zFor1 g body (.tup ds, s) = zloop g body yes1 ds s := byDef rfl
theorem zForF_ap (g : SG) (body : SS) (ds : List D) (s : S2) : zForF g body (some ds) s = zloop g body yes1 (ds.map .fz) s := byDef rfl
theorem zForL_ap (g : SG) (body : SS) (ds : List SD) (n : Nat) (s : S2) : zForL g body (some (some (.lst ds))) n s = zloop g body (asWas n ds) ds s := byDef rfl
theorem zForR1_ap (f : SA) (g : SG) (body : SS) (s : S2) : zForR1 f g body s = (f s).bind (zForR1a g body) := byDef rfl
theorem zForR1a_ap (g : SG) (body : SS) (n : Int) (s : S2) : zForR1a g body ([.fz (.int n)], s) = if bigI n = true then zloop g body yes1 ((rangeD 0 n.toNat).map .fz) s else .no := byDef rfl
theorem zturn_nx (k : S2 → RS SFlow) (s : S2) : zturn k (.nx s) = k s := byDef rfl
theorem zturn_ct (k : S2 → RS SFlow) (s : S2) : zturn k (.ct s) = k s := byDef rfl
theorem zturn_bk (k : S2 → RS SFlow) (s : S2) : zturn k (.bk s) = .ok (.nx s) := byDef rfl
theorem zturn_rt (k : S2 → RS SFlow) (v : SD) (μ : Sto) : zturn k (.rt v μ) = .ok (.rt v μ) := byDef rfl
theorem zstep_some (s : S2) (body : SS) (k : S2 → RS SFlow) : zstep (some s) body k = (body s).bind (zturn k) := byDef rfl
theorem finS_rt (v : SD) (μ : Sto) : finS (.ok (.rt v μ)) = .ok (v, μ) := byDef rfl
theorem finS_nx (st : Sts) (μ : Sto) : finS (.ok (.nx (st, μ))) = .ok (.fz .non, μ) := byDef rfl
theorem finS_ite {c : Prop} [Decidable c] (x y : RS SFlow) : finS (if c then x else y) = if c then finS x else finS y := by split <;> rfl
theorem finO_rt (v : SD) (μ : Sto) : finO (.ok (.rt v μ)) = finOD (deep μ v) := byDef rfl
theorem finO_nx (s : S2) : finO (.ok (.nx s)) = .ok (.fz .non) := byDef rfl
theorem finO_ite {c : Prop} [Decidable c] (x y : RS SFlow) : finO (if c then x else y) = if c then finO x else finO y := by split <;> rfl
theorem finOD_ap (d : D) : finOD (some d) = .ok (.fz d) := byDef rfl
theorem runS_ap (np nl : Nat) (body : SS) (ds : List SD) (μ : Sto) : runS np nl body ds μ = if ds.length = np then finS (body (ds.map slotS ++ List.replicate nl .no, μ)) else .no := byDef rfl
theorem runO_ap (np nl : Nat) (body : SS) (ds : List D) : runO np nl body ds = if ds.length = np then finO (body (ds.map .val ++ List.replicate nl .no, [])) else .no := byDef rfl
/-! ## loops -/
theorem zloop_nil (g : SG) (body : SS) (chk : Sto → Bool) (s : S2) : zloop g body chk [] s = if chk s.2 = true then .ok (.nx s) else .no := byDef rfl
theorem zloop_cons (g : SG) (body : SS) (chk : Sto → Bool) (d : SD) (ds : List SD) (s : S2) : zloop g body chk (d :: ds) s = if chk s.2 = true then zstep (g d s) body (zloop g body chk ds) else .no := byDef rfl
/-- an invariant of the items taken so far -/
theorem zloop_inv {g : SG} {body : SS} {chk : Sto → Bool} (I : List SD → S2 → Prop) : ∀ (ds pre : List SD) (s : S2), I pre s →
    (∀ pre d s, d ∈ ds → I pre s → chk s.2 = true ∧ ∃ s1, g d s = some s1 ∧ ∃ s2, (body s1 = .ok (.nx s2) ∨ body s1 = .ok (.ct s2)) ∧ I (pre ++ [d]) s2) →
    (∀ s, I (pre ++ ds) s → chk s.2 = true) → ∃ s', zloop g body chk ds s = .ok (.nx s') ∧ I (pre ++ ds) s'
  | [], pre, s, h, _, hc => by
    rw [List.append_nil] at hc ⊢
    exact ⟨s, by rw [zloop_nil, if_pos (hc s h)], h⟩
  | d :: ds, pre, s, h, hstep, hc => by
    obtain ⟨c, s1, e1, s2, e2, h2⟩ := hstep pre d s List.mem_cons_self h
    have ap : pre ++ d :: ds = (pre ++ [d]) ++ ds := by simp
    obtain ⟨s', e3, h3⟩ := zloop_inv I ds (pre ++ [d]) s2 h2 (fun p x t hx hp => hstep p x t (List.mem_cons_of_mem _ hx) hp) (fun t ht => hc t (by rw [ap]; exact ht))
    refine ⟨s', ?_, by rw [ap]; exact h3⟩
    rw [zloop_cons, if_pos c, e1, zstep_some]
    rcases e2 with e2 | e2
    · rw [e2, RS.bind_ok, zturn_nx]; exact e3
    · rw [e2, RS.bind_ok, zturn_ct]; exact e3
end Vl
/-! # name = [..] over a store; tools -/
namespace Vl
open PySem PySem.Spec PyProof.Rows L2
section
variable {X : Cx} {W : Wx} {pos : Pos}
theorem bs_setCompLk {i : Nat} {y : Str} {py spos : Pos} {elt tg iter : Expr} {ifs : List Expr} {scope : Scope} {own : List (Str × Nat)} {src : VI} {g : VG} {t : VT} {e : VE} (bs : List Bool) (hc : X.calm = true) (hN : X.N.Nodup) (hy : X.N[i]? = some y) (hyl : X.env.scope.names.lookup y = some .local)
    (hsw : swapsWith (.ListComp elt [⟨tg, iter, ifs, 0⟩] scope pos) (some (.Name y py)) spos.line X.env = pure true) (hi : DI X W tg iter src) (ok : BlkOk X.N X.env.scope scope own)
    (hg : ∀ (s : Shared) (H : Hp) (C : Addr) (cl : List (Str × Addr)) (fp : List Addr), DGv (X.blk s H scope (compEnvC scope cl C X.env) fp) (own.map (·.2)) tg g) (ht : ∀ (s : Shared) (H : Hp) (C : Addr) (cl : List (Str × Addr)) (fp : List Addr), DTs (X.blk s H scope (compEnvC scope cl C X.env) fp) W0 ifs t)
    (he : ∀ (s : Shared) (H : Hp) (C : Addr) (cl : List (Str × Addr)) (fp : List Addr), DE (X.blk s H scope (compEnvC scope cl C X.env) fp) W0 elt e) (hs : ∀ x, foldedSetIterable iter X.env x = pure x := by intro _; rfl) :
    BS X W (.Assign [.Name y py] (.ListComp elt [⟨tg, iter, ifs, 0⟩] scope pos) spos) (zAsg i (zLk bs (vComp src g t e (own.map (·.2))))) := PS.imp (ps_setLc hc hN hy hyl hsw hi ok hg ht he hs) fun D σ H ⟨E, φ, F, s, S, q⟩ =>
  lc_up (W := W) (g := g) (t := t) (e := e) σ H _ (up_look σ H _ (zES S q fun r s1 v φ1 F1 H1 a b S1 vr k => k _ φ1 F1 H1 (Same.refl _) (Le.refl _) (S1.setS vr)))
end
/-! ## tools for stores -/
theorem asWas_of {n : Nat} {ds : List SD} {μ : Sto} (h : μ[n]? = some (some (.lst ds))) : asWas n ds μ = true := decide_eq_true h
theorem sto_at (μ L : Sto) (x : Option Ob) : (μ ++ x :: L)[μ.length]? = some x := by simp
theorem sto_set (μ L : Sto) (x y : Option Ob) : (μ ++ x :: L).set μ.length y = μ ++ y :: L := by simp
theorem sto_app (μ L : Sto) (x y : Option Ob) : (μ ++ x :: L) ++ [y] = μ ++ x :: (L ++ [y]) := by simp
theorem sto_left {μ : Sto} (L : Sto) {n : Nat} {x : Option Ob} (h : μ[n]? = some x) : (μ ++ L)[n]? = some x := by
  rw [List.getElem?_append_left (List.getElem?_eq_some_iff.mp h).1]; exact h
theorem deepWs_fz (g : Nat → Option D) (p : List D) : SD.deepWs g (p.map .fz) = some p := by
  induction p with
  | nil => rfl
  | cons x p ih =>
    show (SD.deepW g (.fz x)).bind (fun y => (SD.deepWs g (p.map .fz)).map (y :: ·)) = _
    rw [ih]; rfl
theorem deep_lst {ν : Sto} {n : Nat} {xs : List SD} {ds : List D} (h : ν[n]? = some (some (.lst xs))) (e : SD.deepWs (deepL ν 5) xs = some ds) : deep ν (.lab n) = some (.lst ds) := by
  show obAt (deepL ν 5) (ν[n]?) = _
  rw [h]
  show (SD.deepWs (deepL ν 5) xs).map D.lst = _
  rw [e]; rfl
theorem deep_flat {ν : Sto} {n : Nat} {ds : List D} (h : ν[n]? = some (some (.lst (ds.map .fz)))) : deep ν (.lab n) = some (.lst ds) := deep_lst h (deepWs_fz _ _)
theorem deep_dct {ν : Sto} {n : Nat} {ks : List D} {xs : List SD} {ds : List D} (h : ν[n]? = some (some (.dct ks xs))) (e : SD.deepWs (deepL ν 5) xs = some ds) : deep ν (.lab n) = some (.dct ks ds) := by
  show obAt (deepL ν 5) (ν[n]?) = _
  rw [h]
  show (SD.deepWs (deepL ν 5) xs).map (D.dct ks) = _
  rw [e]; rfl
mutual
theorem eqvRefl : ∀ (n : Nat) (d : D), d.lay n = true → D.eqv d d = true
  | n, .non, _ => rfl
  | n, .bl b, _ => by show (b == b) = true; simp
  | n, .int i, _ => by show (i == i) = true; simp
  | n, .str x, _ => by show (x == x) = true; simp
  | 0, .tup ds, h => by simp [D.lay] at h
  | n + 1, .tup ds, h => eqvsRefl n ds (by simpa [D.lay] using h)
  | 0, .lst ds, h => by simp [D.lay] at h
  | n + 1, .lst ds, h => eqvsRefl n ds (by simpa [D.lay] using h)
  | n, .dct _ _, h => by cases n <;> simp [D.lay] at h
  | n, .dcu _ _, h => by cases n <;> simp [D.lay] at h
  | n, .ins _ _ _, h => by cases n <;> simp [D.lay] at h
theorem eqvsRefl : ∀ (n : Nat) (ds : List D), D.lays n ds = true → D.eqvs ds ds = true
  | n, [], _ => rfl
  | n, d :: ds, h => by
    simp only [D.lays, Bool.and_eq_true] at h
    show (D.eqv d d && D.eqvs ds ds) = true
    rw [eqvRefl n d h.1, eqvsRefl n ds h.2]; rfl
end
end Vl
/-! # a dict display whose things are of the store -/
namespace Vl
open PySem PySem.Spec PyProof.Rows L2
abbrev S1P := SE × SE
def dPs3 (a b : SD) (t : List (SD × SD) × S2) : RS (List (SD × SD) × S2) := .ok ((a, b) :: t.1, t.2)
mutual
def dPs : List S1P → S2 → RS (List (SD × SD) × S2)
  | [], s => .ok ([], s)
  | p :: r, s => (p.1 s).bind (dPs1 p.2 r)
def dPs1 : SE → List S1P → SD × S2 → RS (List (SD × SD) × S2)
  | g, r, q => (g q.2).bind (dPs2 q.1 r)
def dPs2 : SD → List S1P → SD × S2 → RS (List (SD × SD) × S2)
  | a, r, q => (dPs r q.2).bind (dPs3 a q.1)
end
def mergeG : List (SD × SD) → List D → List SD → Option Ob
  | [], ks, vs => some (.dct ks vs)
  | (.fz k, v) :: r, ks, vs => match keyD k with
    | some _ => mergeG r (putG ks vs k v).1 (putG ks vs k v).2
    | none => none
  | _ :: _, _, _ => none
def zDctE (o : Option Ob) (n : Nat) (s : S2) : RS (SD × S2) := match o with
  | some b => .ok (.lab n, s.1, s.2.set n (some b))
  | none => .no
def zDct1 (n : Nat) (t : List (SD × SD) × S2) : RS (SD × S2) := if t.2.2[n]? = some (some (.dct [] [])) then zDctE (mergeG t.1 [] []) n t.2 else .no
def zDct (ps : List S1P) : SE := fun s => (dPs ps (s.1, s.2 ++ [some (.dct [] [])])).bind (zDct1 s.2.length)
def RepPs (K : PySem.W.Frag) (φ : List Addr) (F : Hp) : List (SD × SD) → List (V × V) → Prop
  | [], vs => vs = []
  | p :: r, vs => ∃ v u, vs = v :: u ∧ RepS K φ F p.1 v.1 ∧ RepS K φ F p.2 v.2 ∧ RepPs K φ F r u
section
variable {K : PySem.W.Frag} {W : Wx} {E : Ent} {φ φ' : List Addr} {F F' H : Hp} {σ : L2.St}
theorem RepPs.length : ∀ {ps : List (SD × SD)} {vs : List (V × V)}, RepPs K φ F ps vs → vs.length = ps.length
  | [], _, h => by
    have h : _ = [] := h
    subst h; rfl
  | p :: r, _, ⟨v, u, h1, h2, h3, h4⟩ => by subst h1; simp [RepPs.length h4]
def EndPS (K : PySem.W.Frag) (W : Wx) (E : Ent) (φ : List Addr) (F : Hp) (σ : L2.St) (res : RS (List (SD × SD) × S2)) (Q : List (V × V) → Hp → Prop) : Prop := match res with
  | .ok (rs, s) => ∀ vs φ' F' H', Same F F' → Le φ φ' → SimS K E φ' F' H' s.1 s.2 σ → RepPs K φ' F' rs vs → Q vs H'
  | .exc c st μ => ∀ φ' F' H', Same F F' → Le φ φ' → SimS K E φ' F' H' st μ σ → W c σ H'
  | .no => False
theorem EndPS.mono {res : RS (List (SD × SD) × S2)} {Q : List (V × V) → Hp → Prop} (e : Same F F') (p : Le φ φ') (h : EndPS K W E φ F σ res Q) : EndPS K W E φ' F' σ res Q := by
  cases res with
  | ok r => exact fun v φ2 F2 H2 a b => h v φ2 F2 H2 (e.trans a) (p.trans b)
  | exc c st μ => exact fun φ2 F2 H2 a b => h φ2 F2 H2 (e.trans a) (p.trans b)
  | no => exact h
theorem zEP {f : SE} {s : S2} {k : SD × S2 → RS (List (SD × SD) × S2)} {Q : List (V × V) → Hp → Prop} {P : VK} (S : SimS K E φ F H s.1 s.2 σ) (h : EndPS K W E φ F σ ((f s).bind k) Q)
    (hk : ∀ r s1 v φ1 F1 H1, Same F F1 → Le φ φ1 → SimS K E φ1 F1 H1 s1.1 s1.2 σ → RepS K φ1 F1 r v → EndPS K W E φ1 F1 σ (k (r, s1)) Q → P v H1) : upE K W f σ H P := by
  refine ⟨E, φ, F, s, S, ?_⟩
  cases e : f s with
  | ok p => rw [e] at h; exact fun v φ1 F1 H1 a b S1 vr => hk _ _ v φ1 F1 H1 a b S1 vr (EndPS.mono a b h)
  | exc c st μ => rw [e] at h; exact h
  | no => rw [e] at h; exact h
abbrev upPs (K : PySem.W.Frag) (W : Wx) (ps : List S1P) : List (TE × TE) := ps.map fun p => (upE K W p.1, upE K W p.2)
theorem up_pairs : ∀ {ps : List S1P} {φ : List Addr} {F H : Hp} {s : S2} {Q : List (V × V) → Hp → Prop}, SimS K E φ F H s.1 s.2 σ → EndPS K W E φ F σ (dPs ps s) Q → tPairs (upPs K W ps) σ H Q
  | [], φ, F, H, s, Q, S, q => by
    unfold dPs at q
    exact q [] φ F H (Same.refl _) (Le.refl _) S rfl
  | p :: r, φ, F, H, s, Q, S, q => by
    unfold dPs at q
    show tPairs ((upE K W p.1, upE K W p.2) :: upPs K W r) σ H Q
    unfold tPairs
    refine zEP S q fun x s1 v φ1 F1 H1 a1 b1 S1 vr q1 => ?_
    unfold dPs1 at q1
    refine zEP S1 q1 fun y s2 u φ2 F2 H2 a2 b2 S2 ur q2 => ?_
    unfold dPs2 at q2
    refine up_pairs S2 ?_
    cases e : dPs r s2 with
    | ok t =>
      rw [e] at q2
      intro vs φ3 F3 H3 a3 b3 S3 tr
      exact q2 _ φ3 F3 H3 a3 b3 S3 ⟨(v, u), vs, rfl, RepS.mono (b2.trans b3) (a2.trans a3) _ _ vr, RepS.mono b3 a3 _ _ ur, tr⟩
    | exc c st μ => rw [e] at q2; exact q2
    | no => rw [e] at q2; exact q2
theorem oat_merge : ∀ {ps : List (SD × SD)} {vs : List (V × V)} {ks : List D} {ds : List SD} {b : Ob}, RepPs K φ F ps vs → mergeG ps ks ds = some b →
    ∃ kvs : List (Key × V), vs = kvs.map (fun kv => (kV kv.1, kv.2)) ∧ ∀ kvs0 : List (Key × V), Reps K F ks (kvs0.map fun p => kV p.1) → RepsS K φ F ds (kvs0.map (·.2)) → OAt K φ F b (.dK (mergeK kvs0 kvs))
  | [], vs, ks, ds, b, h, e => by
    have h : vs = [] := h
    subst h
    unfold mergeG at e
    cases e
    exact ⟨[], rfl, fun kvs0 h1 h2 => ⟨kvs0, rfl, h1, h2⟩⟩
  | (.fz k, v) :: r, _, ks, ds, b, ⟨x, u, h1, h2, h3, h4⟩, e => by
    subst h1
    unfold mergeG at e
    cases ek : keyD k with
    | none => simp only [ek] at e; cases e
    | some κ =>
      simp only [ek] at e
      obtain ⟨kvs, e1, e2⟩ := oat_merge h4 e
      subst e1
      obtain ⟨ey, rk⟩ := key_rep (H := F) (.inl h2) ek
      refine ⟨(κ, x.2) :: kvs, by rw [List.map_cons, ← ey], fun kvs0 g1 g2 => ?_⟩
      rw [ey] at rk
      have o := oat_put ek rk h3 g1 g2
      obtain ⟨kvs1, e3, g3, g4⟩ := o
      cases e3
      exact e2 _ g3 g4
  | (.lab n, v) :: r, _, ks, ds, b, _, e => by unfold mergeG at e; cases e
  | (.tup n, v) :: r, _, ks, ds, b, _, e => by unfold mergeG at e; cases e
theorem dPs_len : ∀ {ps : List S1P} {s : S2} {t : List (SD × SD) × S2}, dPs ps s = .ok t → t.1.length = ps.length
  | [], s, t, e => by unfold dPs at e; cases e; rfl
  | p :: r, s, t, e => by
    unfold dPs at e
    cases e1 : p.1 s with
    | exc c st μ => rw [e1] at e; cases e
    | no => rw [e1] at e; cases e
    | ok q1 =>
      rw [e1] at e
      have e : dPs1 p.2 r q1 = .ok t := e
      unfold dPs1 at e
      cases e2 : p.2 q1.2 with
      | exc c st μ => rw [e2] at e; cases e
      | no => rw [e2] at e; cases e
      | ok q2 =>
        rw [e2] at e
        have e : dPs2 q1.1 r q2 = .ok t := e
        unfold dPs2 at e
        cases e3 : dPs r q2.2 with
        | exc c st μ => rw [e3] at e; cases e
        | no => rw [e3] at e; cases e
        | ok t2 =>
          rw [e3] at e
          have e : dPs3 q1.1 q2.1 t2 = .ok t := e
          unfold dPs3 at e
          cases e
          show t2.1.length + 1 = r.length + 1
          rw [dPs_len e3]
theorem up_disp {ps : List S1P} (h15 : ps.length ≤ 15) {Q : VK} (h : upE K W (zDct ps) σ H Q) : tDisp (upPs K W ps) σ H Q := by
  obtain ⟨E, φ, F, s, S, q⟩ := h
  intro p hp
  have S0 := S.made (b := .dct [] []) (o := .dK []) hp ⟨[], rfl, rfl, rfl⟩
  have ep : (φ ++ [p])[s.2.length]? = some p := by
    rw [← S.len]; simp
  refine up_pairs (s := (s.1, s.2 ++ [some (.dct [] [])])) S0 ?_
  unfold zDct at q
  cases e : dPs ps (s.1, s.2 ++ [some (.dct [] [])]) with
  | no => rw [e] at q; exact q
  | exc c st μ => rw [e] at q; exact fun φ1 F1 H1 a b => q φ1 F1 H1 a ((Le.app _ _).trans b)
  | ok t =>
    rw [e] at q
    intro vs φ1 F1 H1 a1 b1 S1 tr
    have q : EndES K W E φ F σ (zDct1 s.2.length t) Q := q
    unfold zDct1 at q
    by_cases hd : t.2.2[s.2.length]? = some (some (.dct [] []))
    · rw [if_pos hd] at q
      have el : φ1[s.2.length]? = some p := b1 _ _ ep
      obtain ⟨a', o', g1, g2, g3, g4, kvs, rfl, r1, r2⟩ := S1.sto _ _ hd
      rw [el] at g1; cases g1
      have hk : kvs = [] := by
        cases kvs with
        | nil => rfl
        | cons c cs => obtain ⟨v, u, e1, _⟩ := r2
      subst hk
      refine ⟨g4, ?_⟩
      cases em : mergeG t.1 [] [] with
      | none => rw [em] at q; exact q.elim
      | some b =>
        rw [em] at q
        obtain ⟨kvs, e1, e2⟩ := oat_merge tr em
        refine ⟨kvs, e1, ?_, ?_⟩
        · have h1 := tr.length
          rw [e1, List.length_map] at h1
          rw [h1, dPs_len e]; exact h15
        · exact q _ φ1 F1 _ a1 ((Le.app _ _).trans b1) (S1.write hd el (e2 [] rfl rfl)) ⟨p, el, rfl⟩
    · rw [if_neg hd] at q; exact q.elim
end
variable {X : Cx} {W : Wx} {pos : Pos}
abbrev BPs (X : Cx) (W : Wx) (pos : Pos) (keys : List (Option Expr)) (values : List Expr) (ps : List S1P) : Prop := PPs X pos keys values (upPs X.K W ps)
theorem bps_nil : BPs X W pos [] [] [] := pps_nil
theorem bps_cons {k v : Expr} {ks : List (Option Expr)} {vs : List Expr} {f g : SE} {ps : List S1P} (hk : BE X W k f) (hv : BE X W v g) (hr : BPs X W pos ks vs ps) : BPs X W pos (some k :: ks) (v :: vs) ((f, g) :: ps) := pps_cons hk hv hr
theorem be_dct {keys : List (Option Expr)} {values : List Expr} {ps : List S1P} (h : BPs X W pos keys values ps) (hall : keys.all (·.isSome) = true) (hl : keys.length = values.length) (h0 : keys ≠ []) (h15 : keys.length ≤ 15) (hp : ps.length ≤ 15) : BE X W (.Dict keys values pos) (zDct ps) :=
  PE.imp (pe_disp h hall hl h0 h15) fun σ H Q h => up_disp hp h
theorem zDct_ap (ps : List S1P) (st : Sts) (μ : Sto) : zDct ps (st, μ) = (dPs ps (st, μ ++ [some (.dct [] [])])).bind (zDct1 μ.length) := byDef rfl
theorem dPs_nil (s : S2) : dPs [] s = .ok ([], s) := by rw [dPs]
theorem dPs_cons (f g : SE) (r : List S1P) (s : S2) : dPs ((f, g) :: r) s = (f s).bind (dPs1 g r) := by rw [dPs]
theorem dPs1_ap (g : SE) (r : List S1P) (a : SD) (s : S2) : dPs1 g r (a, s) = (g s).bind (dPs2 a r) := by rw [dPs1]
theorem dPs2_ap (r : List S1P) (a b : SD) (s : S2) : dPs2 a r (b, s) = (dPs r s).bind (dPs3 a b) := by rw [dPs2]
theorem dPs3_ap (a b : SD) (t : List (SD × SD)) (s : S2) : dPs3 a b (t, s) = .ok ((a, b) :: t, s) := byDef rfl
theorem zDct1_ap (n : Nat) (t : List (SD × SD)) (st : Sts) (μ : Sto) : zDct1 n (t, st, μ) = if μ[n]? = some (some (.dct [] [])) then zDctE (mergeG t [] []) n (st, μ) else .no := byDef rfl
theorem zDctE_some (b : Ob) (n : Nat) (st : Sts) (μ : Sto) : zDctE (some b) n (st, μ) = .ok (.lab n, st, μ.set n (some b)) := byDef rfl
theorem mergeG_nil (ks : List D) (vs : List SD) : mergeG [] ks vs = some (.dct ks vs) := by rw [mergeG]
theorem mergeG_str (x : List Nat) (v : SD) (r : List (SD × SD)) (ks : List D) (vs : List SD) : mergeG ((.fz (.str x), v) :: r) ks vs = mergeG r (putG ks vs (.str x) v).1 (putG ks vs (.str x) v).2 := by rw [mergeG]; rfl
end Vl
/-! # for over a dict, over range(a, b), with a body over a store -/
namespace Vl
open PySem PySem.Spec PyProof.Rows L2
section
variable {K : PySem.W.Frag} {φ : List Addr} {F F' : Hp} {d : Addr} {kvs : List (Key × V)}
mutual
theorem RepS.sw (ne : ∀ b, b ≠ d → F' b = F b) (h : Rd F d (.dK kvs)) (h' : Rd F' d (.dK kvs)) : ∀ (x : SD) (v : V), RepS K φ F x v → RepS K φ F' x v
  | .fz x, v, q => Rep.sw ne h h' x v q
  | .lab n, v, q => q
  | .tup ds, _, ⟨a, vs, h1, h2, h3⟩ => ⟨a, vs, h1, by
      have hd : a ≠ d := by
        rintro rfl
        cases Rd.kind (.inl h2) h (fun _ _ e => nomatch e) (fun _ _ e => nomatch e)
      rw [ne a hd]; exact h2, RepsS.sw ne h h' ds vs h3⟩
theorem RepsS.sw (ne : ∀ b, b ≠ d → F' b = F b) (h : Rd F d (.dK kvs)) (h' : Rd F' d (.dK kvs)) : ∀ (xs : List SD) (vs : List V), RepsS K φ F xs vs → RepsS K φ F' xs vs
  | [], _, q => q
  | x :: xs, _, ⟨v, r, h1, h2, h3⟩ => ⟨v, r, h1, RepS.sw ne h h' x v h2, RepsS.sw ne h h' xs r h3⟩
end
theorem OAt.sw (ne : ∀ b, b ≠ d → F' b = F b) (h : Rd F d (.dK kvs)) (h' : Rd F' d (.dK kvs)) {b : Ob} {o : HO} (q : OAt K φ F b o) : OAt K φ F' b o := by
  cases b with
  | lst ds => obtain ⟨vs, h1, h2⟩ := q; exact ⟨vs, h1, RepsS.sw ne h h' _ _ h2⟩
  | dct ks ds => obtain ⟨ls, h1, h2, h3⟩ := q; exact ⟨ls, h1, Reps.sw ne h h' _ _ h2, RepsS.sw ne h h' _ _ h3⟩
  | dcu ks ds => obtain ⟨ls, h1, h2, h3⟩ := q; exact ⟨ls, h1, h2, RepsS.sw ne h h' _ _ h3⟩
  | ins n ks fs => obtain ⟨C, dx, vs, h1, h2, h3, h4⟩ := q; exact ⟨C, dx, vs, h1, h2, h3, RepsS.sw ne h h' _ _ h4⟩
end
section
variable {K : PySem.W.Frag} {E : Ent} {φ : List Addr} {F H : Hp} {st : Sts} {μ : Sto} {σ : L2.St} {d : Addr} {od : Obj} {kvs : List (Key × V)}
theorem SimS.lock (S : SimS K E φ F H st μ σ) (hF : F d = some (.dK kvs)) : SimS K (E.lk d (.frz od (.dK kvs))) φ (upd F d (.frz od (.dK kvs))) (upd H d (.frz od (.dK kvs))) st μ σ := by
  have ne : ∀ b, b ≠ d → upd F d (.frz od (.dK kvs)) b = F b := fun b hb => upd_ne hb
  have r1 : Rd F d (.dK kvs) := .inl hF
  have r2 : Rd (upd F d (.frz od (.dK kvs))) d (.dK kvs) := .inr ⟨od, upd_same⟩
  refine ⟨(S.sim.lock (od := od) hF).setR rfl rfl fun s v r => RepS.sw ne r1 r2 _ _ r, S.len, fun n b e => ?_, S.inj, S.sep⟩
  obtain ⟨a, o, e1, e2, e3, e4, e5⟩ := S.sto n b e
  have had : a ≠ d := by rintro rfl; rw [hF] at e2; cases e2
  exact ⟨a, o, e1, by rw [upd_ne had]; exact e2, (lkH_ne had).trans e3, by rw [upd_ne had]; exact e4, e5.sw ne r1 r2⟩
theorem Was.sto (w : Was E d kvs) (φ : List Addr) (F : Hp) : Was (E.sto K φ F) d kvs := ⟨w.h, w.f, w.g⟩
theorem SimS.was (S : SimS K E φ F H st μ σ) (hF : F d = some (.dK kvs)) : Was E d kvs := by
  have w := Was.of S.sim hF
  exact ⟨w.h, w.f, w.g⟩
theorem SimS.unlock (w : Was E d kvs) (S : SimS K (E.lk d (.frz od (.dK kvs))) φ F H st μ σ) (hF : F d = some (.frz od (.dK kvs))) : SimS K E φ (upd F d (.dK kvs)) (upd H d (.dK kvs)) st μ σ := by
  have ne : ∀ b, b ≠ d → upd F d (.dK kvs) b = F b := fun b hb => upd_ne hb
  have r1 : Rd F d (.dK kvs) := .inr ⟨od, hF⟩
  have r2 : Rd (upd F d (.dK kvs)) d (.dK kvs) := .inl upd_same
  have S1 : Sim K ((E.sto K φ F).lk d (.frz od (.dK kvs))) F H st σ := S.sim.setR rfl rfl fun s v r => r
  refine ⟨(Sim.unlock (w.sto φ F) S1 hF).setR rfl rfl fun s v r => RepS.sw ne r1 r2 _ _ r, S.len, fun n b e => ?_, S.inj, S.sep⟩
  obtain ⟨a, o, e1, e2, e3, e4, e5⟩ := S.sto n b e
  have had : a ≠ d := by rintro rfl; rw [hF] at e2; cases e2
  exact ⟨a, o, e1, by rw [upd_ne had]; exact e2, (lkH_ne had).symm.trans e3, by rw [upd_ne had]; exact e4, e5.sw ne r1 r2⟩
end
def noExcS (x : RS SFlow) : RS SFlow := match x with
  | .exc _ _ _ => .no
  | x => x
def zForDE (o : Option Sl) (g : SG) (body : SS) (s : S2) : RS SFlow := match o with
  | some (.val (.dct ks _)) => noExcS (zloop g body yes1 (ks.map .fz) s)
  | _ => .no
def zForD (i : Nat) (g : SG) (body : SS) : SS := fun s => zForDE (s.1[i]?) g body s
section
variable {X : Cx} {W : Wx} {pos : Pos}
theorem zloop_dict {E : Ent} {φ : List Addr} {F H : Hp} {g : SG} {body : SS} {ks : List D} {D : Ends} {s : S2} {σ : L2.St} {a : Addr} {od : Obj} {kvs : List (Key × V)} (S : SimS X.K E φ F H s.1 s.2 σ) (q : EndSS X.K W E φ F (zloop g body yes1 (ks.map .fz) s) D) (hF : F a = some (.frz od (.dK kvs))) (rk : Reps X.K F ks (kvs.map fun p => kV p.1)) :
    ∃ Wl : Nat → Nat → L2.St → Hp → Prop, (∃ m, Wl 0 m σ H) ∧ ∀ i m σ H, Wl i m σ H → ((Itk a od kvs).stop i H ∧ D.nx σ H) ∨
      ((Itk a od kvs).go i H ∧ ∃ N : L2.St → Hp → Prop, (∀ σ' H', N σ' H' → ∃ m', m' < m ∧ Wl (i + 1) m' σ' H') ∧ ∀ x H', (Itk a od kvs).yld i H x H' → upGZ X.K g x σ H' fun σ2 H2 => upZ X.K W body { D with nx := N, ct := N, bk := D.nx } σ2 H2) := by
  have lk : ks.length = kvs.length := by rw [← rk.length, List.length_map]
  refine zloop_rule (J := Itk a od kvs) S q (fun i d φ2 F2 H2 s2 σ2 a1 b1 S2 _ hd => ?_) (fun i φ2 F2 H2 s2 σ2 a1 b1 S2 _ hl => ?_)
  · rw [List.getElem?_map] at hd
    obtain ⟨d', hd', rfl⟩ := Option.map_eq_some_iff.mp hd
    obtain ⟨w, ew, rw'⟩ := Reps.get rk hd'
    obtain ⟨hlt, _⟩ := List.getElem?_eq_some_iff.mp hd'
    refine ⟨⟨S2.sim.sub _ _ (a1 _ _ hF), by omega⟩, fun x H' ⟨y1, k, v, y2, y3⟩ => ⟨y1, ?_⟩⟩
    rw [List.getElem?_map, y2] at ew
    cases ew
    subst y3
    exact Rep.mono a1 _ _ rw'
  · rw [List.length_map] at hl
    exact ⟨S2.sim.sub _ _ (a1 _ _ hF), by omega⟩
theorem endsS_lock {E : Ent} {φ : List Addr} {F : Hp} {d : Addr} {kvs : List (Key × V)} {od : Obj} {x : RS SFlow} {D : Ends} (w : Was E d kvs) (hF : F d = some (.dK kvs)) (q : EndSS X.K W E φ F (noExcS x) D) :
    EndSS X.K W (E.lk d (.frz od (.dK kvs))) φ (upd F d (.frz od (.dK kvs))) x ⟨fun σ' H' => H' d = some (.frz od (.dK kvs)) ∧ D.nx σ' (upd H' d (.dK kvs)), fun v H' => H' d = some (.frz od (.dK kvs)) ∧ D.rt v (upd H' d (.dK kvs)), fun σ' H' => H' d = some (.frz od (.dK kvs)) ∧ D.bk σ' (upd H' d (.dK kvs)), fun σ' H' => H' d = some (.frz od (.dK kvs)) ∧ D.ct σ' (upd H' d (.dK kvs))⟩ := by
  have back : ∀ F', Same (upd F d (.frz od (.dK kvs))) F' → F' d = some (.frz od (.dK kvs)) ∧ Same F (upd F' d (.dK kvs)) := fun F' s => by
    refine ⟨s _ _ upd_same, fun b u e => ?_⟩
    by_cases hb : b = d
    · subst hb
      rw [hF] at e
      rw [upd_same, e]
    · rw [upd_ne hb]
      exact s _ _ (by rw [upd_ne hb]; exact e)
  cases x with
  | no => exact q.elim
  | exc c s μ => exact q.elim
  | ok fl =>
    cases fl with
    | nx st' => exact fun σ' φ' F' H' s p S' => let ⟨b1, b2⟩ := back F' s; ⟨S'.sim.sub _ _ b1, q σ' φ' _ _ b2 p (S'.unlock w b1)⟩
    | bk st' => exact fun σ' φ' F' H' s p S' => let ⟨b1, b2⟩ := back F' s; ⟨S'.sim.sub _ _ b1, q σ' φ' _ _ b2 p (S'.unlock w b1)⟩
    | ct st' => exact fun σ' φ' F' H' s p S' => let ⟨b1, b2⟩ := back F' s; ⟨S'.sim.sub _ _ b1, q σ' φ' _ _ b2 p (S'.unlock w b1)⟩
    | rt r μ => exact fun v st' σ' φ' F' H' s p S' vr => let ⟨b1, b2⟩ := back F' s; ⟨S'.sim.sub _ _ b1, q v st' σ' φ' _ _ b2 p (S'.unlock w b1) (RepS.sw (fun b hb => upd_ne hb) (.inr ⟨od, b1⟩) (.inl upd_same) _ _ vr)⟩
theorem noExcS_of {E : Ent} {φ : List Addr} {F : Hp} {x : RS SFlow} {D : Ends} (q : EndSS X.K W E φ F (noExcS x) D) : EndSS X.K W E φ F x D := by
  cases x with
  | exc c s μ => exact q.elim
  | no => exact q
  | ok f => exact q
theorem bs_forD {tg o : Expr} {ss : List Stmt} {i : Nat} {g : SG} {body : SS} (hp : PassesOwn (model X.prog X.w) X.A X.env X.xe) (hc : X.calm = true) (ho : PE X o (tVar i)) (hg : BG X tg g) (hb : BSs X W ss body)
    (hs : ∀ x, foldedSetIterable o X.env x = pure x := by intro _; rfl) : BS X W (.For tg o ss [] pos) (zForD i g body) :=
  PS.imp (PS.or (ps_lock (ps_for hp hc (pi_keys ho) hg hb hs)) (ps_for hp hc (pi_keys ho) hg hb hs)) fun D σ H ⟨E, φ, F, s, S, q⟩ => by
    unfold zForD at q
    cases e : s.1[i]? with
    | none => rw [e] at q; exact q.elim
    | some x =>
      rw [e] at q
      cases x with
      | no => exact q.elim
      | adr _ => exact q.elim
      | own m => exact q.elim
      | val d =>
        cases d with
        | dct ks vs =>
          have q : EndSS X.K W E φ F (noExcS (zloop g body yes1 (ks.map .fz) s)) D := q
          obtain ⟨v, e1, a, kvs, rfl, hF, rk, _⟩ := S.sim.val i _ e
          rcases hF with hF | ⟨od, hF⟩
          · refine .inl ⟨a, .dK kvs, S.sim.sub _ _ hF, True.intro, fun od => ?_⟩
            have S' := S.lock (od := od) hF
            refine ⟨_, e1, a, od, rfl, .inl ⟨kvs, upd_same, ?_⟩⟩
            exact zloop_dict S' (endsS_lock (S.was hF) hF q) upd_same (Reps.sw (fun b hb => upd_ne hb) (.inl hF) (.inr ⟨od, upd_same⟩) _ _ rk)
          · refine .inr ⟨_, e1, a, od, rfl, .inl ⟨kvs, S.sim.sub _ _ hF, ?_⟩⟩
            exact zloop_dict S (noExcS_of q) hF rk
        | _ => exact q.elim
/-! ### range(a, b) -/
def zForR2' (g : SG) (body : SS) (ds : List SD) (s : S2) : RS SFlow := match ds with
  | [.fz (.int a), .fz (.int b)] => if (bigI a && bigI b) = true then zloop g body yes1 ((rangeD a (b - a).toNat).map .fz) s else .no
  | _ => .no
def zForR2a (g : SG) (body : SS) (p : List SD × S2) : RS SFlow := zForR2' g body p.1 p.2
def zForR2 (f : SA) (g : SG) (body : SS) : SS := fun s => (f s).bind (zForR2a g body)
theorem bs_forR2 {tg e e2 : Expr} {ss : List Stmt} {f : SA} {g : SG} {body : SS} {p p2 : Pos} (hp : PassesOwn (model X.prog X.w) X.A X.env X.xe) (hc : X.calm = true) (hgl : Gl X "range") (hm : X.mg "range" = none) (he : BA X W [e, e2] f) (hg : BG X tg g) (hb : BSs X W ss body)
    (hst : starEach [e, e2] X.env = [(false, eval e X.env), (false, eval e2 X.env)] := by rfl) (hst2 : starEach [e2] X.env = [(false, eval e2 X.env)] := by rfl) (hs : ∀ x, foldedSetIterable (.Call (.Name "range" p) [e, e2] [] p2) X.env x = pure x := by intro _; rfl) : BS X W (.For tg (.Call (.Name "range" p) [e, e2] [] p2) ss [] pos) (zForR2 f g body) :=
  PS.imp (ps_for hp hc (pi_range2 hgl hm he hst hst2) hg hb hs) fun D σ H ⟨E, φ, F, s, S, q⟩ => by
    refine zAS S q fun rs s1 vs φ1 F1 H1 a b S1 ar k => ?_
    have k : EndSS X.K W E φ1 F1 (zForR2' g body rs s1) D := k
    unfold zForR2' at k
    split at k
    · rename_i lo hi _
      obtain ⟨v, w, rfl, h, h2⟩ := ar.two'
      have h : v = .int lo := h
      have h2 : w = .int hi := h2
      subst h h2
      by_cases hn : (bigI lo && bigI hi) = true
      · rw [if_pos hn] at k
        rw [Bool.and_eq_true] at hn
        exact ⟨lo, hi, rfl, ⟨(bigI_ok hn.1).1, (bigI_ok hn.1).2, (bigI_ok hn.2).1, (bigI_ok hn.2).2⟩, zrange_rule S1 k⟩
      · rw [if_neg hn] at k; exact k.elim
    · exact k.elim
end
theorem noExcS_ok (f : SFlow) : noExcS (.ok f) = .ok f := byDef rfl
theorem noExcS_ite {c : Prop} [Decidable c] (x y : RS SFlow) : noExcS (if c then x else y) = if c then noExcS x else noExcS y := by split <;> rfl
theorem zForD_ap (i : Nat) (g : SG) (body : SS) (st : Sts) (μ : Sto) : zForD i g body (st, μ) = zForDE (st[i]?) g body (st, μ) := byDef rfl
theorem zForDE_val (ks vs : List D) (g : SG) (body : SS) (s : S2) : zForDE (some (.val (.dct ks vs))) g body s = noExcS (zloop g body yes1 (ks.map .fz) s) := byDef rfl
theorem zForR2_ap (f : SA) (g : SG) (body : SS) (s : S2) : zForR2 f g body s = (f s).bind (zForR2a g body) := byDef rfl
theorem zForR2a_ap (g : SG) (body : SS) (a b : Int) (s : S2) : zForR2a g body ([.fz (.int a), .fz (.int b)], s) = if (bigI a && bigI b) = true then zloop g body yes1 ((rangeD a (b - a).toNat).map .fz) s else .no := byDef rfl
end Vl
/-! # and, or, a if t else b over a store -/
namespace Vl
open PySem PySem.Spec PyProof.Rows L2
def zAnd1 (g : SE) (p : SD × S2) : RS (SD × S2) := match p.1 with
  | .fz (.bl c) => if c = true then g p.2 else .ok (.fz (.bl false), p.2)
  | _ => .no
def zAnd (f g : SE) : SE := fun s => (f s).bind (zAnd1 g)
def zOr1 (g : SE) (p : SD × S2) : RS (SD × S2) := match p.1 with
  | .fz (.bl c) => if c = true then .ok (.fz (.bl true), p.2) else g p.2
  | _ => .no
def zOr (f g : SE) : SE := fun s => (f s).bind (zOr1 g)
def zIfE1 (f g : SE) (p : Bool × S2) : RS (SD × S2) := if p.1 = true then f p.2 else g p.2
def zIfE (t : SB) (f g : SE) : SE := fun s => (t s).bind (zIfE1 f g)
section
variable {X : Cx} {W : Wx} {pos : Pos}
theorem be_one {op : BoolOp} {a : Expr} {f : SE} (h : BE X W a f) : BE X W (.BoolOp op [a] pos) f := pe_one h
theorem be_and {a b : Expr} {rest : List Expr} {f g : SE} (ha : BE X W a f) (hb : BE X W (.BoolOp .And (b :: rest) pos) g) : BE X W (.BoolOp .And (a :: b :: rest) pos) (zAnd f g) := PE.imp (pe_and ha hb) fun σ H Q ⟨E, φ, F, s, S, q⟩ => by
  refine zE S q fun r s1 v φ1 F1 H1 a b S1 vr k => ?_
  cases r with
  | lab n => exact k.elim
  | tup ds => exact k.elim
  | fz d =>
    cases d with
    | bl c =>
      have vr : v = .bl c := vr
      have k : EndES X.K W E φ1 F1 σ (if c = true then g s1 else .ok (.fz (.bl false), s1)) Q := k
      refine ⟨c, vr, ?_⟩
      cases c with
      | true => rw [if_pos rfl] at k ⊢; exact ⟨E, φ1, F1, s1, S1, k⟩
      | false => rw [if_neg Bool.false_ne_true] at k ⊢; exact k _ φ1 F1 H1 (Same.refl _) (Le.refl _) S1 rfl
    | _ => exact k.elim
theorem be_or {a b : Expr} {rest : List Expr} {f g : SE} (ha : BE X W a f) (hb : BE X W (.BoolOp .Or (b :: rest) pos) g) : BE X W (.BoolOp .Or (a :: b :: rest) pos) (zOr f g) := PE.imp (pe_or ha hb) fun σ H Q ⟨E, φ, F, s, S, q⟩ => by
  refine zE S q fun r s1 v φ1 F1 H1 a b S1 vr k => ?_
  cases r with
  | lab n => exact k.elim
  | tup ds => exact k.elim
  | fz d =>
    cases d with
    | bl c =>
      have vr : v = .bl c := vr
      have k : EndES X.K W E φ1 F1 σ (if c = true then .ok (.fz (.bl true), s1) else g s1) Q := k
      refine ⟨c, vr, ?_⟩
      cases c with
      | true => rw [if_pos rfl] at k ⊢; exact k _ φ1 F1 H1 (Same.refl _) (Le.refl _) S1 rfl
      | false => rw [if_neg Bool.false_ne_true] at k ⊢; exact ⟨E, φ1, F1, s1, S1, k⟩
    | _ => exact k.elim
theorem be_ifE {c a b : Expr} {t : SB} {f g : SE} (hc : BT X W c t) (ha : BE X W a f) (hb : BE X W b g) : BE X W (.IfExp c a b pos) (zIfE t f g) := PE.imp (pe_ifExp hc ha hb) fun σ H Q ⟨E, φ, F, s, S, q⟩ => by
  refine zTE S q fun r s1 φ1 F1 H1 a b S1 k => ?_
  have k : EndES X.K W E φ1 F1 σ (if r = true then f s1 else g s1) Q := k
  cases r with
  | true => rw [if_pos rfl] at k ⊢; exact ⟨E, φ1, F1, s1, S1, k⟩
  | false => rw [if_neg Bool.false_ne_true] at k ⊢; exact ⟨E, φ1, F1, s1, S1, k⟩
end
theorem zAnd_ap (f g : SE) (s : S2) : zAnd f g s = (f s).bind (zAnd1 g) := byDef rfl
theorem zAnd1_ap (g : SE) (c : Bool) (s : S2) : zAnd1 g (.fz (.bl c), s) = if c = true then g s else .ok (.fz (.bl false), s) := byDef rfl
theorem zOr_ap (f g : SE) (s : S2) : zOr f g s = (f s).bind (zOr1 g) := byDef rfl
theorem zOr1_ap (g : SE) (c : Bool) (s : S2) : zOr1 g (.fz (.bl c), s) = if c = true then .ok (.fz (.bl true), s) else g s := byDef rfl
theorem zIfE_ap (t : SB) (f g : SE) (s : S2) : zIfE t f g s = (t s).bind (zIfE1 f g) := byDef rfl
theorem zIfE1_ap (f g : SE) (c : Bool) (s : S2) : zIfE1 f g (c, s) = if c = true then f s else g s := byDef rfl
end Vl
namespace Lw
open Vl
def tx0 : List Nat := [97, 98, 99, 100, 101, 102, 103, 104, 105, 106, 107, 108, 109, 110, 111, 112, 113, 114, 115, 116, 117, 118, 119, 120, 121, 122]
def tx1 : List Nat := [48, 49, 50, 51, 52, 53, 54, 55, 56, 57]
def tx2 : List Nat := [65, 66, 67, 68, 69, 70, 71, 72, 73, 74, 75, 76, 77, 78, 79, 80, 81, 82, 83, 84, 85, 86, 87, 88, 89, 90]
def tx3 : List Nat := [48, 49, 50, 51, 52, 53, 54, 55, 56, 57, 97, 98, 99, 100, 101, 102, 103, 104, 105, 106, 107, 108, 109, 110, 111, 112, 113, 114, 115, 116, 117, 118, 119, 120, 121, 122]
def lb_begins_in_1 : VS :=
  (vIf (vAndT (vTest (v2 oNotInA (vPeek 2) (vC (.str tx0)))) (vTest (v2 oNotInA (vPeek 2) (vC (.str tx1))))) (vRet (vC (.bl false))) vNx)
def b_begins_in : VS :=
  (vSeq (vIf (vOrT (vNotT (vTest (vIsi .str (vPeek 0)))) (vOrT (vTest (v2 oEqA (vPeek 0) (vC (.str [])))) (vTest (v2 oGt (vN oLenU (vCons (vPeek 0) vNil)) (vC (.int 12)))))) (vRet (vC (.bl false))) vNx)
    (vSeq (vIf (vTest (v2 oNotInA (v2 oIxA (vPeek 0) (vC (.int 0))) (vPeek 1))) (vRet (vC (.bl false))) vNx)
    (vSeq (vFor (vSl (vPeek 0) (vPart (vC (.int 1))) vNoPart) (gN 2) lb_begins_in_1)
    (vRet (vC (.bl true))))))
def run_begins_in : Fn := runB 2 1 b_begins_in
def b_is_var : VS :=
  (vRet (vCall run_begins_in (vCons (vArg (vName 0)) (vCons (vArg (vC (.str tx2))) vNil))))
def run_is_var : Fn := runB 1 0 b_is_var
def lb_matched_1 : VS :=
  (vSeq (vAsg 6 (vName 4))
    (vSeq (vIf (vTest (vCall run_is_var (vCons (vArg (vName 4)) vNil))) (vAsg 6 (vMutT "dict" 3 mSetD (vCons (vSto (vName 4)) (vCons (vSto (vName 5)) vNil)))) vNx)
    (vIf (vTest (v2 oNeA (vPeek 6) (vPeek 5))) (vRet (vC .non)) vNx)))
def b_matched : VS :=
  (vSeq (vIf (vTest (v2 oNeA (vN oLenU (vCons (vPeek 0) vNil)) (vN oLenU (vCons (vPeek 1) vNil)))) (vRet (vC .non)) vNx)
    (vSeq (vAsg 3 (vN oDict (vCons (vPeek 2) vNil)))
    (vSeq (vForI (sZip (vCons (vSto (vName 0)) (vCons (vSto (vName 1)) vNil))) (gT [(gN 4), (gN 5)]) lb_matched_1)
    (vRet (vPeek 3)))))
def run_matched : Fn := runB 3 4 b_matched
def b_own : VS :=
  (vSeq (vIf (vTest (vIsi .list (vPeek 0))) (vRet (vN oList (vCons (vPeek 0) vNil))) vNx)
    (vRet (vPeek 0)))
def run_own : Fn := runB 1 0 b_own
def zb_asked_1 : SS :=
  (zIf (zT (vAndT (vTest (v2 oEqA (vPeek 3) (v2 oIxA (vPeek 1) (vC (.int 0))))) (vTest (v2 oNotN (vCall run_matched (vCons (vArg (v2 oIxA (vPeek 1) (vC (.int 1)))) (vCons (vArg (vName 4)) (vCons (vArg vNewD) vNil)))) (vC .non))))) (zDrop (zMut "list" oAppend (zNm 2) (zCons (zTup (zCons (zO (vName 4)) (zCons (zO (vCall run_own (vCons (vArg (vName 5)) vNil))) zNil))) zNil))) zNx)
def b_asked : SS :=
  (zSeq (zAsg 2 (zO (vLst vNil)))
    (zSeq (zFor (zO (vName 0)) (zgT [(zgN 3), (zgN 4), (zgN 5)]) zb_asked_1)
    (zRet (zNm 2))))
def run_asked : FnS := runS 2 4 b_asked
def b_l_cell_at : VS :=
  (vSeq (vIf (vTest (v2 oLt (vPeek 1) (vN oLenU (vCons (vPeek 0) vNil)))) (vRet (v2 oIxA (vPeek 0) (vPeek 1))) vNx)
    (vRet (vC (.int 0))))
def run_l_cell_at : Fn := runB 2 0 b_l_cell_at
def lb_l_name_1 : VS :=
  (vSeq (vAsg 9 (v2 oAdd (v2 oAdd (v2 oDiv (vPeek 0) (v2 oAdd (vPeek 8) (vC (.int 2)))) (v2 oMul (vC (.int 9)) (vPeek 8))) (v2 oMul (v2 oMul (vN oIntS (vCons (v2 oEqA (vPeek 8) (vPeek 6)) vNil)) (vPeek 2)) (v2 oIxA (vLst (vCons (vSto (vC (.int 1))) (vCons (vSto (vC (.int 5))) (vCons (vSto (vC (.int 7))) (vCons (vSto (vC (.int 11))) vNil))))) (v2 oMod (v2 oDiv (vPeek 1) (vC (.int 12))) (vC (.int 4)))))))
    (vIf (vTest (v2 oEqA (vPeek 8) (vC (.int 0)))) (vAsg 7 (v2 oIxA (vPeek 3) (v2 oMod (vPeek 9) (vC (.int 26))))) (vAsg 7 (v2 oAdd (vPeek 7) (v2 oIxA (vPeek 4) (v2 oMod (vPeek 9) (vC (.int 36))))))))
def b_l_name : VS :=
  (vSeq (vAsg 4 (vC (.str tx3)))
    (vSeq (vAsg 5 (v2 oAdd (vC (.int 1)) (v2 oMod (vPeek 0) (vC (.int 12)))))
    (vSeq (vAsg 6 (v2 oMod (vPeek 1) (vPeek 5)))
    (vSeq (vAsg 7 (vC (.str [])))
    (vSeq (vForR1 (vCons (vPeek 5) vNil) (gN 8) lb_l_name_1)
    (vRet (vPeek 7)))))))
def run_l_name : Fn := runB 4 6 b_l_name
def b_l_thing : VS :=
  (vSeq (vAsg 4 (v2 oSub (v2 oMod (vPeek 2) (v2 oPow (vC (.int 10)) (vC (.int 30)))) (v2 oMod (vPeek 1) (vC (.int 1000)))))
    (vSeq (vIf (vTest (v2 oEqA (vPeek 0) (vC (.int 0)))) (vRet (vSl (vLst (vCons (vSto (vTup (vCons (vSto (vTup (vCons (vSto (vName 3)) vNil))) (vCons (vSto (v2 oAdd (vC (.int 1)) (v2 oMod (v2 oDiv (vPeek 1) (vC (.int 5))) (vC (.int 9))))) vNil)))) (vCons (vSto (vTup (vCons (vSto (vTup (vCons (vSto (vName 3)) (vCons (vSto (vName 3)) vNil)))) (vCons (vSto (v2 oAdd (vC (.int 1)) (v2 oMod (vPeek 2) (v2 oPow (vC (.int 10)) (vC (.int 30)))))) vNil)))) vNil))) vNoPart (vPart (v2 oAdd (vC (.int 1)) (v2 oMod (v2 oDiv (vPeek 1) (vC (.int 45))) (vC (.int 2))))))) vNx)
    (vSeq (vIf (vTest (v2 oEqA (vPeek 0) (vC (.int 1)))) (vRet (vSl (vLst (vCons (vSto (vName 4)) (vCons (vSto (v2 oAdd (vPeek 4) (v2 oMod (vPeek 1) (vC (.int 3))))) vNil))) vNoPart (vPart (v2 oMod (v2 oDiv (vPeek 1) (vC (.int 5))) (vC (.int 3)))))) vNx)
    (vSeq (vIf (vTest (v2 oEqA (vPeek 0) (vC (.int 2)))) (vRet (v2 oEqA (v2 oMod (v2 oDiv (vPeek 1) (vC (.int 5))) (vC (.int 2))) (vC (.int 1)))) vNx)
    (vSeq (vIf (vTest (v2 oEqA (v2 oMod (v2 oDiv (vPeek 1) (vC (.int 5))) (vC (.int 4))) (vC (.int 1)))) (vRet (vC .non)) vNx)
    (vRet (vPeek 4)))))))
def run_l_thing : Fn := runB 4 1 b_l_thing
def lb_l_value_ahead_1 : VS :=
  (vIf (vTest (v2 oNeA (vPeek 3) (vPeek 4))) (vRet (v2 oLt (vM1 oFind (vPeek 2) (vPeek 3)) (vM1 oFind (vPeek 2) (vPeek 4)))) vNx)
def b_l_value_ahead : VS :=
  (vSeq (vIf (vTest (v2 oNeA (vIsi .str (vPeek 0)) (vIsi .str (vPeek 1)))) (vRet (vIsi .str (vPeek 1))) vNx)
    (vSeq (vIf (vTest (vIsi .int (vPeek 0))) (vRet (v2 oLt (vPeek 0) (vPeek 1))) vNx)
    (vSeq (vAsg 2 (vC (.str tx3)))
    (vSeq (vForI (sZipS (vCons (vSto (vName 0)) (vCons (vSto (vName 1)) vNil))) (gT [(gN 3), (gN 4)]) lb_l_value_ahead_1)
    (vRet (v2 oLt (vN oLenU (vCons (vPeek 0) vNil)) (vN oLenU (vCons (vPeek 1) vNil))))))))
def run_l_value_ahead : Fn := runB 2 3 b_l_value_ahead
def lb_l_ahead_1 : VS :=
  (vIf (vTest (v2 oNeA (vPeek 2) (vPeek 3))) (vRet (vCall run_l_value_ahead (vCons (vArg (vName 2)) (vCons (vArg (vName 3)) vNil)))) vNx)
def b_l_ahead : VS :=
  (vSeq (vIf (vTest (v2 oNeA (v2 oIxA (vPeek 0) (vC (.int 0))) (v2 oIxA (vPeek 1) (vC (.int 0))))) (vRet (vCall run_l_value_ahead (vCons (vArg (v2 oIxA (vPeek 0) (vC (.int 0)))) (vCons (vArg (v2 oIxA (vPeek 1) (vC (.int 0)))) vNil)))) vNx)
    (vSeq (vForI (sZip (vCons (vSto (v2 oIxA (vPeek 0) (vC (.int 1)))) (vCons (vSto (v2 oIxA (vPeek 1) (vC (.int 1)))) vNil))) (gT [(gN 2), (gN 3)]) lb_l_ahead_1)
    (vRet (v2 oLt (vN oLenU (vCons (v2 oIxA (vPeek 0) (vC (.int 1))) vNil)) (vN oLenU (vCons (v2 oIxA (vPeek 1) (vC (.int 1))) vNil))))))
def run_l_ahead : Fn := runB 2 2 b_l_ahead
def cg_l_told_1 : VG := (gN 7)
def ct_l_told_1 : VT := vYes
def ce_l_told_1 : VE := (vSto (v2 oAdd (vCall run_l_cell_at (vCons (vArg (vName 0)) (vCons (vArg (vC (.int 4))) vNil))) (v2 oMul (vPeek 7) (vPeek 7))))
def cg_l_told_2 : VG := (gN 12)
def ct_l_told_2 : VT := vYes
def ce_l_told_2 : VE := (vSto (v2 oIxA (vPeek 2) (v2 oMod (v2 oDiv (vPeek 5) (v2 oIxA (vLst (vCons (vSto (vC (.int 49))) (vCons (vSto (vC (.int 196))) (vCons (vSto (vC (.int 784))) (vCons (vSto (vC (.int 3136))) vNil))))) (vPeek 12))) (vC (.int 4)))))
def wt_l_told_1 : VT :=
  (vAndT (vTest (v2 oLt (vPeek 11) (vN oLenU (vCons (vPeek 4) vNil)))) (vTest (vCall run_l_ahead (vCons (vArg (v2 oIxA (vPeek 4) (vPeek 11))) (vCons (vArg (vName 10)) vNil)))))
def lb_l_told_1 : VS :=
  (vAsg 11 (v2 oAdd (vPeek 11) (vC (.int 1))))
def lb_l_told_2 : VS :=
  (vSeq (vAsg 5 (v2 oMod (v2 oAdd (v2 oAdd (v2 oMul (vPeek 5) (vC (.int 48271))) (v2 oMod (v2 oIxA (vPeek 6) (vPeek 7)) (vC (.int 65521)))) (vC (.int 3))) (vC (.int 2147483647))))
    (vSeq (vAsg 8 (v2 oIxA (vLst (vCons (vSto (vC (.int 2))) (vCons (vSto (vC (.int 2))) (vCons (vSto (vC (.int 1))) (vCons (vSto (vC (.int 3))) (vCons (vSto (vC (.int 4))) (vCons (vSto (vC (.int 0))) (vCons (vSto (vC (.int 2))) vNil)))))))) (v2 oMod (v2 oDiv (vPeek 5) (vC (.int 7))) (vC (.int 7)))))
    (vSeq (vAsg 9 (vN oTuple (vCons (vComp (sR1 (vCons (vPeek 8) vNil)) cg_l_told_2 ct_l_told_2 ce_l_told_2 [12]) vNil)))
    (vSeq (vAsg 10 (vTup (vCons (vSto (v2 oIxA (vPeek 1) (v2 oIxA (vLst (vCons (vSto (vC (.int 0))) (vCons (vSto (vC (.int 0))) (vCons (vSto (vC (.int 1))) (vCons (vSto (vC (.int 2))) vNil))))) (v2 oMod (v2 oDiv (vPeek 5) (vC (.int 4))) (vC (.int 4)))))) (vCons (vSto (vName 9)) (vCons (vSto (vCall run_l_thing (vCons (vArg (v2 oMod (vCall run_l_cell_at (vCons (vArg (vName 0)) (vCons (vArg (vC (.int 6))) vNil))) (vC (.int 4)))) (vCons (vArg (v2 oDiv (vPeek 5) (vC (.int 11)))) (vCons (vArg (v2 oIxA (vPeek 6) (vPeek 7))) (vCons (vArg (vName 3)) vNil)))))) vNil)))))
    (vSeq (vAsg 11 (vC (.int 0)))
    (vSeq (whileN wt_l_told_1 lb_l_told_1 1024)
    (vIf (vOrT (vTest (v2 oEqA (vPeek 11) (vN oLenU (vCons (vPeek 4) vNil)))) (vTest (v2 oNeA (vSl (v2 oIxA (vPeek 4) (vPeek 11)) vNoPart (vPart (vC (.int 2)))) (vSl (vPeek 10) vNoPart (vPart (vC (.int 2))))))) (vDrop (vMutT "list" 4 mInsert (vCons (vSto (vName 11)) (vCons (vSto (vName 10)) vNil)))) vNx)))))))
def b_l_told : VS :=
  (vSeq (vAsg 4 (vLst vNil))
    (vSeq (vAsg 5 (v2 oAdd (v2 oMod (vCall run_l_cell_at (vCons (vArg (vName 0)) (vCons (vArg (vC (.int 4))) vNil))) (vC (.int 2147483587))) (vC (.int 5))))
    (vSeq (vAsg 6 (v2 oAdd (vSl (vPeek 0) (vPart (vC (.int 14))) (vPart (vC (.int 34)))) (vComp (sR1 (vCons (v2 oMod (vCall run_l_cell_at (vCons (vArg (vName 0)) (vCons (vArg (vC (.int 5))) vNil))) (vC (.int 21))) vNil)) cg_l_told_1 ct_l_told_1 ce_l_told_1 [7])))
    (vSeq (vForR1 (vCons (vN oLenU (vCons (vPeek 6) vNil)) vNil) (gN 7) lb_l_told_2)
    (vRet (vPeek 4))))))
def run_l_told : Fn := runB 4 9 b_l_told
def lb_l_matches_1 : VS :=
  (vSeq (vAsg 4 (v2 oIxA (vPeek 0) (vPeek 3)))
    (vSeq (vIf (vAndT (vTest (vIsi .str (vPeek 4))) (vTest (v2 oInA (v2 oIxA (vPeek 4) (vC (.int 0))) (vC (.str tx2))))) (vAsg 4 (vMutT "dict" 2 mSetD (vCons (vSto (vName 4)) (vCons (vSto (v2 oIxA (vPeek 1) (vPeek 3))) vNil)))) vNx)
    (vIf (vTest (v2 oNeA (vPeek 4) (v2 oIxA (vPeek 1) (vPeek 3)))) (vRet (vC (.bl false))) vNx)))
def b_l_matches : VS :=
  (vSeq (vIf (vTest (v2 oNeA (vN oLenU (vCons (vPeek 0) vNil)) (vN oLenU (vCons (vPeek 1) vNil)))) (vRet (vC (.bl false))) vNx)
    (vSeq (vAsg 2 vNewD)
    (vSeq (vForR1 (vCons (vN oLenU (vCons (vPeek 1) vNil)) vNil) (gN 3) lb_l_matches_1)
    (vRet (vC (.bl true))))))
def run_l_matches : Fn := runB 2 3 b_l_matches
def lb_l_terms_1 : VS :=
  (vSeq (vAsg 5 (vCall run_l_cell_at (vCons (vArg (vName 0)) (vCons (vArg (v2 oAdd (vC (.int 10)) (vPeek 4))) vNil))))
    (vIf (vTest (v2 oLt (v2 oMod (vPeek 5) (vC (.int 5))) (vC (.int 3)))) (vDrop (vMutT "list" 3 mAppend (vCons (vSto (v2 oIxA (vPeek 1) (v2 oMod (v2 oDiv (vPeek 5) (vC (.int 5))) (v2 oIxA (vLst (vCons (vSto (vC (.int 3))) (vCons (vSto (vC (.int 2))) (vCons (vSto (vC (.int 1))) vNil)))) (v2 oMod (vPeek 5) (vC (.int 5))))))) vNil))) (vDrop (vMutT "list" 3 mAppend (vCons (vSto (v2 oIxA (vPeek 2) (v2 oMod (v2 oDiv (vPeek 5) (vC (.int 5))) (vC (.int 4))))) vNil)))))
def b_l_terms : VS :=
  (vSeq (vAsg 3 (vLst vNil))
    (vSeq (vForR1 (vCons (v2 oIxA (vLst (vCons (vSto (vC (.int 2))) (vCons (vSto (vC (.int 2))) (vCons (vSto (vC (.int 1))) (vCons (vSto (vC (.int 3))) (vCons (vSto (vC (.int 4))) (vCons (vSto (vC (.int 0))) vNil))))))) (v2 oMod (vCall run_l_cell_at (vCons (vArg (vName 0)) (vCons (vArg (vC (.int 8))) vNil))) (vC (.int 6)))) vNil) (gN 4) lb_l_terms_1)
    (vRet (vN oTuple (vCons (vPeek 3) vNil)))))
def run_l_terms : Fn := runB 3 3 b_l_terms
def cg_l_same_1 : VG := (gN 3)
def ct_l_same_1 : VT := vYes
def ce_l_same_1 : VE := (vSto (vIsi .bool (vPeek 3)))
def lb_l_same_1 : VS :=
  (vSeq (vIf (vOrT (vNotT (vTest (vIsi .tuple (v2 oIxA (vPeek 0) (vPeek 2))))) (vTest (v2 oNeA (v2 oIxA (vPeek 0) (vPeek 2)) (v2 oIxA (vPeek 1) (vPeek 2))))) (vRet (vC (.bl false))) vNx)
    (vSeq (vIf (vTest (v2 oNeA (vIsi .bool (v2 oIxA (v2 oIxA (vPeek 0) (vPeek 2)) (vC (.int 1)))) (vIsi .bool (v2 oIxA (v2 oIxA (vPeek 1) (vPeek 2)) (vC (.int 1)))))) (vRet (vC (.bl false))) vNx)
    (vIf (vTest (vN oAny (vCons (vComp (sE (v2 oIxA (v2 oIxA (vPeek 0) (vPeek 2)) (vC (.int 0)))) cg_l_same_1 ct_l_same_1 ce_l_same_1 [3]) vNil))) (vRet (vC (.bl false))) vNx)))
def b_l_same : VS :=
  (vSeq (vIf (vOrT (vNotT (vTest (vIsi .list (vPeek 0)))) (vTest (v2 oNeA (vN oLenU (vCons (vPeek 0) vNil)) (vN oLenU (vCons (vPeek 1) vNil))))) (vRet (vC (.bl false))) vNx)
    (vSeq (vForR1 (vCons (vN oLenU (vCons (vPeek 1) vNil)) vNil) (gN 2) lb_l_same_1)
    (vRet (vC (.bl true)))))
def run_l_same : Fn := runB 2 2 b_l_same
def cg_l_copies_1 : VG := (gN 1)
def ct_l_copies_1 : VT := vYes
def ce_l_copies_1 : VE := (vSto (vIfE (vTest (vIsi .list (v2 oIxA (vPeek 1) (v1 oNeg (vC (.int 1)))))) (v2 oAdd (vSl (vPeek 1) vNoPart (vPart (v1 oNeg (vC (.int 1))))) (vTup (vCons (vSto (vN oList (vCons (v2 oIxA (vPeek 1) (v1 oNeg (vC (.int 1)))) vNil))) vNil))) (vName 1)))
def b_l_copies : VS :=
  (vRet (vComp (sE (vName 0)) cg_l_copies_1 ct_l_copies_1 ce_l_copies_1 [1]))
def run_l_copies : Fn := runB 1 1 b_l_copies
def cg_law_1 : VG := (gN 12)
def ct_law_1 : VT := vYes
def ce_law_1 : VE := (vSto (vCall run_l_name (vCons (vArg (vCall run_l_cell_at (vCons (vArg (vName 0)) (vCons (vArg (vC (.int 0))) vNil)))) (vCons (vArg (vCall run_l_cell_at (vCons (vArg (vName 0)) (vCons (vArg (vC (.int 1))) vNil)))) (vCons (vArg (vName 12)) (vCons (vArg (vName 1)) vNil))))))
def cg_law_2 : VG := (gN 12)
def ct_law_2 : VT := vYes
def ce_law_2 : VE := (vSto (vCall run_l_name (vCons (vArg (vCall run_l_cell_at (vCons (vArg (vName 0)) (vCons (vArg (vC (.int 2))) vNil)))) (vCons (vArg (vCall run_l_cell_at (vCons (vArg (vName 0)) (vCons (vArg (vC (.int 1))) vNil)))) (vCons (vArg (vName 12)) (vCons (vArg (v1 oUpper (vPeek 1))) vNil))))))
def cg_law_3 : VG := (gN 11)
def ct_law_3 : VT := (vAndT (vTest (v2 oEqA (v2 oIxA (vPeek 11) (vC (.int 0))) (v2 oIxA (vPeek 7) (vC (.int 0))))) (vTest (vCall run_l_matches (vCons (vArg (v2 oIxA (vPeek 7) (vC (.int 1)))) (vCons (vArg (v2 oIxA (vPeek 11) (vC (.int 1)))) vNil)))))
def ce_law_3 : VE := (vSto (vSl (vPeek 11) (vPart (vC (.int 1))) vNoPart))
def zb_law_1 : SS :=
  (zIf (zLkT [false, false, false, false, false, false, false, false, false, false, false, true, false] (vTest (vIsi .list (v2 oIxA (vPeek 11) (vC (.int 1)))))) (zDrop (zMut "list" oAppend (zIx (zNm 11) (zO (vC (.int 1)))) (zCons (zO (vC (.int 0))) zNil))) zNx)
def b_law : SS :=
  (zSeq (zOld (vAsg 1 (vC (.str tx0))))
    (zSeq (zOld (vAsg 2 (vComp (sR1 (vCons (vC (.int 4)) vNil)) cg_law_1 ct_law_1 ce_law_1 [12])))
    (zSeq (zOld (vAsg 3 (vComp (sR1 (vCons (vC (.int 3)) vNil)) cg_law_2 ct_law_2 ce_law_2 [12])))
    (zSeq (zOld (vAsg 4 (v2 oMul (v2 oMod (vCall run_l_cell_at (vCons (vArg (vName 0)) (vCons (vArg (vC (.int 3))) vNil))) (v2 oPow (vC (.int 10)) (vC (.int 30)))) (v2 oIxA (vLst (vCons (vSto (vC (.int 1))) (vCons (vSto (v1 oNeg (vC (.int 1)))) vNil))) (v2 oMod (vCall run_l_cell_at (vCons (vArg (vName 0)) (vCons (vArg (vC (.int 2))) vNil))) (vC (.int 2)))))))
    (zSeq (zOld (vAsg 5 (vLst (vCons (vSto (vName 4)) (vCons (vSto (v2 oIxA (vPeek 2) (vC (.int 0)))) (vCons (vSto (v2 oAdd (vPeek 4) (vC (.int 1)))) (vCons (vSto (v2 oIxA (vPeek 2) (vC (.int 1)))) vNil)))))))
    (zSeq (zOld (vAsg 6 (vCall run_l_told (vCons (vArg (vName 0)) (vCons (vArg (vName 2)) (vCons (vArg (vName 5)) (vCons (vArg (v2 oIxA (vPeek 2) (vC (.int 2)))) vNil)))))))
    (zSeq (zOld (vAsg 7 (vTup (vCons (vSto (v2 oIxA (vPeek 2) (v2 oIxA (vLst (vCons (vSto (vC (.int 0))) (vCons (vSto (vC (.int 0))) (vCons (vSto (vC (.int 1))) (vCons (vSto (vC (.int 2))) (vCons (vSto (vC (.int 3))) vNil)))))) (v2 oMod (vCall run_l_cell_at (vCons (vArg (vName 0)) (vCons (vArg (vC (.int 9))) vNil))) (vC (.int 5)))))) (vCons (vSto (vCall run_l_terms (vCons (vArg (vName 0)) (vCons (vArg (vName 3)) (vCons (vArg (vName 5)) vNil))))) vNil)))))
    (zSeq (zOld (vAsg 8 (vComp (sE (vName 6)) cg_law_3 ct_law_3 ce_law_3 [11])))
    (zSeq (zOld (vAsg 9 (vCall run_l_copies (vCons (vArg (vName 6)) vNil))))
    (zSeq (zAsg 10 (zCall run_asked (zCons (zO (vName 9)) (zCons (zO (vName 7)) zNil))))
    (zSeq (zIf (zLkT [false, false, false, false, false, false, true, false, true, true, true, false, false] (vOrT (vNotT (vTest (vCall run_l_same (vCons (vArg (vName 10)) (vCons (vArg (vName 8)) vNil))))) (vTest (v2 oNeA (vPeek 9) (vPeek 6))))) (zOld (vRet (vC (.bl false)))) zNx)
    (zSeq (zFor (zNm 10) (zgN 11) zb_law_1)
    (zSeq (zDrop (zMut "list" oAppend (zNm 10) (zCons (zO (vTup (vCons (vSto (vTup vNil)) (vCons (vSto (vC (.int 0))) vNil)))) zNil)))
    (zRet (zAnd (zO (v2 oEqA (vPeek 9) (vPeek 6))) (zCallO run_l_same (zCons (zCall run_asked (zCons (zO (vName 9)) (zCons (zO (vName 7)) zNil))) (zCons (zO (vName 8)) zNil))))))))))))))))))
def run_law : Fn := runO 1 12 b_law
end Lw
set_option maxHeartbeats 4000000
namespace Lw
open PySem PySem.Spec PyProof.Rows L2 Vl
def topS (i : Nat) : Stmt := PySem.Challenge.pw_whyrows_k55_asked.main.body.getD i (.Pass ⟨0, 0, 0, 0⟩)
abbrev s_begins_in : Stmt := topS 5
theorem sc_begins_in : FnScope ["thing", "firsts", "sign"] ["thing", "firsts"] (defScope s_begins_in) := ⟨rfl, rfl, rfl, by decide +kernel, rfl, by decide +kernel, by decide +kernel⟩
abbrev s_is_var : Stmt := topS 6
theorem sc_is_var : FnScope ["thing"] ["thing"] (defScope s_is_var) := ⟨rfl, rfl, rfl, by decide +kernel, rfl, by decide +kernel, by decide +kernel⟩
abbrev s_matched : Stmt := topS 8
theorem sc_matched : FnScope ["terms", "row", "binding", "found", "term", "value", "wanted"] ["terms", "row", "binding"] (defScope s_matched) := ⟨rfl, rfl, rfl, by decide +kernel, rfl, by decide +kernel, by decide +kernel⟩
abbrev s_own : Stmt := topS 10
theorem sc_own : FnScope ["worth"] ["worth"] (defScope s_own) := ⟨rfl, rfl, rfl, by decide +kernel, rfl, by decide +kernel, by decide +kernel⟩
abbrev s_asked : Stmt := topS 12
theorem sc_asked : FnScope ["told", "atom", "found", "table", "row", "thing"] ["told", "atom"] (defScope s_asked) := ⟨rfl, rfl, rfl, by decide +kernel, rfl, by decide +kernel, by decide +kernel⟩
abbrev s_l_cell_at : Stmt := topS 14
theorem sc_l_cell_at : FnScope ["_law_script", "_law_k"] ["_law_script", "_law_k"] (defScope s_l_cell_at) := ⟨rfl, rfl, rfl, by decide +kernel, rfl, by decide +kernel, by decide +kernel⟩
abbrev s_l_name : Stmt := topS 15
theorem sc_l_name : FnScope ["_law_cell", "_law_place", "_law_k", "_law_first", "_law_later", "_law_size", "_law_at", "_law_name_here", "_law_j", "_law_x"] ["_law_cell", "_law_place", "_law_k", "_law_first"] (defScope s_l_name) := ⟨rfl, rfl, rfl, by decide +kernel, rfl, by decide +kernel, by decide +kernel⟩
abbrev s_l_thing : Stmt := topS 16
theorem sc_l_thing : FnScope ["_law_way", "_law_x", "_law_cell", "_law_name_here", "_law_number"] ["_law_way", "_law_x", "_law_cell", "_law_name_here"] (defScope s_l_thing) := ⟨rfl, rfl, rfl, by decide +kernel, rfl, by decide +kernel, by decide +kernel⟩
abbrev s_l_value_ahead : Stmt := topS 17
theorem sc_l_value_ahead : FnScope ["_law_one", "_law_other", "_law_later", "_law_mine", "_law_yours"] ["_law_one", "_law_other"] (defScope s_l_value_ahead) := ⟨rfl, rfl, rfl, by decide +kernel, rfl, by decide +kernel, by decide +kernel⟩
abbrev s_l_ahead : Stmt := topS 18
theorem sc_l_ahead : FnScope ["_law_one", "_law_other", "_law_mine", "_law_yours"] ["_law_one", "_law_other"] (defScope s_l_ahead) := ⟨rfl, rfl, rfl, by decide +kernel, rfl, by decide +kernel, by decide +kernel⟩
abbrev s_l_told : Stmt := topS 19
theorem sc_l_told : FnScope ["_law_script", "_law_tables", "_law_values", "_law_name_here", "_law_told_here", "_law_x", "_law_cells", "_law_k", "_law_size", "_law_row", "_law_one", "_law_at", "_law_j"] ["_law_script", "_law_tables", "_law_values", "_law_name_here"] (defScope s_l_told) := ⟨rfl, rfl, rfl, by decide +kernel, rfl, by decide +kernel, by decide +kernel⟩
abbrev s_l_matches : Stmt := topS 20
theorem sc_l_matches : FnScope ["_law_terms_here", "_law_row", "_law_bound", "_law_k", "_law_wanted"] ["_law_terms_here", "_law_row"] (defScope s_l_matches) := ⟨rfl, rfl, rfl, by decide +kernel, rfl, by decide +kernel, by decide +kernel⟩
abbrev s_l_terms : Stmt := topS 21
theorem sc_l_terms : FnScope ["_law_script", "_law_marks", "_law_values", "_law_terms_here", "_law_k", "_law_cell"] ["_law_script", "_law_marks", "_law_values"] (defScope s_l_terms) := ⟨rfl, rfl, rfl, by decide +kernel, rfl, by decide +kernel, by decide +kernel⟩
abbrev s_l_same : Stmt := topS 22
theorem sc_l_same : FnScope ["_law_found", "_law_due", "_law_k", "_law_value"] ["_law_found", "_law_due"] (defScope s_l_same) := ⟨rfl, rfl, rfl, by decide +kernel, rfl, by decide +kernel, by decide +kernel⟩
abbrev s_l_copies : Stmt := topS 23
theorem sc_l_copies : FnScope ["_law_rows", "_law_row"] ["_law_rows"] (defScope s_l_copies) := ⟨rfl, rfl, rfl, by decide +kernel, rfl, by decide +kernel, by decide +kernel⟩
abbrev s_law : Stmt := topS 24
theorem sc_law : FnScope ["_law_script", "_law_letters", "_law_tables", "_law_marks", "_law_number", "_law_values", "_law_told_here", "_law_atom", "_law_due", "_law_handed", "_law_found", "_law_one", "_law_k"] ["_law_script"] (defScope s_law) := ⟨rfl, rfl, rfl, by decide +kernel, rfl, by decide +kernel, by decide +kernel⟩
/-- what the top has written -/
structure Tx (K : PySem.W.Frag) (mg : Str → Option Value) where
  f_begins_in : Addr
  fd_begins_in : FuncData
  F_begins_in : Fun K "begins_in" "begins_in" s_begins_in f_begins_in fd_begins_in
  g_begins_in : mg "begins_in" = some (.ref f_begins_in)
  b_begins_in : Binds K fd_begins_in ["thing", "firsts"] []
  f_is_var : Addr
  fd_is_var : FuncData
  F_is_var : Fun K "is_var" "is_var" s_is_var f_is_var fd_is_var
  g_is_var : mg "is_var" = some (.ref f_is_var)
  b_is_var : Binds K fd_is_var ["thing"] []
  f_matched : Addr
  fd_matched : FuncData
  F_matched : Fun K "matched" "matched" s_matched f_matched fd_matched
  g_matched : mg "matched" = some (.ref f_matched)
  b_matched : Binds K fd_matched ["terms", "row", "binding"] []
  f_own : Addr
  fd_own : FuncData
  F_own : Fun K "own" "own" s_own f_own fd_own
  g_own : mg "own" = some (.ref f_own)
  b_own : Binds K fd_own ["worth"] []
  f_asked : Addr
  fd_asked : FuncData
  F_asked : Fun K "asked" "asked" s_asked f_asked fd_asked
  g_asked : mg "asked" = some (.ref f_asked)
  b_asked : Binds K fd_asked ["told", "atom"] []
  f_l_cell_at : Addr
  fd_l_cell_at : FuncData
  F_l_cell_at : Fun K "_law_cell_at" "_law_cell_at" s_l_cell_at f_l_cell_at fd_l_cell_at
  g_l_cell_at : mg "_law_cell_at" = some (.ref f_l_cell_at)
  b_l_cell_at : Binds K fd_l_cell_at ["_law_script", "_law_k"] []
  f_l_name : Addr
  fd_l_name : FuncData
  F_l_name : Fun K "_law_name" "_law_name" s_l_name f_l_name fd_l_name
  g_l_name : mg "_law_name" = some (.ref f_l_name)
  b_l_name : Binds K fd_l_name ["_law_cell", "_law_place", "_law_k", "_law_first"] []
  f_l_thing : Addr
  fd_l_thing : FuncData
  F_l_thing : Fun K "_law_thing" "_law_thing" s_l_thing f_l_thing fd_l_thing
  g_l_thing : mg "_law_thing" = some (.ref f_l_thing)
  b_l_thing : Binds K fd_l_thing ["_law_way", "_law_x", "_law_cell", "_law_name_here"] []
  f_l_value_ahead : Addr
  fd_l_value_ahead : FuncData
  F_l_value_ahead : Fun K "_law_value_ahead" "_law_value_ahead" s_l_value_ahead f_l_value_ahead fd_l_value_ahead
  g_l_value_ahead : mg "_law_value_ahead" = some (.ref f_l_value_ahead)
  b_l_value_ahead : Binds K fd_l_value_ahead ["_law_one", "_law_other"] []
  f_l_ahead : Addr
  fd_l_ahead : FuncData
  F_l_ahead : Fun K "_law_ahead" "_law_ahead" s_l_ahead f_l_ahead fd_l_ahead
  g_l_ahead : mg "_law_ahead" = some (.ref f_l_ahead)
  b_l_ahead : Binds K fd_l_ahead ["_law_one", "_law_other"] []
  f_l_told : Addr
  fd_l_told : FuncData
  F_l_told : Fun K "_law_told" "_law_told" s_l_told f_l_told fd_l_told
  g_l_told : mg "_law_told" = some (.ref f_l_told)
  b_l_told : Binds K fd_l_told ["_law_script", "_law_tables", "_law_values", "_law_name_here"] []
  f_l_matches : Addr
  fd_l_matches : FuncData
  F_l_matches : Fun K "_law_matches" "_law_matches" s_l_matches f_l_matches fd_l_matches
  g_l_matches : mg "_law_matches" = some (.ref f_l_matches)
  b_l_matches : Binds K fd_l_matches ["_law_terms_here", "_law_row"] []
  f_l_terms : Addr
  fd_l_terms : FuncData
  F_l_terms : Fun K "_law_terms" "_law_terms" s_l_terms f_l_terms fd_l_terms
  g_l_terms : mg "_law_terms" = some (.ref f_l_terms)
  b_l_terms : Binds K fd_l_terms ["_law_script", "_law_marks", "_law_values"] []
  f_l_same : Addr
  fd_l_same : FuncData
  F_l_same : Fun K "_law_same" "_law_same" s_l_same f_l_same fd_l_same
  g_l_same : mg "_law_same" = some (.ref f_l_same)
  b_l_same : Binds K fd_l_same ["_law_found", "_law_due"] []
  f_l_copies : Addr
  fd_l_copies : FuncData
  F_l_copies : Fun K "_law_copies" "_law_copies" s_l_copies f_l_copies fd_l_copies
  g_l_copies : mg "_law_copies" = some (.ref f_l_copies)
  b_l_copies : Binds K fd_l_copies ["_law_rows"] []
  f_law : Addr
  fd_law : FuncData
  F_law : Fun K "law" "law" s_law f_law fd_law
  g_law : mg "law" = some (.ref f_law)
  b_law : Binds K fd_law ["_law_script"] []
  n_any : mg "any" = none
  n_bool : mg "bool" = none
  n_dict : mg "dict" = none
  n_int : mg "int" = none
  n_isinstance : mg "isinstance" = none
  n_len : mg "len" = none
  n_list : mg "list" = none
  n_range : mg "range" = none
  n_str : mg "str" = none
  n_tuple : mg "tuple" = none
  n_zip : mg "zip" = none
  c_SMALL : ∃ t, mg "SMALL" = some (.str (PySem.Str.ofString "abcdefghijklmnopqrstuvwxyz") t)
  c_LARGE : ∃ t, mg "LARGE" = some (.str (PySem.Str.ofString "ABCDEFGHIJKLMNOPQRSTUVWXYZ") t)
  c_FIGURES : ∃ t, mg "FIGURES" = some (.str (PySem.Str.ofString "0123456789") t)
  c_LONGEST : ∃ t, mg "LONGEST" = some (.int 12 t)
section
variable {P : Program} {w : World} {K : PySem.W.Frag} {mg : Str → Option Value} {base : Heap}
theorem ok_begins_in (T : Tx K mg) : FnOk P w K mg base CX0 1 T.f_begins_in T.fd_begins_in ["thing", "firsts"] (spF K cls0 run_begins_in) :=
  fn_ok 1 T.F_begins_in sc_begins_in rfl fun cdv A outer sh H E hr => 
  (ds_cons (ds_if (dt_w (dw_or (dt_not (dt_val (de_isi .str (by rfl) T.n_isinstance (by rfl) T.n_str boot_str (de_peek (pv 0))))) (dw_or (dt_cmp (opEqA (hu65 hr)) op2_rD (de_peek (pv 0)) de_str) (dw_or1 (dt_cmp (opGt) op2_rD (de_callB (callLenU) (by rfl) T.n_len boot_len (da_cons (de_peek (pv 0)) da_nil)) (de_gint (by rfl) T.c_LONGEST)))))) (ds_one (ds_ret (dm_of de_bl))) ds_nil)
    (ds_cons (ds_if (dt_cmp ((opNotInA (hu65 hr))) op2_rD (de_ix (opIxA (hu1 hr)) op2_rD (de_peek (pv 0)) de_int) (de_peek (pv 1))) (ds_one (ds_ret (dm_of de_bl))) ds_nil)
    (ds_cons (ds_for PassesOwn.never rfl (de_sl (de_peek (pv 0)) (do_some de_int) do_none) (dg_name (i := 2) sc_begins_in.nd rfl (by first | exact Or.inl rfl | exact Or.inr rfl)) (ds_one (ds_if (dt_w (dw_and (dt_cmp ((opNotInA (hu65 hr))) op2_rD (de_peek (pv 2)) (de_gstr (by rfl) T.c_SMALL)) (dw_and1 (dt_cmp ((opNotInA (hu65 hr))) op2_rD (de_peek (pv 2)) (de_gstr (by rfl) T.c_FIGURES))))) (ds_one (ds_ret (dm_of de_bl))) ds_nil)))
    (ds_one (ds_ret (dm_of de_bl))))))
theorem ok_is_var (T : Tx K mg) : FnOk P w K mg base CX0 2 T.f_is_var T.fd_is_var ["thing"] (spF K cls0 run_is_var) :=
  fn_ok 0 T.F_is_var sc_is_var rfl fun cdv A outer sh H E hr => 
  (ds_one (ds_ret (dm_of (de_call (ok_begins_in T) (hr.mono (by decide)) (by rfl) T.g_begins_in T.F_begins_in.kp T.b_begins_in (da_cons (de_arg (de_name (pv 0))) (da_cons (de_arg (de_gstr (by rfl) T.c_LARGE)) da_nil))))))
theorem ok_matched (T : Tx K mg) : FnOk P w K mg base CX0 3 T.f_matched T.fd_matched ["terms", "row", "binding"] (spF K cls0 run_matched) :=
  fn_ok 4 T.F_matched sc_matched rfl fun cdv A outer sh H E hr => 
  (ds_cons (ds_if (dt_cmp (opNeA (hu65 hr)) op2_rD (de_callB (callLenU) (by rfl) T.n_len boot_len (da_cons (de_peek (pv 0)) da_nil)) (de_callB (callLenU) (by rfl) T.n_len boot_len (da_cons (de_peek (pv 1)) da_nil))) (ds_one (ds_ret (dm_of de_non))) ds_nil)
    (ds_cons (ds_set (i := 3) sc_matched.nd rfl (by first | exact Or.inl rfl | exact Or.inr rfl) (dm_of (de_callTy (callDict) (by rfl) T.n_dict boot_dict (da_cons (de_peek (pv 2)) da_nil))))
    (ds_cons (ds_forI PassesOwn.never rfl (di_zip (by rfl) T.n_zip (da_cons (de_sto (de_name (pv 0))) (da_cons (de_sto (de_name (pv 1))) da_nil))) (dg_tup rfl (dgs_cons (dg_name (i := 4) sc_matched.nd rfl (by first | exact Or.inl rfl | exact Or.inr rfl)) (dgs_cons (dg_name (i := 5) sc_matched.nd rfl (by first | exact Or.inl rfl | exact Or.inr rfl)) dgs_nil))) (ds_cons (ds_set (i := 6) sc_matched.nd rfl (by first | exact Or.inl rfl | exact Or.inr rfl) (dm_of (de_name (pv 4))))
    (ds_cons (ds_if (dt_val (de_call (ok_is_var T) (hr.mono (by decide)) (by rfl) T.g_is_var T.F_is_var.kp T.b_is_var (da_cons (de_arg (de_name (pv 4))) da_nil))) (ds_one (ds_set (i := 6) sc_matched.nd rfl (by first | exact Or.inl rfl | exact Or.inr rfl) (dm_mut PySem.F.plainAttrs_dict PySem.F.slot_dict_setdefault PySem.F.type_dict_setdefault mt_setd mut_setd (pv 3) (da_cons (de_sto (de_name (pv 4))) (da_cons (de_sto (de_name (pv 5))) da_nil))))) ds_nil)
    (ds_one (ds_if (dt_cmp (opNeA (hu65 hr)) op2_rD (de_peek (pv 6)) (de_peek (pv 5))) (ds_one (ds_ret (dm_of de_non))) ds_nil)))))
    (ds_one (ds_ret (dm_of (de_peek (pv 3))))))))
theorem ok_own (T : Tx K mg) : FnOk P w K mg base CX0 1 T.f_own T.fd_own ["worth"] (spF K cls0 run_own) :=
  fn_ok 0 T.F_own sc_own rfl fun cdv A outer sh H E hr => 
  (ds_cons (ds_if (dt_val (de_isi .list (by rfl) T.n_isinstance (by rfl) T.n_list boot_list (de_peek (pv 0)))) (ds_one (ds_ret (dm_of (de_callTy (callList) (by rfl) T.n_list boot_list (da_cons (de_peek (pv 0)) da_nil))))) ds_nil)
    (ds_one (ds_ret (dm_of (de_peek (pv 0))))))
theorem ok_asked (T : Tx K mg) : FnOk P w K mg base CX0 4 T.f_asked T.fd_asked ["told", "atom"] (spS K cls0 run_asked) :=
  fn_okS 4 T.F_asked sc_asked rfl fun cdv A outer sh H E hr => 
  (bs_cons (bs_set (i := 2) sc_asked.nd rfl (by first | exact Or.inl rfl | exact Or.inr rfl) (be_oldE (de_lst da_nil)))
    (bs_cons (bs_for PassesOwn.never rfl (be_oldE (de_name (pv 0))) (bg_tup rfl (bgs_cons (bg_name (i := 3) sc_asked.nd rfl (by first | exact Or.inl rfl | exact Or.inr rfl)) (bgs_cons (bg_name (i := 4) sc_asked.nd rfl (by first | exact Or.inl rfl | exact Or.inr rfl)) (bgs_cons (bg_name (i := 5) sc_asked.nd rfl (by first | exact Or.inl rfl | exact Or.inr rfl)) bgs_nil)))) (bs_one (bs_if (bt_old (dt_w (dw_and (dt_cmp (opEqA (hu65 hr)) op2_rD (de_peek (pv 3)) (de_ix (opIxA (hu1 hr)) op2_rD (de_peek (pv 1)) de_int)) (dw_and1 (dt_cmp (opNotN) op2_rD (de_call (ok_matched T) (hr.mono (by decide)) (by rfl) T.g_matched T.F_matched.kp T.b_matched (da_cons (de_arg (de_ix (opIxA (hu1 hr)) op2_rD (de_peek (pv 1)) de_int)) (da_cons (de_arg (de_name (pv 4))) (da_cons (de_arg de_newD) da_nil)))) de_non))))) (bs_one (bs_expr (be_mut (.inl rfl) PySem.F.plainAttrs_list PySem.F.slot_list_append PySem.F.type_list_append mt_append mus_append (be_nm (pv 2)) (ba_cons (be_tup (ba_cons (be_oldE (de_name (pv 4))) (ba_cons (be_oldE (de_call (ok_own T) (hr.mono (by decide)) (by rfl) T.g_own T.F_own.kp T.b_own (da_cons (de_arg (de_name (pv 5))) da_nil))) ba_nil))) ba_nil)))) bs_nil)))
    (bs_one (bs_ret (be_nm (pv 2))))))
theorem ok_l_cell_at (T : Tx K mg) : FnOk P w K mg base CX0 1 T.f_l_cell_at T.fd_l_cell_at ["_law_script", "_law_k"] (spF K cls0 run_l_cell_at) :=
  fn_ok 0 T.F_l_cell_at sc_l_cell_at rfl fun cdv A outer sh H E hr => 
  (ds_cons (ds_if (dt_cmp (opLt) op2_rD (de_peek (pv 1)) (de_callB (callLenU) (by rfl) T.n_len boot_len (da_cons (de_peek (pv 0)) da_nil))) (ds_one (ds_ret (dm_of (de_ix (opIxA (hu1 hr)) op2_rD (de_peek (pv 0)) (de_peek (pv 1)))))) ds_nil)
    (ds_one (ds_ret (dm_of de_int))))
theorem ok_l_name (T : Tx K mg) : FnOk P w K mg base CX0 1 T.f_l_name T.fd_l_name ["_law_cell", "_law_place", "_law_k", "_law_first"] (spF K cls0 run_l_name) :=
  fn_ok 6 T.F_l_name sc_l_name rfl fun cdv A outer sh H E hr => 
  (ds_cons (ds_set (i := 4) sc_l_name.nd rfl (by first | exact Or.inl rfl | exact Or.inr rfl) (dm_of de_str))
    (ds_cons (ds_set (i := 5) sc_l_name.nd rfl (by first | exact Or.inl rfl | exact Or.inr rfl) (dm_of (de_bin opAdd op2_rD de_int (de_bin opMod op2_rD (de_peek (pv 0)) de_int))))
    (ds_cons (ds_set (i := 6) sc_l_name.nd rfl (by first | exact Or.inl rfl | exact Or.inr rfl) (dm_of (de_bin opMod op2_rD (de_peek (pv 1)) (de_peek (pv 5)))))
    (ds_cons (ds_set (i := 7) sc_l_name.nd rfl (by first | exact Or.inl rfl | exact Or.inr rfl) (dm_of de_str))
    (ds_cons (ds_forR1 PassesOwn.never rfl (by rfl) T.n_range (da_cons (de_peek (pv 5)) da_nil) (dg_name (i := 8) sc_l_name.nd rfl (by first | exact Or.inl rfl | exact Or.inr rfl)) (ds_cons (ds_set (i := 9) sc_l_name.nd rfl (by first | exact Or.inl rfl | exact Or.inr rfl) (dm_of (de_bin opAdd op2_rD (de_bin opAdd op2_rD (de_bin opDiv op2_rD (de_peek (pv 0)) (de_bin opAdd op2_rD (de_peek (pv 8)) de_int)) (de_bin opMul op2_rD de_int (de_peek (pv 8)))) (de_bin opMul op2_rD (de_bin opMul op2_rD (de_callTy (callIntS) (by rfl) T.n_int boot_int (da_cons (de_cmp (opEqA (hu65 hr)) op2_rD (de_peek (pv 8)) (de_peek (pv 6))) da_nil)) (de_peek (pv 2))) (de_ix (opIxA (hu1 hr)) op2_rD (de_lst (da_cons (de_sto de_int) (da_cons (de_sto de_int) (da_cons (de_sto de_int) (da_cons (de_sto de_int) da_nil))))) (de_bin opMod op2_rD (de_bin opDiv op2_rD (de_peek (pv 1)) de_int) de_int))))))
    (ds_one (ds_if (dt_cmp (opEqA (hu65 hr)) op2_rD (de_peek (pv 8)) de_int) (ds_one (ds_set (i := 7) sc_l_name.nd rfl (by first | exact Or.inl rfl | exact Or.inr rfl) (dm_of (de_ix (opIxA (hu1 hr)) op2_rD (de_peek (pv 3)) (de_bin opMod op2_rD (de_peek (pv 9)) de_int))))) (ds_one (ds_set (i := 7) sc_l_name.nd rfl (by first | exact Or.inl rfl | exact Or.inr rfl) (dm_of (de_bin opAdd op2_rD (de_peek (pv 7)) (de_ix (opIxA (hu1 hr)) op2_rD (de_peek (pv 4)) (de_bin opMod op2_rD (de_peek (pv 9)) de_int))))))))))
    (ds_one (ds_ret (dm_of (de_peek (pv 7))))))))))
theorem ok_l_thing (T : Tx K mg) : FnOk P w K mg base CX0 1 T.f_l_thing T.fd_l_thing ["_law_way", "_law_x", "_law_cell", "_law_name_here"] (spF K cls0 run_l_thing) :=
  fn_ok 1 T.F_l_thing sc_l_thing rfl fun cdv A outer sh H E hr => 
  (ds_cons (ds_set (i := 4) sc_l_thing.nd rfl (by first | exact Or.inl rfl | exact Or.inr rfl) (dm_of (de_bin opSub op2_rD (de_bin opMod op2_rD (de_peek (pv 2)) (de_bin opPow op2_rD de_int de_int)) (de_bin opMod op2_rD (de_peek (pv 1)) de_int))))
    (ds_cons (ds_if (dt_cmp (opEqA (hu65 hr)) op2_rD (de_peek (pv 0)) de_int) (ds_one (ds_ret (dm_of (de_sl (de_lst (da_cons (de_sto (de_tup (da_cons (de_sto (de_tup (da_cons (de_sto (de_name (pv 3))) da_nil))) (da_cons (de_sto (de_bin opAdd op2_rD de_int (de_bin opMod op2_rD (de_bin opDiv op2_rD (de_peek (pv 1)) de_int) de_int))) da_nil)))) (da_cons (de_sto (de_tup (da_cons (de_sto (de_tup (da_cons (de_sto (de_name (pv 3))) (da_cons (de_sto (de_name (pv 3))) da_nil)))) (da_cons (de_sto (de_bin opAdd op2_rD de_int (de_bin opMod op2_rD (de_peek (pv 2)) (de_bin opPow op2_rD de_int de_int)))) da_nil)))) da_nil))) do_none (do_some (de_bin opAdd op2_rD de_int (de_bin opMod op2_rD (de_bin opDiv op2_rD (de_peek (pv 1)) de_int) de_int))))))) ds_nil)
    (ds_cons (ds_if (dt_cmp (opEqA (hu65 hr)) op2_rD (de_peek (pv 0)) de_int) (ds_one (ds_ret (dm_of (de_sl (de_lst (da_cons (de_sto (de_name (pv 4))) (da_cons (de_sto (de_bin opAdd op2_rD (de_peek (pv 4)) (de_bin opMod op2_rD (de_peek (pv 1)) de_int))) da_nil))) do_none (do_some (de_bin opMod op2_rD (de_bin opDiv op2_rD (de_peek (pv 1)) de_int) de_int)))))) ds_nil)
    (ds_cons (ds_if (dt_cmp (opEqA (hu65 hr)) op2_rD (de_peek (pv 0)) de_int) (ds_one (ds_ret (dm_of (de_cmp (opEqA (hu65 hr)) op2_rD (de_bin opMod op2_rD (de_bin opDiv op2_rD (de_peek (pv 1)) de_int) de_int) de_int)))) ds_nil)
    (ds_cons (ds_if (dt_cmp (opEqA (hu65 hr)) op2_rD (de_bin opMod op2_rD (de_bin opDiv op2_rD (de_peek (pv 1)) de_int) de_int) de_int) (ds_one (ds_ret (dm_of de_non))) ds_nil)
    (ds_one (ds_ret (dm_of (de_peek (pv 4))))))))))
theorem ok_l_value_ahead (T : Tx K mg) : FnOk P w K mg base CX0 1 T.f_l_value_ahead T.fd_l_value_ahead ["_law_one", "_law_other"] (spF K cls0 run_l_value_ahead) :=
  fn_ok 3 T.F_l_value_ahead sc_l_value_ahead rfl fun cdv A outer sh H E hr => 
  (ds_cons (ds_if (dt_cmp (opNeA (hu65 hr)) op2_rD (de_isi .str (by rfl) T.n_isinstance (by rfl) T.n_str boot_str (de_peek (pv 0))) (de_isi .str (by rfl) T.n_isinstance (by rfl) T.n_str boot_str (de_peek (pv 1)))) (ds_one (ds_ret (dm_of (de_isi .str (by rfl) T.n_isinstance (by rfl) T.n_str boot_str (de_peek (pv 1)))))) ds_nil)
    (ds_cons (ds_if (dt_val (de_isi .int (by rfl) T.n_isinstance (by rfl) T.n_int boot_int (de_peek (pv 0)))) (ds_one (ds_ret (dm_of (de_cmp (opLt) op2_rD (de_peek (pv 0)) (de_peek (pv 1)))))) ds_nil)
    (ds_cons (ds_set (i := 2) sc_l_value_ahead.nd rfl (by first | exact Or.inl rfl | exact Or.inr rfl) (dm_of de_str))
    (ds_cons (ds_forI PassesOwn.never rfl (di_zipS (by rfl) T.n_zip (da_cons (de_sto (de_name (pv 0))) (da_cons (de_sto (de_name (pv 1))) da_nil))) (dg_tup rfl (dgs_cons (dg_name (i := 3) sc_l_value_ahead.nd rfl (by first | exact Or.inl rfl | exact Or.inr rfl)) (dgs_cons (dg_name (i := 4) sc_l_value_ahead.nd rfl (by first | exact Or.inl rfl | exact Or.inr rfl)) dgs_nil))) (ds_one (ds_if (dt_cmp (opNeA (hu65 hr)) op2_rD (de_peek (pv 3)) (de_peek (pv 4))) (ds_one (ds_ret (dm_of (de_cmp (opLt) op2_rD (de_m1 PySem.F.slot_str_find PySem.F.type_str_find mtFind (de_peek (pv 2)) (de_peek (pv 3))) (de_m1 PySem.F.slot_str_find PySem.F.type_str_find mtFind (de_peek (pv 2)) (de_peek (pv 4))))))) ds_nil)))
    (ds_one (ds_ret (dm_of (de_cmp (opLt) op2_rD (de_callB (callLenU) (by rfl) T.n_len boot_len (da_cons (de_peek (pv 0)) da_nil)) (de_callB (callLenU) (by rfl) T.n_len boot_len (da_cons (de_peek (pv 1)) da_nil))))))))))
theorem ok_l_ahead (T : Tx K mg) : FnOk P w K mg base CX0 2 T.f_l_ahead T.fd_l_ahead ["_law_one", "_law_other"] (spF K cls0 run_l_ahead) :=
  fn_ok 2 T.F_l_ahead sc_l_ahead rfl fun cdv A outer sh H E hr => 
  (ds_cons (ds_if (dt_cmp (opNeA (hu65 hr)) op2_rD (de_ix (opIxA (hu1 hr)) op2_rD (de_peek (pv 0)) de_int) (de_ix (opIxA (hu1 hr)) op2_rD (de_peek (pv 1)) de_int)) (ds_one (ds_ret (dm_of (de_call (ok_l_value_ahead T) (hr.mono (by decide)) (by rfl) T.g_l_value_ahead T.F_l_value_ahead.kp T.b_l_value_ahead (da_cons (de_arg (de_ix (opIxA (hu1 hr)) op2_rD (de_peek (pv 0)) de_int)) (da_cons (de_arg (de_ix (opIxA (hu1 hr)) op2_rD (de_peek (pv 1)) de_int)) da_nil)))))) ds_nil)
    (ds_cons (ds_forI PassesOwn.never rfl (di_zip (by rfl) T.n_zip (da_cons (de_sto (de_ix (opIxA (hu1 hr)) op2_rD (de_peek (pv 0)) de_int)) (da_cons (de_sto (de_ix (opIxA (hu1 hr)) op2_rD (de_peek (pv 1)) de_int)) da_nil))) (dg_tup rfl (dgs_cons (dg_name (i := 2) sc_l_ahead.nd rfl (by first | exact Or.inl rfl | exact Or.inr rfl)) (dgs_cons (dg_name (i := 3) sc_l_ahead.nd rfl (by first | exact Or.inl rfl | exact Or.inr rfl)) dgs_nil))) (ds_one (ds_if (dt_cmp (opNeA (hu65 hr)) op2_rD (de_peek (pv 2)) (de_peek (pv 3))) (ds_one (ds_ret (dm_of (de_call (ok_l_value_ahead T) (hr.mono (by decide)) (by rfl) T.g_l_value_ahead T.F_l_value_ahead.kp T.b_l_value_ahead (da_cons (de_arg (de_name (pv 2))) (da_cons (de_arg (de_name (pv 3))) da_nil)))))) ds_nil)))
    (ds_one (ds_ret (dm_of (de_cmp (opLt) op2_rD (de_callB (callLenU) (by rfl) T.n_len boot_len (da_cons (de_ix (opIxA (hu1 hr)) op2_rD (de_peek (pv 0)) de_int) da_nil)) (de_callB (callLenU) (by rfl) T.n_len boot_len (da_cons (de_ix (opIxA (hu1 hr)) op2_rD (de_peek (pv 1)) de_int) da_nil))))))))
theorem ok_l_told (T : Tx K mg) : FnOk P w K mg base CX0 3 T.f_l_told T.fd_l_told ["_law_script", "_law_tables", "_law_values", "_law_name_here"] (spF K cls0 run_l_told) :=
  fn_ok 9 T.F_l_told sc_l_told rfl fun cdv A outer sh H E hr => 
  (ds_cons (ds_set (i := 4) sc_l_told.nd rfl (by first | exact Or.inl rfl | exact Or.inr rfl) (dm_of (de_lst da_nil)))
    (ds_cons (ds_set (i := 5) sc_l_told.nd rfl (by first | exact Or.inl rfl | exact Or.inr rfl) (dm_of (de_bin opAdd op2_rD (de_bin opMod op2_rD (de_call (ok_l_cell_at T) (hr.mono (by decide)) (by rfl) T.g_l_cell_at T.F_l_cell_at.kp T.b_l_cell_at (da_cons (de_arg (de_name (pv 0))) (da_cons (de_arg de_int) da_nil))) de_int) de_int)))
    (ds_cons (ds_set (i := 6) sc_l_told.nd rfl (by first | exact Or.inl rfl | exact Or.inr rfl) (dm_of (de_bin opAdd op2_rD (de_sl (de_peek (pv 0)) (do_some de_int) (do_some de_int)) (de_comp rfl sc_l_told.nd (di_r1 (by rfl) T.n_range (da_cons (de_bin opMod op2_rD (de_call (ok_l_cell_at T) (hr.mono (by decide)) (by rfl) T.g_l_cell_at T.F_l_cell_at.kp T.b_l_cell_at (da_cons (de_arg (de_name (pv 0))) (da_cons (de_arg de_int) da_nil))) de_int) da_nil)) (blkOk_by (own := [("_law_k", 7)]) (by show blkC ["_law_script", "_law_tables", "_law_values", "_law_name_here", "_law_told_here", "_law_x", "_law_cells", "_law_k", "_law_size", "_law_row", "_law_one", "_law_at", "_law_j"] (defScope s_l_told) _ _ = true; decide +kernel)) (fun _ _ _ _ _ => (dgv_name (i := 7) sc_l_told.nd rfl (by first | exact Or.inl rfl | exact Or.inr rfl) (by decide))) (fun _ _ _ _ _ => dts_nil) (fun _ _ _ _ _ => (de_sto (de_bin opAdd op2_rD (de_call (ok_l_cell_at T) (hr.mono (by decide)) (by rfl) T.g_l_cell_at T.F_l_cell_at.kp T.b_l_cell_at (da_cons (de_arg (de_name (pv 0))) (da_cons (de_arg de_int) da_nil))) (de_bin opMul op2_rD (de_peek (pv 7)) (de_peek (pv 7))))))))))
    (ds_cons (ds_forR1 PassesOwn.never rfl (by rfl) T.n_range (da_cons (de_callB (callLenU) (by rfl) T.n_len boot_len (da_cons (de_peek (pv 6)) da_nil)) da_nil) (dg_name (i := 7) sc_l_told.nd rfl (by first | exact Or.inl rfl | exact Or.inr rfl)) (ds_cons (ds_set (i := 5) sc_l_told.nd rfl (by first | exact Or.inl rfl | exact Or.inr rfl) (dm_of (de_bin opMod op2_rD (de_bin opAdd op2_rD (de_bin opAdd op2_rD (de_bin opMul op2_rD (de_peek (pv 5)) de_int) (de_bin opMod op2_rD (de_ix (opIxA (hu1 hr)) op2_rD (de_peek (pv 6)) (de_peek (pv 7))) de_int)) de_int) de_int)))
    (ds_cons (ds_set (i := 8) sc_l_told.nd rfl (by first | exact Or.inl rfl | exact Or.inr rfl) (dm_of (de_ix (opIxA (hu1 hr)) op2_rD (de_lst (da_cons (de_sto de_int) (da_cons (de_sto de_int) (da_cons (de_sto de_int) (da_cons (de_sto de_int) (da_cons (de_sto de_int) (da_cons (de_sto de_int) (da_cons (de_sto de_int) da_nil)))))))) (de_bin opMod op2_rD (de_bin opDiv op2_rD (de_peek (pv 5)) de_int) de_int))))
    (ds_cons (ds_set (i := 9) sc_l_told.nd rfl (by first | exact Or.inl rfl | exact Or.inr rfl) (dm_of (de_callTy (callTuple) (by rfl) T.n_tuple boot_tuple (da_cons (de_comp rfl sc_l_told.nd (di_r1 (by rfl) T.n_range (da_cons (de_peek (pv 8)) da_nil)) (blkOk_by (own := [("_law_j", 12)]) (by show blkC ["_law_script", "_law_tables", "_law_values", "_law_name_here", "_law_told_here", "_law_x", "_law_cells", "_law_k", "_law_size", "_law_row", "_law_one", "_law_at", "_law_j"] (defScope s_l_told) _ _ = true; decide +kernel)) (fun _ _ _ _ _ => (dgv_name (i := 12) sc_l_told.nd rfl (by first | exact Or.inl rfl | exact Or.inr rfl) (by decide))) (fun _ _ _ _ _ => dts_nil) (fun _ _ _ _ _ => (de_sto (de_ix (opIxA (hu1 hr)) op2_rD (de_peek (pv 2)) (de_bin opMod op2_rD (de_bin opDiv op2_rD (de_peek (pv 5)) (de_ix (opIxA (hu1 hr)) op2_rD (de_lst (da_cons (de_sto de_int) (da_cons (de_sto de_int) (da_cons (de_sto de_int) (da_cons (de_sto de_int) da_nil))))) (de_peek (pv 12)))) de_int))))) da_nil))))
    (ds_cons (ds_set (i := 10) sc_l_told.nd rfl (by first | exact Or.inl rfl | exact Or.inr rfl) (dm_of (de_tup (da_cons (de_sto (de_ix (opIxA (hu1 hr)) op2_rD (de_peek (pv 1)) (de_ix (opIxA (hu1 hr)) op2_rD (de_lst (da_cons (de_sto de_int) (da_cons (de_sto de_int) (da_cons (de_sto de_int) (da_cons (de_sto de_int) da_nil))))) (de_bin opMod op2_rD (de_bin opDiv op2_rD (de_peek (pv 5)) de_int) de_int)))) (da_cons (de_sto (de_name (pv 9))) (da_cons (de_sto (de_call (ok_l_thing T) (hr.mono (by decide)) (by rfl) T.g_l_thing T.F_l_thing.kp T.b_l_thing (da_cons (de_arg (de_bin opMod op2_rD (de_call (ok_l_cell_at T) (hr.mono (by decide)) (by rfl) T.g_l_cell_at T.F_l_cell_at.kp T.b_l_cell_at (da_cons (de_arg (de_name (pv 0))) (da_cons (de_arg de_int) da_nil))) de_int)) (da_cons (de_arg (de_bin opDiv op2_rD (de_peek (pv 5)) de_int)) (da_cons (de_arg (de_ix (opIxA (hu1 hr)) op2_rD (de_peek (pv 6)) (de_peek (pv 7)))) (da_cons (de_arg (de_name (pv 3))) da_nil)))))) da_nil))))))
    (ds_cons (ds_set (i := 11) sc_l_told.nd rfl (by first | exact Or.inl rfl | exact Or.inr rfl) (dm_of de_int))
    (ds_cons (ds_while 1024 PassesOwn.never (dt_w (dw_and (dt_cmp (opLt) op2_rD (de_peek (pv 11)) (de_callB (callLenU) (by rfl) T.n_len boot_len (da_cons (de_peek (pv 4)) da_nil))) (dw_and1 (dt_val (de_call (ok_l_ahead T) (hr.mono (by decide)) (by rfl) T.g_l_ahead T.F_l_ahead.kp T.b_l_ahead (da_cons (de_arg (de_ix (opIxA (hu1 hr)) op2_rD (de_peek (pv 4)) (de_peek (pv 11)))) (da_cons (de_arg (de_name (pv 10))) da_nil))))))) (ds_one (ds_set (i := 11) sc_l_told.nd rfl (by first | exact Or.inl rfl | exact Or.inr rfl) (dm_of (de_bin opAdd op2_rD (de_peek (pv 11)) de_int)))))
    (ds_one (ds_if (dt_w (dw_or (dt_cmp (opEqA (hu65 hr)) op2_rD (de_peek (pv 11)) (de_callB (callLenU) (by rfl) T.n_len boot_len (da_cons (de_peek (pv 4)) da_nil))) (dw_or1 (dt_cmp (opNeA (hu65 hr)) op2_rD (de_sl (de_ix (opIxA (hu1 hr)) op2_rD (de_peek (pv 4)) (de_peek (pv 11))) do_none (do_some de_int)) (de_sl (de_peek (pv 10)) do_none (do_some de_int)))))) (ds_one (ds_expr (dm_mut PySem.F.plainAttrs_list PySem.F.slot_list_insert PySem.F.type_list_insert mt_insertL mut_insert (pv 4) (da_cons (de_sto (de_name (pv 11))) (da_cons (de_sto (de_name (pv 10))) da_nil))))) ds_nil)))))))))
    (ds_one (ds_ret (dm_of (de_peek (pv 4)))))))))
theorem ok_l_matches (T : Tx K mg) : FnOk P w K mg base CX0 1 T.f_l_matches T.fd_l_matches ["_law_terms_here", "_law_row"] (spF K cls0 run_l_matches) :=
  fn_ok 3 T.F_l_matches sc_l_matches rfl fun cdv A outer sh H E hr => 
  (ds_cons (ds_if (dt_cmp (opNeA (hu65 hr)) op2_rD (de_callB (callLenU) (by rfl) T.n_len boot_len (da_cons (de_peek (pv 0)) da_nil)) (de_callB (callLenU) (by rfl) T.n_len boot_len (da_cons (de_peek (pv 1)) da_nil))) (ds_one (ds_ret (dm_of de_bl))) ds_nil)
    (ds_cons (ds_set (i := 2) sc_l_matches.nd rfl (by first | exact Or.inl rfl | exact Or.inr rfl) (dm_of de_newD))
    (ds_cons (ds_forR1 PassesOwn.never rfl (by rfl) T.n_range (da_cons (de_callB (callLenU) (by rfl) T.n_len boot_len (da_cons (de_peek (pv 1)) da_nil)) da_nil) (dg_name (i := 3) sc_l_matches.nd rfl (by first | exact Or.inl rfl | exact Or.inr rfl)) (ds_cons (ds_set (i := 4) sc_l_matches.nd rfl (by first | exact Or.inl rfl | exact Or.inr rfl) (dm_of (de_ix (opIxA (hu1 hr)) op2_rD (de_peek (pv 0)) (de_peek (pv 3)))))
    (ds_cons (ds_if (dt_w (dw_and (dt_val (de_isi .str (by rfl) T.n_isinstance (by rfl) T.n_str boot_str (de_peek (pv 4)))) (dw_and1 (dt_cmp ((opInA (hu65 hr))) op2_rD (de_ix (opIxA (hu1 hr)) op2_rD (de_peek (pv 4)) de_int) de_str)))) (ds_one (ds_set (i := 4) sc_l_matches.nd rfl (by first | exact Or.inl rfl | exact Or.inr rfl) (dm_mut PySem.F.plainAttrs_dict PySem.F.slot_dict_setdefault PySem.F.type_dict_setdefault mt_setd mut_setd (pv 2) (da_cons (de_sto (de_name (pv 4))) (da_cons (de_sto (de_ix (opIxA (hu1 hr)) op2_rD (de_peek (pv 1)) (de_peek (pv 3)))) da_nil))))) ds_nil)
    (ds_one (ds_if (dt_cmp (opNeA (hu65 hr)) op2_rD (de_peek (pv 4)) (de_ix (opIxA (hu1 hr)) op2_rD (de_peek (pv 1)) (de_peek (pv 3)))) (ds_one (ds_ret (dm_of de_bl))) ds_nil)))))
    (ds_one (ds_ret (dm_of de_bl))))))
theorem ok_l_terms (T : Tx K mg) : FnOk P w K mg base CX0 2 T.f_l_terms T.fd_l_terms ["_law_script", "_law_marks", "_law_values"] (spF K cls0 run_l_terms) :=
  fn_ok 3 T.F_l_terms sc_l_terms rfl fun cdv A outer sh H E hr => 
  (ds_cons (ds_set (i := 3) sc_l_terms.nd rfl (by first | exact Or.inl rfl | exact Or.inr rfl) (dm_of (de_lst da_nil)))
    (ds_cons (ds_forR1 PassesOwn.never rfl (by rfl) T.n_range (da_cons (de_ix (opIxA (hu1 hr)) op2_rD (de_lst (da_cons (de_sto de_int) (da_cons (de_sto de_int) (da_cons (de_sto de_int) (da_cons (de_sto de_int) (da_cons (de_sto de_int) (da_cons (de_sto de_int) da_nil))))))) (de_bin opMod op2_rD (de_call (ok_l_cell_at T) (hr.mono (by decide)) (by rfl) T.g_l_cell_at T.F_l_cell_at.kp T.b_l_cell_at (da_cons (de_arg (de_name (pv 0))) (da_cons (de_arg de_int) da_nil))) de_int)) da_nil) (dg_name (i := 4) sc_l_terms.nd rfl (by first | exact Or.inl rfl | exact Or.inr rfl)) (ds_cons (ds_set (i := 5) sc_l_terms.nd rfl (by first | exact Or.inl rfl | exact Or.inr rfl) (dm_of (de_call (ok_l_cell_at T) (hr.mono (by decide)) (by rfl) T.g_l_cell_at T.F_l_cell_at.kp T.b_l_cell_at (da_cons (de_arg (de_name (pv 0))) (da_cons (de_arg (de_bin opAdd op2_rD de_int (de_peek (pv 4)))) da_nil)))))
    (ds_one (ds_if (dt_cmp (opLt) op2_rD (de_bin opMod op2_rD (de_peek (pv 5)) de_int) de_int) (ds_one (ds_expr (dm_mut PySem.F.plainAttrs_list PySem.F.slot_list_append PySem.F.type_list_append mt_append mut_append (pv 3) (da_cons (de_sto (de_ix (opIxA (hu1 hr)) op2_rD (de_peek (pv 1)) (de_bin opMod op2_rD (de_bin opDiv op2_rD (de_peek (pv 5)) de_int) (de_ix (opIxA (hu1 hr)) op2_rD (de_lst (da_cons (de_sto de_int) (da_cons (de_sto de_int) (da_cons (de_sto de_int) da_nil)))) (de_bin opMod op2_rD (de_peek (pv 5)) de_int))))) da_nil)))) (ds_one (ds_expr (dm_mut PySem.F.plainAttrs_list PySem.F.slot_list_append PySem.F.type_list_append mt_append mut_append (pv 3) (da_cons (de_sto (de_ix (opIxA (hu1 hr)) op2_rD (de_peek (pv 2)) (de_bin opMod op2_rD (de_bin opDiv op2_rD (de_peek (pv 5)) de_int) de_int))) da_nil))))))))
    (ds_one (ds_ret (dm_of (de_callTy (callTuple) (by rfl) T.n_tuple boot_tuple (da_cons (de_peek (pv 3)) da_nil)))))))
theorem ok_l_same (T : Tx K mg) : FnOk P w K mg base CX0 1 T.f_l_same T.fd_l_same ["_law_found", "_law_due"] (spF K cls0 run_l_same) :=
  fn_ok 2 T.F_l_same sc_l_same rfl fun cdv A outer sh H E hr => 
  (ds_cons (ds_if (dt_w (dw_or (dt_not (dt_val (de_isi .list (by rfl) T.n_isinstance (by rfl) T.n_list boot_list (de_peek (pv 0))))) (dw_or1 (dt_cmp (opNeA (hu65 hr)) op2_rD (de_callB (callLenU) (by rfl) T.n_len boot_len (da_cons (de_peek (pv 0)) da_nil)) (de_callB (callLenU) (by rfl) T.n_len boot_len (da_cons (de_peek (pv 1)) da_nil)))))) (ds_one (ds_ret (dm_of de_bl))) ds_nil)
    (ds_cons (ds_forR1 PassesOwn.never rfl (by rfl) T.n_range (da_cons (de_callB (callLenU) (by rfl) T.n_len boot_len (da_cons (de_peek (pv 1)) da_nil)) da_nil) (dg_name (i := 2) sc_l_same.nd rfl (by first | exact Or.inl rfl | exact Or.inr rfl)) (ds_cons (ds_if (dt_w (dw_or (dt_not (dt_val (de_isi .tuple (by rfl) T.n_isinstance (by rfl) T.n_tuple boot_tuple (de_ix (opIxA (hu1 hr)) op2_rD (de_peek (pv 0)) (de_peek (pv 2)))))) (dw_or1 (dt_cmp (opNeA (hu65 hr)) op2_rD (de_ix (opIxA (hu1 hr)) op2_rD (de_peek (pv 0)) (de_peek (pv 2))) (de_ix (opIxA (hu1 hr)) op2_rD (de_peek (pv 1)) (de_peek (pv 2))))))) (ds_one (ds_ret (dm_of de_bl))) ds_nil)
    (ds_cons (ds_if (dt_cmp (opNeA (hu65 hr)) op2_rD (de_isi .bool (by rfl) T.n_isinstance (by rfl) T.n_bool boot_bool (de_ix (opIxA (hu1 hr)) op2_rD (de_ix (opIxA (hu1 hr)) op2_rD (de_peek (pv 0)) (de_peek (pv 2))) de_int)) (de_isi .bool (by rfl) T.n_isinstance (by rfl) T.n_bool boot_bool (de_ix (opIxA (hu1 hr)) op2_rD (de_ix (opIxA (hu1 hr)) op2_rD (de_peek (pv 1)) (de_peek (pv 2))) de_int))) (ds_one (ds_ret (dm_of de_bl))) ds_nil)
    (ds_one (ds_if (dt_val (de_callB (callAnyL rfl) (by rfl) T.n_any boot_any (da_cons (de_comp rfl sc_l_same.nd (di_e (de_ix (opIxA (hu1 hr)) op2_rD (de_ix (opIxA (hu1 hr)) op2_rD (de_peek (pv 0)) (de_peek (pv 2))) de_int)) (blkOk_by (own := [("_law_value", 3)]) (by show blkC ["_law_found", "_law_due", "_law_k", "_law_value"] (defScope s_l_same) _ _ = true; decide +kernel)) (fun _ _ _ _ _ => (dgv_name (i := 3) sc_l_same.nd rfl (by first | exact Or.inl rfl | exact Or.inr rfl) (by decide))) (fun _ _ _ _ _ => dts_nil) (fun _ _ _ _ _ => (de_sto (de_isi .bool (by rfl) T.n_isinstance (by rfl) T.n_bool boot_bool (de_peek (pv 3)))))) da_nil))) (ds_one (ds_ret (dm_of de_bl))) ds_nil)))))
    (ds_one (ds_ret (dm_of de_bl)))))
theorem ok_l_copies (T : Tx K mg) : FnOk P w K mg base CX0 1 T.f_l_copies T.fd_l_copies ["_law_rows"] (spF K cls0 run_l_copies) :=
  fn_ok 1 T.F_l_copies sc_l_copies rfl fun cdv A outer sh H E hr => 
  (ds_one (ds_ret (dm_of (de_comp rfl sc_l_copies.nd (di_e (de_name (pv 0))) (blkOk_by (own := [("_law_row", 1)]) (by show blkC ["_law_rows", "_law_row"] (defScope s_l_copies) _ _ = true; decide +kernel)) (fun _ _ _ _ _ => (dgv_name (i := 1) sc_l_copies.nd rfl (by first | exact Or.inl rfl | exact Or.inr rfl) (by decide))) (fun _ _ _ _ _ => dts_nil) (fun _ _ _ _ _ => (de_sto (de_ifE (dt_val (de_isi .list (by rfl) T.n_isinstance (by rfl) T.n_list boot_list (de_ix (opIxA (hu1 hr)) op2_rD (de_peek (pv 1)) (de_un opNeg op1_rD de_int)))) (de_bin opAdd op2_rD (de_sl (de_peek (pv 1)) do_none (do_some (de_un opNeg op1_rD de_int))) (de_tup (da_cons (de_sto (de_callTy (callList) (by rfl) T.n_list boot_list (da_cons (de_ix (opIxA (hu1 hr)) op2_rD (de_peek (pv 1)) (de_un opNeg op1_rD de_int)) da_nil))) da_nil))) (de_name (pv 1)))))))))
theorem ok_law (T : Tx K mg) : FnOk P w K mg base CX0 5 T.f_law T.fd_law ["_law_script"] (spF K cls0 run_law) :=
  fn_okO 12 T.F_law sc_law rfl fun cdv A outer sh H E hr => 
  (bs_cons (bs_old (ds_set (i := 1) sc_law.nd rfl (by first | exact Or.inl rfl | exact Or.inr rfl) (dm_of de_str)))
    (bs_cons (bs_old (ds_setComp (i := 2) rfl sc_law.nd rfl rfl (sw_true rfl rfl (by decide) (by decide)) (di_r1 (by rfl) T.n_range (da_cons de_int da_nil)) (blkOk_by (own := [("_law_k", 12)]) (by show blkC ["_law_script", "_law_letters", "_law_tables", "_law_marks", "_law_number", "_law_values", "_law_told_here", "_law_atom", "_law_due", "_law_handed", "_law_found", "_law_one", "_law_k"] (defScope s_law) _ _ = true; decide +kernel)) (fun _ _ _ _ _ => (dgv_name (i := 12) sc_law.nd rfl (by first | exact Or.inl rfl | exact Or.inr rfl) (by decide))) (fun _ _ _ _ _ => dts_nil) (fun _ _ _ _ _ => (de_sto (de_call (ok_l_name T) (hr.mono (by decide)) (by rfl) T.g_l_name T.F_l_name.kp T.b_l_name (da_cons (de_arg (de_call (ok_l_cell_at T) (hr.mono (by decide)) (by rfl) T.g_l_cell_at T.F_l_cell_at.kp T.b_l_cell_at (da_cons (de_arg (de_name (pv 0))) (da_cons (de_arg de_int) da_nil)))) (da_cons (de_arg (de_call (ok_l_cell_at T) (hr.mono (by decide)) (by rfl) T.g_l_cell_at T.F_l_cell_at.kp T.b_l_cell_at (da_cons (de_arg (de_name (pv 0))) (da_cons (de_arg de_int) da_nil)))) (da_cons (de_arg (de_name (pv 12))) (da_cons (de_arg (de_name (pv 1))) da_nil)))))))))
    (bs_cons (bs_old (ds_setComp (i := 3) rfl sc_law.nd rfl rfl (sw_true rfl rfl (by decide) (by decide)) (di_r1 (by rfl) T.n_range (da_cons de_int da_nil)) (blkOk_by (own := [("_law_k", 12)]) (by show blkC ["_law_script", "_law_letters", "_law_tables", "_law_marks", "_law_number", "_law_values", "_law_told_here", "_law_atom", "_law_due", "_law_handed", "_law_found", "_law_one", "_law_k"] (defScope s_law) _ _ = true; decide +kernel)) (fun _ _ _ _ _ => (dgv_name (i := 12) sc_law.nd rfl (by first | exact Or.inl rfl | exact Or.inr rfl) (by decide))) (fun _ _ _ _ _ => dts_nil) (fun _ _ _ _ _ => (de_sto (de_call (ok_l_name T) (hr.mono (by decide)) (by rfl) T.g_l_name T.F_l_name.kp T.b_l_name (da_cons (de_arg (de_call (ok_l_cell_at T) (hr.mono (by decide)) (by rfl) T.g_l_cell_at T.F_l_cell_at.kp T.b_l_cell_at (da_cons (de_arg (de_name (pv 0))) (da_cons (de_arg de_int) da_nil)))) (da_cons (de_arg (de_call (ok_l_cell_at T) (hr.mono (by decide)) (by rfl) T.g_l_cell_at T.F_l_cell_at.kp T.b_l_cell_at (da_cons (de_arg (de_name (pv 0))) (da_cons (de_arg de_int) da_nil)))) (da_cons (de_arg (de_name (pv 12))) (da_cons (de_arg (de_m0 PySem.F.slot_str_upper PySem.F.type_str_upper mtUpper (de_peek (pv 1)) upper_str)) da_nil)))))))))
    (bs_cons (bs_old (ds_set (i := 4) sc_law.nd rfl (by first | exact Or.inl rfl | exact Or.inr rfl) (dm_of (de_bin opMul op2_rD (de_bin opMod op2_rD (de_call (ok_l_cell_at T) (hr.mono (by decide)) (by rfl) T.g_l_cell_at T.F_l_cell_at.kp T.b_l_cell_at (da_cons (de_arg (de_name (pv 0))) (da_cons (de_arg de_int) da_nil))) (de_bin opPow op2_rD de_int de_int)) (de_ix (opIxA (hu1 hr)) op2_rD (de_lst (da_cons (de_sto de_int) (da_cons (de_sto (de_un opNeg op1_rD de_int)) da_nil))) (de_bin opMod op2_rD (de_call (ok_l_cell_at T) (hr.mono (by decide)) (by rfl) T.g_l_cell_at T.F_l_cell_at.kp T.b_l_cell_at (da_cons (de_arg (de_name (pv 0))) (da_cons (de_arg de_int) da_nil))) de_int))))))
    (bs_cons (bs_old (ds_set (i := 5) sc_law.nd rfl (by first | exact Or.inl rfl | exact Or.inr rfl) (dm_of (de_lst (da_cons (de_sto (de_name (pv 4))) (da_cons (de_sto (de_ix (opIxA (hu1 hr)) op2_rD (de_peek (pv 2)) de_int)) (da_cons (de_sto (de_bin opAdd op2_rD (de_peek (pv 4)) de_int)) (da_cons (de_sto (de_ix (opIxA (hu1 hr)) op2_rD (de_peek (pv 2)) de_int)) da_nil))))))))
    (bs_cons (bs_old (ds_set (i := 6) sc_law.nd rfl (by first | exact Or.inl rfl | exact Or.inr rfl) (dm_of (de_call (ok_l_told T) (hr.mono (by decide)) (by rfl) T.g_l_told T.F_l_told.kp T.b_l_told (da_cons (de_arg (de_name (pv 0))) (da_cons (de_arg (de_name (pv 2))) (da_cons (de_arg (de_name (pv 5))) (da_cons (de_arg (de_ix (opIxA (hu1 hr)) op2_rD (de_peek (pv 2)) de_int)) da_nil))))))))
    (bs_cons (bs_old (ds_set (i := 7) sc_law.nd rfl (by first | exact Or.inl rfl | exact Or.inr rfl) (dm_of (de_tup (da_cons (de_sto (de_ix (opIxA (hu1 hr)) op2_rD (de_peek (pv 2)) (de_ix (opIxA (hu1 hr)) op2_rD (de_lst (da_cons (de_sto de_int) (da_cons (de_sto de_int) (da_cons (de_sto de_int) (da_cons (de_sto de_int) (da_cons (de_sto de_int) da_nil)))))) (de_bin opMod op2_rD (de_call (ok_l_cell_at T) (hr.mono (by decide)) (by rfl) T.g_l_cell_at T.F_l_cell_at.kp T.b_l_cell_at (da_cons (de_arg (de_name (pv 0))) (da_cons (de_arg de_int) da_nil))) de_int)))) (da_cons (de_sto (de_call (ok_l_terms T) (hr.mono (by decide)) (by rfl) T.g_l_terms T.F_l_terms.kp T.b_l_terms (da_cons (de_arg (de_name (pv 0))) (da_cons (de_arg (de_name (pv 3))) (da_cons (de_arg (de_name (pv 5))) da_nil))))) da_nil))))))
    (bs_cons (bs_old (ds_setComp (i := 8) rfl sc_law.nd rfl rfl (sw_true rfl rfl (by decide) (by decide)) (di_e (de_name (pv 6))) (blkOk_by (own := [("_law_one", 11)]) (by show blkC ["_law_script", "_law_letters", "_law_tables", "_law_marks", "_law_number", "_law_values", "_law_told_here", "_law_atom", "_law_due", "_law_handed", "_law_found", "_law_one", "_law_k"] (defScope s_law) _ _ = true; decide +kernel)) (fun _ _ _ _ _ => (dgv_name (i := 11) sc_law.nd rfl (by first | exact Or.inl rfl | exact Or.inr rfl) (by decide))) (fun _ _ _ _ _ => (dts_one (dt_w (dw_and (dt_cmp (opEqA (hu65 hr)) op2_rD (de_ix (opIxA (hu1 hr)) op2_rD (de_peek (pv 11)) de_int) (de_ix (opIxA (hu1 hr)) op2_rD (de_peek (pv 7)) de_int)) (dw_and1 (dt_val (de_call (ok_l_matches T) (hr.mono (by decide)) (by rfl) T.g_l_matches T.F_l_matches.kp T.b_l_matches (da_cons (de_arg (de_ix (opIxA (hu1 hr)) op2_rD (de_peek (pv 7)) de_int)) (da_cons (de_arg (de_ix (opIxA (hu1 hr)) op2_rD (de_peek (pv 11)) de_int)) da_nil))))))))) (fun _ _ _ _ _ => (de_sto (de_sl (de_peek (pv 11)) (do_some de_int) do_none)))))
    (bs_cons (bs_old (ds_set (i := 9) sc_law.nd rfl (by first | exact Or.inl rfl | exact Or.inr rfl) (dm_of (de_call (ok_l_copies T) (hr.mono (by decide)) (by rfl) T.g_l_copies T.F_l_copies.kp T.b_l_copies (da_cons (de_arg (de_name (pv 6))) da_nil)))))
    (bs_cons (bs_set (i := 10) sc_law.nd rfl (by first | exact Or.inl rfl | exact Or.inr rfl) (be_call (ok_asked T) (hr.mono (by decide)) (by rfl) T.g_asked T.F_asked.kp T.b_asked (ba_cons (be_oldE (de_name (pv 9))) (ba_cons (be_oldE (de_name (pv 7))) ba_nil))))
    (bs_cons (bs_if (bt_look [false, false, false, false, false, false, true, false, true, true, true, false, false] (dt_w (dw_or (dt_not (dt_val (de_call (ok_l_same T) (hr.mono (by decide)) (by rfl) T.g_l_same T.F_l_same.kp T.b_l_same (da_cons (de_arg (de_name (pv 10))) (da_cons (de_arg (de_name (pv 8))) da_nil))))) (dw_or1 (dt_cmp (opNeA (hu65 hr)) op2_rD (de_peek (pv 9)) (de_peek (pv 6))))))) (bss_old (ds_one (ds_ret (dm_of de_bl)))) bs_nil)
    (bs_cons (bs_for PassesOwn.never rfl (be_nm (pv 10)) (bg_name (i := 11) sc_law.nd rfl (by first | exact Or.inl rfl | exact Or.inr rfl)) (bs_one (bs_if (bt_look [false, false, false, false, false, false, false, false, false, false, false, true, false] (dt_val (de_isi .list (by rfl) T.n_isinstance (by rfl) T.n_list boot_list (de_ix (opIxA (hu1 hr)) op2_rD (de_peek (pv 11)) de_int)))) (bs_one (bs_expr (be_mut (.inl rfl) PySem.F.plainAttrs_list PySem.F.slot_list_append PySem.F.type_list_append mt_append mus_append (be_ix (hu1 hr) (be_nm (pv 11)) (be_oldE de_int)) (ba_cons (be_oldE de_int) ba_nil)))) bs_nil)))
    (bs_cons (bs_expr (be_mut (.inl rfl) PySem.F.plainAttrs_list PySem.F.slot_list_append PySem.F.type_list_append mt_append mus_append (be_nm (pv 10)) (ba_cons (be_oldE (de_tup (da_cons (de_sto (de_tup da_nil)) (da_cons (de_sto de_int) da_nil)))) ba_nil)))
    (bs_one (bs_ret (be_and (be_oldE (de_cmp (opEqA (hu65 hr)) op2_rD (de_peek (pv 9)) (de_peek (pv 6)))) (be_one (be_callO (ok_l_same T) (hr.mono (by decide)) (by rfl) T.g_l_same T.F_l_same.kp T.b_l_same (ba_cons (be_call (ok_asked T) (hr.mono (by decide)) (by rfl) T.g_asked T.F_asked.kp T.b_asked (ba_cons (be_oldE (de_name (pv 9))) (ba_cons (be_oldE (de_name (pv 7))) ba_nil))) (ba_cons (be_oldE (de_name (pv 8))) ba_nil))))))))))))))))))))
end
/-- the end -/
theorem all_mk {P : Program} {w : World} {K : PySem.W.Frag} {h : Heap} {mg : Str → Option Value} {fa : Addr} (X : K.In h) (G : h.Ns mainGlobals mg) (hfa : mg "law" = some (.ref fa))
    {fx0 : Addr} {od0 an0 : Option Addr} {sl0 : Array (Option Value)} {oc0 kV0 dc0 pm0 cd0 ct0 : Value} (a0 : PySem.W.nsIn K mainGlobals "begins_in" = some (some (.ref fx0))) (l0 : K.lookup fx0 = some ⟨oc0, od0, .func (PySem.W.fnOf "begins_in" "begins_in" (defArgs s_begins_in) (defBody s_begins_in) (defScope s_begins_in) .none kV0 dc0 pm0 an0 cd0 ct0), sl0⟩) (c0 : PySem.W.codeIn K cd0 "begins_in" = true) (k0 : PySem.W.keepIn K (.ref fx0) = true)
    {fx1 : Addr} {od1 an1 : Option Addr} {sl1 : Array (Option Value)} {oc1 kV1 dc1 pm1 cd1 ct1 : Value} (a1 : PySem.W.nsIn K mainGlobals "is_var" = some (some (.ref fx1))) (l1 : K.lookup fx1 = some ⟨oc1, od1, .func (PySem.W.fnOf "is_var" "is_var" (defArgs s_is_var) (defBody s_is_var) (defScope s_is_var) .none kV1 dc1 pm1 an1 cd1 ct1), sl1⟩) (c1 : PySem.W.codeIn K cd1 "is_var" = true) (k1 : PySem.W.keepIn K (.ref fx1) = true)
    {fx2 : Addr} {od2 an2 : Option Addr} {sl2 : Array (Option Value)} {oc2 kV2 dc2 pm2 cd2 ct2 : Value} (a2 : PySem.W.nsIn K mainGlobals "matched" = some (some (.ref fx2))) (l2 : K.lookup fx2 = some ⟨oc2, od2, .func (PySem.W.fnOf "matched" "matched" (defArgs s_matched) (defBody s_matched) (defScope s_matched) .none kV2 dc2 pm2 an2 cd2 ct2), sl2⟩) (c2 : PySem.W.codeIn K cd2 "matched" = true) (k2 : PySem.W.keepIn K (.ref fx2) = true)
    {fx3 : Addr} {od3 an3 : Option Addr} {sl3 : Array (Option Value)} {oc3 kV3 dc3 pm3 cd3 ct3 : Value} (a3 : PySem.W.nsIn K mainGlobals "own" = some (some (.ref fx3))) (l3 : K.lookup fx3 = some ⟨oc3, od3, .func (PySem.W.fnOf "own" "own" (defArgs s_own) (defBody s_own) (defScope s_own) .none kV3 dc3 pm3 an3 cd3 ct3), sl3⟩) (c3 : PySem.W.codeIn K cd3 "own" = true) (k3 : PySem.W.keepIn K (.ref fx3) = true)
    {fx4 : Addr} {od4 an4 : Option Addr} {sl4 : Array (Option Value)} {oc4 kV4 dc4 pm4 cd4 ct4 : Value} (a4 : PySem.W.nsIn K mainGlobals "asked" = some (some (.ref fx4))) (l4 : K.lookup fx4 = some ⟨oc4, od4, .func (PySem.W.fnOf "asked" "asked" (defArgs s_asked) (defBody s_asked) (defScope s_asked) .none kV4 dc4 pm4 an4 cd4 ct4), sl4⟩) (c4 : PySem.W.codeIn K cd4 "asked" = true) (k4 : PySem.W.keepIn K (.ref fx4) = true)
    {fx5 : Addr} {od5 an5 : Option Addr} {sl5 : Array (Option Value)} {oc5 kV5 dc5 pm5 cd5 ct5 : Value} (a5 : PySem.W.nsIn K mainGlobals "_law_cell_at" = some (some (.ref fx5))) (l5 : K.lookup fx5 = some ⟨oc5, od5, .func (PySem.W.fnOf "_law_cell_at" "_law_cell_at" (defArgs s_l_cell_at) (defBody s_l_cell_at) (defScope s_l_cell_at) .none kV5 dc5 pm5 an5 cd5 ct5), sl5⟩) (c5 : PySem.W.codeIn K cd5 "_law_cell_at" = true) (k5 : PySem.W.keepIn K (.ref fx5) = true)
    {fx6 : Addr} {od6 an6 : Option Addr} {sl6 : Array (Option Value)} {oc6 kV6 dc6 pm6 cd6 ct6 : Value} (a6 : PySem.W.nsIn K mainGlobals "_law_name" = some (some (.ref fx6))) (l6 : K.lookup fx6 = some ⟨oc6, od6, .func (PySem.W.fnOf "_law_name" "_law_name" (defArgs s_l_name) (defBody s_l_name) (defScope s_l_name) .none kV6 dc6 pm6 an6 cd6 ct6), sl6⟩) (c6 : PySem.W.codeIn K cd6 "_law_name" = true) (k6 : PySem.W.keepIn K (.ref fx6) = true)
    {fx7 : Addr} {od7 an7 : Option Addr} {sl7 : Array (Option Value)} {oc7 kV7 dc7 pm7 cd7 ct7 : Value} (a7 : PySem.W.nsIn K mainGlobals "_law_thing" = some (some (.ref fx7))) (l7 : K.lookup fx7 = some ⟨oc7, od7, .func (PySem.W.fnOf "_law_thing" "_law_thing" (defArgs s_l_thing) (defBody s_l_thing) (defScope s_l_thing) .none kV7 dc7 pm7 an7 cd7 ct7), sl7⟩) (c7 : PySem.W.codeIn K cd7 "_law_thing" = true) (k7 : PySem.W.keepIn K (.ref fx7) = true)
    {fx8 : Addr} {od8 an8 : Option Addr} {sl8 : Array (Option Value)} {oc8 kV8 dc8 pm8 cd8 ct8 : Value} (a8 : PySem.W.nsIn K mainGlobals "_law_value_ahead" = some (some (.ref fx8))) (l8 : K.lookup fx8 = some ⟨oc8, od8, .func (PySem.W.fnOf "_law_value_ahead" "_law_value_ahead" (defArgs s_l_value_ahead) (defBody s_l_value_ahead) (defScope s_l_value_ahead) .none kV8 dc8 pm8 an8 cd8 ct8), sl8⟩) (c8 : PySem.W.codeIn K cd8 "_law_value_ahead" = true) (k8 : PySem.W.keepIn K (.ref fx8) = true)
    {fx9 : Addr} {od9 an9 : Option Addr} {sl9 : Array (Option Value)} {oc9 kV9 dc9 pm9 cd9 ct9 : Value} (a9 : PySem.W.nsIn K mainGlobals "_law_ahead" = some (some (.ref fx9))) (l9 : K.lookup fx9 = some ⟨oc9, od9, .func (PySem.W.fnOf "_law_ahead" "_law_ahead" (defArgs s_l_ahead) (defBody s_l_ahead) (defScope s_l_ahead) .none kV9 dc9 pm9 an9 cd9 ct9), sl9⟩) (c9 : PySem.W.codeIn K cd9 "_law_ahead" = true) (k9 : PySem.W.keepIn K (.ref fx9) = true)
    {fx10 : Addr} {od10 an10 : Option Addr} {sl10 : Array (Option Value)} {oc10 kV10 dc10 pm10 cd10 ct10 : Value} (a10 : PySem.W.nsIn K mainGlobals "_law_told" = some (some (.ref fx10))) (l10 : K.lookup fx10 = some ⟨oc10, od10, .func (PySem.W.fnOf "_law_told" "_law_told" (defArgs s_l_told) (defBody s_l_told) (defScope s_l_told) .none kV10 dc10 pm10 an10 cd10 ct10), sl10⟩) (c10 : PySem.W.codeIn K cd10 "_law_told" = true) (k10 : PySem.W.keepIn K (.ref fx10) = true)
    {fx11 : Addr} {od11 an11 : Option Addr} {sl11 : Array (Option Value)} {oc11 kV11 dc11 pm11 cd11 ct11 : Value} (a11 : PySem.W.nsIn K mainGlobals "_law_matches" = some (some (.ref fx11))) (l11 : K.lookup fx11 = some ⟨oc11, od11, .func (PySem.W.fnOf "_law_matches" "_law_matches" (defArgs s_l_matches) (defBody s_l_matches) (defScope s_l_matches) .none kV11 dc11 pm11 an11 cd11 ct11), sl11⟩) (c11 : PySem.W.codeIn K cd11 "_law_matches" = true) (k11 : PySem.W.keepIn K (.ref fx11) = true)
    {fx12 : Addr} {od12 an12 : Option Addr} {sl12 : Array (Option Value)} {oc12 kV12 dc12 pm12 cd12 ct12 : Value} (a12 : PySem.W.nsIn K mainGlobals "_law_terms" = some (some (.ref fx12))) (l12 : K.lookup fx12 = some ⟨oc12, od12, .func (PySem.W.fnOf "_law_terms" "_law_terms" (defArgs s_l_terms) (defBody s_l_terms) (defScope s_l_terms) .none kV12 dc12 pm12 an12 cd12 ct12), sl12⟩) (c12 : PySem.W.codeIn K cd12 "_law_terms" = true) (k12 : PySem.W.keepIn K (.ref fx12) = true)
    {fx13 : Addr} {od13 an13 : Option Addr} {sl13 : Array (Option Value)} {oc13 kV13 dc13 pm13 cd13 ct13 : Value} (a13 : PySem.W.nsIn K mainGlobals "_law_same" = some (some (.ref fx13))) (l13 : K.lookup fx13 = some ⟨oc13, od13, .func (PySem.W.fnOf "_law_same" "_law_same" (defArgs s_l_same) (defBody s_l_same) (defScope s_l_same) .none kV13 dc13 pm13 an13 cd13 ct13), sl13⟩) (c13 : PySem.W.codeIn K cd13 "_law_same" = true) (k13 : PySem.W.keepIn K (.ref fx13) = true)
    {fx14 : Addr} {od14 an14 : Option Addr} {sl14 : Array (Option Value)} {oc14 kV14 dc14 pm14 cd14 ct14 : Value} (a14 : PySem.W.nsIn K mainGlobals "_law_copies" = some (some (.ref fx14))) (l14 : K.lookup fx14 = some ⟨oc14, od14, .func (PySem.W.fnOf "_law_copies" "_law_copies" (defArgs s_l_copies) (defBody s_l_copies) (defScope s_l_copies) .none kV14 dc14 pm14 an14 cd14 ct14), sl14⟩) (c14 : PySem.W.codeIn K cd14 "_law_copies" = true) (k14 : PySem.W.keepIn K (.ref fx14) = true)
    {fx15 : Addr} {od15 an15 : Option Addr} {sl15 : Array (Option Value)} {oc15 kV15 dc15 pm15 cd15 ct15 : Value} (a15 : PySem.W.nsIn K mainGlobals "law" = some (some (.ref fx15))) (l15 : K.lookup fx15 = some ⟨oc15, od15, .func (PySem.W.fnOf "law" "law" (defArgs s_law) (defBody s_law) (defScope s_law) .none kV15 dc15 pm15 an15 cd15 ct15), sl15⟩) (c15 : PySem.W.codeIn K cd15 "law" = true) (k15 : PySem.W.keepIn K (.ref fx15) = true)
    (z_any : PySem.W.nsIn K mainGlobals "any" = some none)
    (z_bool : PySem.W.nsIn K mainGlobals "bool" = some none)
    (z_dict : PySem.W.nsIn K mainGlobals "dict" = some none)
    (z_int : PySem.W.nsIn K mainGlobals "int" = some none)
    (z_isinstance : PySem.W.nsIn K mainGlobals "isinstance" = some none)
    (z_len : PySem.W.nsIn K mainGlobals "len" = some none)
    (z_list : PySem.W.nsIn K mainGlobals "list" = some none)
    (z_range : PySem.W.nsIn K mainGlobals "range" = some none)
    (z_str : PySem.W.nsIn K mainGlobals "str" = some none)
    (z_tuple : PySem.W.nsIn K mainGlobals "tuple" = some none)
    (z_zip : PySem.W.nsIn K mainGlobals "zip" = some none)
    {t_SMALL : Tok} (y_SMALL : PySem.W.nsIn K mainGlobals "SMALL" = some (some (.str (PySem.Str.ofString "abcdefghijklmnopqrstuvwxyz") t_SMALL)))
    {t_LARGE : Tok} (y_LARGE : PySem.W.nsIn K mainGlobals "LARGE" = some (some (.str (PySem.Str.ofString "ABCDEFGHIJKLMNOPQRSTUVWXYZ") t_LARGE)))
    {t_FIGURES : Tok} (y_FIGURES : PySem.W.nsIn K mainGlobals "FIGURES" = some (some (.str (PySem.Str.ofString "0123456789") t_FIGURES)))
    {t_LONGEST : Tok} (y_LONGEST : PySem.W.nsIn K mainGlobals "LONGEST" = some (some (.int 12 t_LONGEST)))
    : ∃ fd : FuncData, (∀ (s : Shared) (v : Value), BindsTo s fd ⟨[v], []⟩ [("_law_script", v)]) ∧ ∀ base : Heap, K.In base → base.Ns mainGlobals mg → FnOk P w K mg base CX0 5 fa fd ["_law_script"] (spF K cls0 run_law) := by
  have e := hfa.symm.trans (PySem.W.mg_of X G a15)
  cases e
  have F0 := fun_mk (st := s_begins_in) l0 c0 k0
  have F1 := fun_mk (st := s_is_var) l1 c1 k1
  have F2 := fun_mk (st := s_matched) l2 c2 k2
  have F3 := fun_mk (st := s_own) l3 c3 k3
  have F4 := fun_mk (st := s_asked) l4 c4 k4
  have F5 := fun_mk (st := s_l_cell_at) l5 c5 k5
  have F6 := fun_mk (st := s_l_name) l6 c6 k6
  have F7 := fun_mk (st := s_l_thing) l7 c7 k7
  have F8 := fun_mk (st := s_l_value_ahead) l8 c8 k8
  have F9 := fun_mk (st := s_l_ahead) l9 c9 k9
  have F10 := fun_mk (st := s_l_told) l10 c10 k10
  have F11 := fun_mk (st := s_l_matches) l11 c11 k11
  have F12 := fun_mk (st := s_l_terms) l12 c12 k12
  have F13 := fun_mk (st := s_l_same) l13 c13 k13
  have F14 := fun_mk (st := s_l_copies) l14 c14 k14
  have F15 := fun_mk (st := s_law) l15 c15 k15
  let T : Tx K mg := {
    f_begins_in := fx0, fd_begins_in := _, F_begins_in := F0, g_begins_in := PySem.W.mg_of X G a0, b_begins_in := F0.binds (ps := ["thing", "firsts"]) fun _ _ _ _ _ _ us hl => match us, hl with | [_, _], _ => rfl,
    f_is_var := fx1, fd_is_var := _, F_is_var := F1, g_is_var := PySem.W.mg_of X G a1, b_is_var := F1.binds (ps := ["thing"]) fun _ _ _ _ _ _ us hl => match us, hl with | [_], _ => rfl,
    f_matched := fx2, fd_matched := _, F_matched := F2, g_matched := PySem.W.mg_of X G a2, b_matched := F2.binds (ps := ["terms", "row", "binding"]) fun _ _ _ _ _ _ us hl => match us, hl with | [_, _, _], _ => rfl,
    f_own := fx3, fd_own := _, F_own := F3, g_own := PySem.W.mg_of X G a3, b_own := F3.binds (ps := ["worth"]) fun _ _ _ _ _ _ us hl => match us, hl with | [_], _ => rfl,
    f_asked := fx4, fd_asked := _, F_asked := F4, g_asked := PySem.W.mg_of X G a4, b_asked := F4.binds (ps := ["told", "atom"]) fun _ _ _ _ _ _ us hl => match us, hl with | [_, _], _ => rfl,
    f_l_cell_at := fx5, fd_l_cell_at := _, F_l_cell_at := F5, g_l_cell_at := PySem.W.mg_of X G a5, b_l_cell_at := F5.binds (ps := ["_law_script", "_law_k"]) fun _ _ _ _ _ _ us hl => match us, hl with | [_, _], _ => rfl,
    f_l_name := fx6, fd_l_name := _, F_l_name := F6, g_l_name := PySem.W.mg_of X G a6, b_l_name := F6.binds (ps := ["_law_cell", "_law_place", "_law_k", "_law_first"]) fun _ _ _ _ _ _ us hl => match us, hl with | [_, _, _, _], _ => rfl,
    f_l_thing := fx7, fd_l_thing := _, F_l_thing := F7, g_l_thing := PySem.W.mg_of X G a7, b_l_thing := F7.binds (ps := ["_law_way", "_law_x", "_law_cell", "_law_name_here"]) fun _ _ _ _ _ _ us hl => match us, hl with | [_, _, _, _], _ => rfl,
    f_l_value_ahead := fx8, fd_l_value_ahead := _, F_l_value_ahead := F8, g_l_value_ahead := PySem.W.mg_of X G a8, b_l_value_ahead := F8.binds (ps := ["_law_one", "_law_other"]) fun _ _ _ _ _ _ us hl => match us, hl with | [_, _], _ => rfl,
    f_l_ahead := fx9, fd_l_ahead := _, F_l_ahead := F9, g_l_ahead := PySem.W.mg_of X G a9, b_l_ahead := F9.binds (ps := ["_law_one", "_law_other"]) fun _ _ _ _ _ _ us hl => match us, hl with | [_, _], _ => rfl,
    f_l_told := fx10, fd_l_told := _, F_l_told := F10, g_l_told := PySem.W.mg_of X G a10, b_l_told := F10.binds (ps := ["_law_script", "_law_tables", "_law_values", "_law_name_here"]) fun _ _ _ _ _ _ us hl => match us, hl with | [_, _, _, _], _ => rfl,
    f_l_matches := fx11, fd_l_matches := _, F_l_matches := F11, g_l_matches := PySem.W.mg_of X G a11, b_l_matches := F11.binds (ps := ["_law_terms_here", "_law_row"]) fun _ _ _ _ _ _ us hl => match us, hl with | [_, _], _ => rfl,
    f_l_terms := fx12, fd_l_terms := _, F_l_terms := F12, g_l_terms := PySem.W.mg_of X G a12, b_l_terms := F12.binds (ps := ["_law_script", "_law_marks", "_law_values"]) fun _ _ _ _ _ _ us hl => match us, hl with | [_, _, _], _ => rfl,
    f_l_same := fx13, fd_l_same := _, F_l_same := F13, g_l_same := PySem.W.mg_of X G a13, b_l_same := F13.binds (ps := ["_law_found", "_law_due"]) fun _ _ _ _ _ _ us hl => match us, hl with | [_, _], _ => rfl,
    f_l_copies := fx14, fd_l_copies := _, F_l_copies := F14, g_l_copies := PySem.W.mg_of X G a14, b_l_copies := F14.binds (ps := ["_law_rows"]) fun _ _ _ _ _ _ us hl => match us, hl with | [_], _ => rfl,
    f_law := fa, fd_law := _, F_law := F15, g_law := PySem.W.mg_of X G a15, b_law := F15.binds (ps := ["_law_script"]) fun _ _ _ _ _ _ us hl => match us, hl with | [_], _ => rfl,
    n_any := PySem.W.mg_none_of X G z_any,
    n_bool := PySem.W.mg_none_of X G z_bool,
    n_dict := PySem.W.mg_none_of X G z_dict,
    n_int := PySem.W.mg_none_of X G z_int,
    n_isinstance := PySem.W.mg_none_of X G z_isinstance,
    n_len := PySem.W.mg_none_of X G z_len,
    n_list := PySem.W.mg_none_of X G z_list,
    n_range := PySem.W.mg_none_of X G z_range,
    n_str := PySem.W.mg_none_of X G z_str,
    n_tuple := PySem.W.mg_none_of X G z_tuple,
    n_zip := PySem.W.mg_none_of X G z_zip,
    c_SMALL := ⟨_, PySem.W.mg_of X G y_SMALL⟩,
    c_LARGE := ⟨_, PySem.W.mg_of X G y_LARGE⟩,
    c_FIGURES := ⟨_, PySem.W.mg_of X G y_FIGURES⟩,
    c_LONGEST := ⟨_, PySem.W.mg_of X G y_LONGEST⟩ }
  exact ⟨_, fun s v => .of_eq rfl, fun base _ _ => ok_law T⟩
end Lw
set_option maxHeartbeats 1000000
open Vl
local macro_rules | `(tactic| walk_at "vl") => `(tactic| try simp (config := { decide := false }) only [RS.bind_ok, RS.bind_exc, RS.bind_no, RS.bind_ite, zNm_ap, nmEnd_val, nmEnd_sd, nmEnd_own, zNil_ap, zCons_ap, zCons1_ap, zCons2_ap, zTup_ap, zTup1_ap, mkT_ap, mkTE_some, mkTE_none, fzS_nil, fzS_fz, fzS_lab, fzS_tup, zLst_ap, zLst1_ap, lkEnd_fz, lkEnd_nw, lkEnd_ite, obM_lst, obM_dct, obM_dcu, op2S_ap, z2_ap, z2a_ap, z2b_ap, zTest_ap, asBS_ap, zNotT_ap, zNotT1_ap, zAndT_ap, zAndT1_ap, zOrT_ap, zOrT1_ap, zOld_ap, oldF_nx, oldF_bk, oldF_ct, oldF_fz, oldF_nw, oldF_pk, oldF_ite, zO_ap, oldE_fz, oldE_nw, oldE_pk, oldE_ite, zT_ap, oldB_ap, oldB_ite, zLk_ap, lookE_fz, lookE_nw, lookE_ite, zLkT_ap, lookB_ap, lookB_ite, frS_nil, frS_t, frS_f, deepSl_val, deepSl_own, deepSl_sd, deepSl_no, slD_some, slotS_fz, slotS_lab, slotS_tup, zIx_ap, zIx1_ap, zIx2_ap, ixEnd_ap, ixS_lab, ixS_tup, ixOb_lst, ixOb_str, zMut_ap, zMut1_ap, zMut0_ap, zMut2_ap, zMutE_ap, zMutF_ap, zMutF_ite, ty_lst, ty_dct, oAppend_ap, oReverse_ap, oClear_ap, oInsert_ap, zCallO_ap, zCallO1_ap, callOld_ap, callOldR_ap, callOldR_ite, deeps_nil, deeps_cons, deepsE_ap, deep_fz, zCall_ap, zCall1_ap, callSEnd_ap, callSEnd_ite, zNx_ap, zSeq_ap, zSeq1_nx, zSeq1_rt, zSeq1_bk, zSeq1_ct, zAsg_ap, zAsg1_ap, zRet_ap, zRet1_ap, zRetN_ap, zDrop_ap, zDrop1_ap, zIf_ap, zIf1_ap, zBrk_ap, zCnt_ap, zDct_ap, dPs_nil, dPs_cons, dPs1_ap, dPs2_ap, dPs3_ap, zDct1_ap, zDctE_some, mergeG_nil, mergeG_str, noExcS_ok, noExcS_ite, zForD_ap, zForDE_val, zForR2_ap, zForR2a_ap, zAnd_ap, zAnd1_ap, zOr_ap, zOr1_ap, zIfE_ap, zIfE1_ap, zPut_ap, zPut1_ap, zPut2_ap, zPut3_ap, zPutE_str, zgN_ap, zgT_tup, zgT_fz, zgsRun_nil, zgsRun_cons, zAsgG_ap, zAsgG1_ap, zasgE_ap, zFor_ap, zFor1_fz, zFor1_lab, zFor1_tup, zForF_ap, zForL_ap, zForR1_ap, zForR1a_ap, zturn_nx, zturn_ct, zturn_bk, zturn_rt, zstep_some, finS_rt, finS_nx, finS_ite, finO_rt, finO_nx, finO_ite, finOD_ap, runS_ap, runO_ap, vMinD_ap, kNI_ap, kNI3_ap, oMinD_ints, oMinL_ap, mExtendL_ap, mPopD_ap, mInsert_ap, oMulT_tup, gTL_ap, sZipS_ap, kZipS_ap, zipSEnd_ap, oPartL_ap, inCon_str, vAugL_ap, aug0_ap, kAug_ap, augEnd_ap, augFin_ap, true_and, and_true, vNoS_ap, oPart_ap, oSplit_ap, oStr_str, oStr_int, oIntS_str, oIntS_bl, oIntS_int, vGetA_ap, kGetA1_ap, getA0_ap, kGetA2_ap, kGetA3_ap, getEndA_str, getEndA_int, vForD_ap, forD0_val, forD0_own, noExc_ok, oNeA_dct, oNeA_int, oNeA_bl, oNeA_non, oNeA_str, oNeA_tup, oNeA_lst, mSetD_str, oLower_ap, mExtendT_ap, vForK_ap, forK0_ap, vIfR_ap, kIfR_ap, rtOnly_rt, oLenU_lst, oLenU_tup, oLenU_str, oLenU_dct, oLenU_dcu, oSortedA_lst, vSlS_ap, kSS_ap, kSS2_ap, kSS3_ap, kSS4_ap, oSl3_lst, vMaxD_ap, kMD_ap, kMD3_ap, oLtU_int, oLtU_str, mPop0_ap, oSorted_ap, vGet_ap, kGet1_ap, get0_ap, kGet2_ap, kGet3_ap, oIxU_lst, oIxU_tup, oIxU_str, oIxU_dct, oIxU_dcu, oInU_str, oInU_lst, oInU_tup, vNewU_ap, vPutU_ap, kPutU_ap, put0U_ap, kPutU2_ap, vIsi2_ap, kIsi2_ap, oIxA_lst, oIxA_tup, oIxA_str, oIxA_dct, oGet_str, oGet_int, oInA_str, oInA_lst, oInA_tup, oInA_dstr, oInA_dint, oNotInA_str, oNotInA_lst, oNotInA_tup, oNotInA_dstr, oNotInA_dint, vNewD_ap, oDict_ap, vPut_ap, kPut_ap, put0_ap, kPut2_ap, putEnd_str, putEnd_int, oEqA_dct, oEqA_int, oEqA_bl, oEqA_non, oEqA_str, oEqA_tup, oEqA_lst, vPar_ap, kPar_ap, oJoin_lst, oJoin_tup, joinEnd_ap, oIsB_ap, oIsB_int, oIsB_tup, oIsB_lst, oNotB_tup, oNotB_lst, oNotB_ap, oNotB_int, oAll_ap, allEnd_ap, oMax_ap, oMin_ap, vChain_ap, kCh1_ap, kCh2_ap, kChE_ap, kCh_ap, vSetIx_ap, kSetIx_ap, setIx0_ap, kSetIx2_ap, setIxEnd_ap, setIxFin_ap, vM1_ap, kM1_ap, kM1b_ap, oUpper_ap, oFind_ap, vComp_ap, kComp_ap, compFin_ap, wipeS_nil, wipeS_cons, sE_ap, kSrcE_fz, kSrcE_nw, srcEnd_ap, sR1_ap, kSrcR1_ap, r1End_ap, sR2_ap, kSrcR2_ap, r2End_ap, sZip_ap, kZip_ap, zipEnd_lst, zipEnd_tup, sEnum_ap, kEnum_ap, enumEnd_ap, vForI_ap, kForI_ap, runB_ap, divOk_lit, powOk_lit, powPos, mulOk_right, mulOk_left, bigI_lit, atI_zero, atI_one, atI_two, atI_three, atI_four, atI_five, atI_six, atI_seven, fin_rt, fin_nx, fin_ite, vSeq_ap, kSeq_nx, kSeq_rt, kSeq_bk, kSeq_ct, vIf_ap, kIf_ap, vTest_ap, asB_ap, v2_ap, k2_ap, k2b_ap, v1_ap, k1_ap, vN_ap, kN_ap, vPeek_ap, peekEnd_val, peekEnd_own, vName_ap, nameEnd_val, nameEnd_own, vC_ap, vCons_ap, kCons_ap, kCons2_ap, vNil_ap, vArg_ap, kArg_fz, kArg_nw, kArg_pk, vSto_ap, kSto_fz, kSto_nw, vRet_ap, kRet_ap, vRetN_ap, vNx_ap, vAsg_ap, kAsg_ap, vDrop_ap, kDrop_ap, slotOf, vCall_ap, kCall_ap, callEnd_ok, callEnd_ite, vTup_ap, kTup_ap, tupEnd_ap, vLst_ap, kLst_ap, lstEnd_ap, fzs, vIsi_ap, kIsi_ap, isT, vNotT_ap, kNotT_ap, vAndT_ap, kAndT_ap, vOrT_ap, kOrT_ap, vNot_ap, kNot_ap, vAnd_ap, kAnd_ap, vOr_ap, kOr_ap, vIfE_ap, kIfE_ap, vSl_ap, kSl_ap, kSl2_ap, kSl3_ap, vPart_ap, kPart_ap, vNoPart_ap, vBrk_ap, vCnt_ap, vAsgG_ap, kAsgG_ap, asgEnd_ap, gN_ap, gT_ap, gsRun_nil, gsRun_cons, vFor_ap, kFor_fz, kFor_nw, forEnd_ap, itemsOf_lst, itemsOf_tup, itemsOf_str, vForR1_ap, kForR1_ap, forR1End_ap, vForR2_ap, kForR2_ap, forR2End_ap, vMutT_ap, mutStart_own, kMut_ap, mutEnd_ap, mutFin_ap, mutFin_ite, M.ty, mAppend, mExtend, mReverse, mClear, give_some, give_none, give_ite, oAdd, oSub, oMul, oDiv, oMod, oPow, oNeg, oLt, oLe, oGt, oGe, oIsN, oNotN, oIx, oSl, oLen, oInt, oTuple, oList, oEq, oNe, oIn, oNotIn, D.lay, D.lays, D.eqv, D.eqvs, D.flat1, R.bind_ok, R.bind_no, R.bind_exc, R.bind_ite, Val.d, M.d, Val.out, Val.isNw, Val.isPk, Val.flat, M.noL, D.noL, D.noLs, List.getElem?_cons_zero, List.getElem?_cons_succ, List.set_cons_zero, List.set_cons_succ, List.map_cons, List.map_nil, List.length_cons, List.length_nil, List.cons_append, List.nil_append, List.replicate_succ, List.replicate_zero, List.any_cons, List.any_nil, Option.map_some, Option.map_none, Option.bind_some, Bool.or_false, Bool.false_or, Bool.or_true, Bool.true_or, Bool.and_true, Bool.true_and, Bool.and_false, Bool.false_and, Bool.not_true, Bool.not_false, reduceIte, Bool.false_eq_true, Nat.zero_add, decide_eq_true_eq, beq_iff_eq, bne_iff_ne, ite_self, Int.reduceLT, Int.reduceLE, Nat.reduceLT, Nat.reduceLeDiff, Nat.reduceAdd, Int.reduceAdd, decide_true, decide_false, Nat.reduceEqDiff, Int.reduceEq])
namespace Lw
def okSign (c : Nat) : Bool := decide (c ∈ tx0) || decide (c ∈ tx1)
def wordT (f : List Nat) : List Nat → Bool
  | [] => false
  | c :: r => decide (r.length ≤ 11) && (decide (c ∈ f) && r.all okSign)
theorem wordT_cons (f : List Nat) (c : Nat) (r : List Nat) : wordT f (c :: r) = (decide (r.length ≤ 11) && (decide (c ∈ f) && r.all okSign)) := rfl
theorem begins_str (f : List Nat) : ∀ x : List Nat, run_begins_in [.str x, .str f] = .ok (.fz (.bl (wordT f x)))
  | [] => by
    unfold run_begins_in b_begins_in
    walk_at "vl"
    rfl
  | c :: r => by
    unfold run_begins_in b_begins_in
    walk_at "vl"
    rw [if_neg (List.cons_ne_nil c r)]
    rw [wordT_cons]
    by_cases h1 : (12 : Int) < ((r.length + 1 : Nat) : Int)
    · rw [if_pos h1, decide_eq_false (by omega)]; rfl
    · rw [if_neg h1, decide_eq_true (show r.length ≤ 11 by omega)]
      simp only [inStr, cut_fromI _ 1 (by decide)]
      by_cases h2 : c ∈ f
      · rw [decide_eq_true h2, if_neg (by decide)]
        obtain ⟨q1, q2⟩ := loop_all (g := gN 2) (body := lb_begins_in_1) (fun s => ∃ d, s = [.val (.str (c :: r)), .val (.str f), d]) (fun d => match d with | .str [c] => okSign c | _ => true) (.fz (.bl false)) (List.map (fun c => D.str [c]) (List.drop (Int.toNat 1) (c :: r))) [.val (.str (c :: r)), .val (.str f), .no] ⟨_, rfl⟩ (by
          rintro d s hd ⟨e, rfl⟩
          obtain ⟨a, _, rfl⟩ := List.mem_map.mp hd
          refine ⟨_, rfl, fun h => ⟨[.val (.str (c :: r)), .val (.str f), .val (.str [a])], ?_, _, rfl⟩, fun h => ?_⟩
          · unfold lb_begins_in_1
            walk_at "vl"
            simp only [inStr]
            unfold okSign at h
            simp only [Bool.or_eq_true, decide_eq_true_eq] at h
            rcases h with h | h <;> simp [h]
          · unfold lb_begins_in_1
            walk_at "vl"
            simp only [inStr]
            unfold okSign at h
            simp only [Bool.or_eq_false_iff, decide_eq_false_iff_not] at h
            simp [h.1, h.2])
        have e : (List.map (fun c => D.str [c]) (List.drop (Int.toNat 1) (c :: r))).all (fun d => match d with | .str [c] => okSign c | _ => true) = r.all okSign := by
          show (List.map (fun c => D.str [c]) r).all _ = _
          rw [List.all_map]; rfl
        rw [e] at q1 q2
        cases h3 : r.all okSign with
        | true =>
          obtain ⟨s, e1, _, rfl⟩ := q1 h3
          rw [e1]
          walk_at "vl"
        | false =>
          rw [q2 h3]
          walk_at "vl"
      · rw [decide_eq_false h2]; rfl
theorem begins_no (f : List Nat) (d : D) (h : isT .str d = false) : run_begins_in [d, .str f] = .ok (.fz (.bl false)) := by
  unfold run_begins_in b_begins_in
  cases d <;> first | cases h | skip
  all_goals walk_at "vl"
def wordD (f : List Nat) : D → Bool
  | .str x => wordT f x
  | _ => false
theorem begins_eq (f : List Nat) (d : D) : run_begins_in [d, .str f] = .ok (.fz (.bl (wordD f d))) := by
  cases d with
  | str x => exact begins_str f x
  | _ => exact begins_no f _ rfl
theorem is_var_eq (d : D) : run_is_var [d] = .ok (.fz (.bl (wordD tx2 d))) := by
  unfold run_is_var b_is_var
  walk_at "vl"
  rw [begins_eq]
  walk_at "vl"
def cell (ns : List Int) (k : Int) : Int := ns.getD k.toNat 0
theorem cell_eq (ns : List Int) (k : Int) (h : 0 ≤ k) : run_l_cell_at [.lst (ns.map .int), .int k] = .ok (.fz (.int (cell ns k))) := by
  unfold run_l_cell_at b_l_cell_at
  walk_at "vl"
  unfold cell
  by_cases hk : k < ((List.map D.int ns).length : Int)
  · rw [if_pos hk, atI_getD _ _ (.int 0) h hk]
    walk_at "vl"
    rw [List.getD_eq_getElem?_getD, List.getElem?_map, List.getD_eq_getElem?_getD]
    cases ns[k.toNat]? <;> rfl
  · rw [if_neg hk, List.getD_eq_getElem?_getD, List.getElem?_eq_none (by rw [List.length_map] at hk; omega)]
    rfl
theorem rangeD_at {lo : Int} {n i : Nat} {d : D} (h : (rangeD lo n)[i]? = some d) : d = .int (lo + i) ∧ i < n := by
  unfold rangeD at h
  rw [List.getElem?_map] at h
  obtain ⟨j, hj, rfl⟩ := Option.map_eq_some_iff.mp h
  obtain ⟨hl, hj⟩ := List.getElem?_eq_some_iff.mp hj
  rw [List.getElem_range] at hj
  subst hj
  exact ⟨rfl, by simpa using hl⟩
theorem rangeD_len {lo : Int} {n : Nat} : (rangeD lo n).length = n := by unfold rangeD; simp
theorem rangeD_succ (lo : Int) (n : Nat) : rangeD lo (n + 1) = .int lo :: rangeD (lo + 1) n := by
  unfold rangeD
  rw [List.range_succ_eq_map, List.map_cons, List.map_map]
  congr 1
  · simp
  · refine List.map_congr_left fun j _ => ?_
    simp only [Function.comp]
    congr 1
    omega
theorem atI_pre {α : Type} (p : List α) (c : α) (x : List α) : L2.atI (p ++ c :: x) (p.length : Int) = some c := L2.atI_nat (by simp)
def Good (d : D) : Prop := (∃ i, d = .int i) ∨ ∃ x, d = .str x ∧ wordT tx0 x = true
theorem word_len {f x : List Nat} (h : wordT f x = true) : x.length ≤ 12 ∧ 0 < x.length := by
  cases x with
  | nil => cases h
  | cons c r =>
    rw [wordT_cons, Bool.and_eq_true, decide_eq_true_eq] at h
    exact ⟨by simp; omega, by simp⟩
theorem getK_mem {k v : D} : ∀ {ks vs : List D}, getK ks vs k = some v → v ∈ vs
  | [], vs, h => by cases vs <;> cases h
  | a :: ks, [], h => by cases h
  | a :: ks, b :: vs, h => by
    unfold getK at h
    by_cases e : a = k
    · rw [if_pos e] at h
      rw [← Option.some.inj h]
      exact List.mem_cons_self
    · rw [if_neg e] at h
      exact List.mem_cons_of_mem _ (getK_mem h)
theorem getK_none {k : D} : ∀ {ks vs : List D}, ks.length = vs.length → getK ks vs k = none → k ∉ ks
  | [], _, _, _ => by simp
  | a :: ks, [], h, _ => by simp at h
  | a :: ks, b :: vs, h, h2 => by
    unfold getK at h2
    by_cases e : a = k
    · rw [if_pos e] at h2; cases h2
    · rw [if_neg e] at h2
      simp only [List.mem_cons, not_or]
      exact ⟨fun z => e z.symm, getK_none (by simpa using h) h2⟩
theorem getK_snoc {k v k' : D} : ∀ {ks vs : List D}, ks.length = vs.length → getK (ks ++ [k']) (vs ++ [v]) k = match getK ks vs k with | some w => some w | none => if k' = k then some v else none
  | [], [], _ => by
    show (if k' = k then some v else getK [] [] k) = _
    rfl
  | [], b :: vs, h => by simp at h
  | a :: ks, [], h => by simp at h
  | a :: ks, b :: vs, h => by
    show (if a = k then some b else getK (ks ++ [k']) (vs ++ [v]) k) = match (if a = k then some b else getK ks vs k) with | some w => some w | none => _
    by_cases e : a = k
    · rw [if_pos e, if_pos e]
    · rw [if_neg e, if_neg e]; exact getK_snoc (by simpa using h)
def Key (d : D) : Prop := wordD tx2 d = true
theorem tx0_not2 : ∀ c ∈ tx0, c ∉ tx2 := by decide
theorem low_not {x : List Nat} (h : wordT tx0 x = true) : wordT tx2 x = false ∧ ∃ c r, x = c :: r ∧ c ∉ tx2 := by
  cases x with
  | nil => cases h
  | cons c r =>
    rw [wordT_cons, Bool.and_eq_true, Bool.and_eq_true, decide_eq_true_eq, decide_eq_true_eq] at h
    have := tx0_not2 c h.2.1
    exact ⟨by rw [wordT_cons, decide_eq_false this]; simp, c, r, rfl, this⟩
theorem good_novar {d : D} (h : Good d) : wordD tx2 d = false := by
  rcases h with ⟨i, rfl⟩ | ⟨x, rfl, hx⟩
  · rfl
  · exact (low_not hx).1
structure B0 (ks vs : List D) : Prop where
  nd : ks.Nodup
  len : ks.length = vs.length
  key : ∀ k ∈ ks, Key k
  good : ∀ v ∈ vs, Good v
theorem B0.nil : B0 [] [] := ⟨List.nodup_nil, rfl, by simp, by simp⟩
theorem B0.snoc {ks vs : List D} (h : B0 ks vs) {k v : D} (hk : Key k) (hv : Good v) (e : getK ks vs k = none) : B0 (ks ++ [k]) (vs ++ [v]) := by
  refine ⟨?_, by rw [List.length_append, List.length_append, h.len]; rfl, fun w hw => ?_, fun w hw => ?_⟩
  · rw [List.nodup_append]
    refine ⟨h.nd, by simp, fun a ha b hb => ?_⟩
    rw [List.mem_singleton.mp hb]
    rintro rfl
    exact getK_none h.len e ha
  · rcases List.mem_append.mp hw with hw | hw
    · exact h.key w hw
    · rw [List.mem_singleton.mp hw]; exact hk
  · rcases List.mem_append.mp hw with hw | hw
    · exact h.good w hw
    · rw [List.mem_singleton.mp hw]; exact hv
theorem good_lay {d : D} (h : Good d) (n : Nat) : D.lay n d = true := by
  rcases h with ⟨i, rfl⟩ | ⟨x, rfl, _⟩ <;> cases n <;> rfl
theorem good_eqv {d e : D} (hd : Good d) (he : Good e) : D.eqv d e = decide (d = e) := by
  rcases hd with ⟨i, rfl⟩ | ⟨x, rfl, hx⟩ <;> rcases he with ⟨j, rfl⟩ | ⟨y, rfl, hy⟩
  · show (i == j) = _
    by_cases h : i = j <;> simp [h]
  · show false = _
    simp
  · show false = _
    simp
  · show (x == y) = _
    by_cases h : x = y <;> simp [h]
theorem ne_good {d e : D} (hd : Good d) (he : Good e) : oNeA d e = some (.fz (.bl (!decide (d = e)))) := by
  have h : oNeA d e = oNe d e := by rcases hd with ⟨i, rfl⟩ | ⟨x, rfl, _⟩ <;> rcases he with ⟨j, rfl⟩ | ⟨y, rfl, _⟩ <;> rfl
  rw [h]
  unfold oNe
  rw [good_lay hd, good_lay he, good_eqv hd he]; rfl
/-! ## what matches -/
def Trm (d : D) : Prop := wordD tx2 d = true ∨ Good d
theorem Trm.good {d : D} (h : Trm d) (hw : wordD tx2 d = false) : Good d := h.elim (fun q => by rw [hw] at q; cases q) id
theorem var_str {d : D} (h : wordD tx2 d = true) : ∃ x, d = .str x := by
  cases d with
  | str x => exact ⟨x, rfl⟩
  | _ => cases h
def mt : List D → List D → List D → List D → Option (List D × List D)
  | t :: ts, v :: r, ks, vs => if wordD tx2 t = true then (match getK ks vs t with | some w => if w = v then mt ts r ks vs else none | none => mt ts r (ks ++ [t]) (vs ++ [v])) else if t = v then mt ts r ks vs else none
  | _, _, ks, vs => some (ks, vs)
theorem mt_B0 : ∀ {ts r ks vs : List D} {p : List D × List D}, B0 ks vs → (∀ v ∈ r, Good v) → mt ts r ks vs = some p → B0 p.1 p.2 ∧ p.1.length ≤ ks.length + ts.length
  | [], r, ks, vs, p, h, _, e => by
    cases r <;> (cases e; exact ⟨h, by simp⟩)
  | t :: ts, [], ks, vs, p, h, _, e => by cases e; exact ⟨h, by simp⟩
  | t :: ts, v :: r, ks, vs, p, h, hr, e => by
    have hr' : ∀ v ∈ r, Good v := fun x hx => hr x (List.mem_cons_of_mem _ hx)
    have fin : ∀ {q : Prop}, (q ∧ p.1.length ≤ ks.length + ts.length) → q ∧ p.1.length ≤ ks.length + (t :: ts).length := fun h => ⟨h.1, by rw [List.length_cons]; omega⟩
    unfold mt at e
    by_cases hw : wordD tx2 t = true
    · rw [if_pos hw] at e
      cases eg : getK ks vs t with
      | some w =>
        rw [eg] at e
        dsimp only at e
        by_cases hv : w = v
        · rw [if_pos hv] at e
          exact fin (mt_B0 h hr' e)
        · rw [if_neg hv] at e; cases e
      | none =>
        rw [eg] at e
        obtain ⟨q1, q2⟩ := mt_B0 (h.snoc (hw) (hr v List.mem_cons_self) eg) hr' e
        refine ⟨q1, ?_⟩
        rw [List.length_append, List.length_singleton] at q2
        rw [List.length_cons]; omega
    · rw [if_neg hw] at e
      by_cases hv : t = v
      · rw [if_pos hv] at e
        exact fin (mt_B0 h hr' e)
      · rw [if_neg hv] at e; cases e
def outM (o : Option (List D × List D)) (f : List D → List D → R Flow) : R Flow := match o with
  | some p => f p.1 p.2
  | none => .ok (.rt (.fz .non))
theorem outM_some (p : List D × List D) (f : List D → List D → R Flow) : outM (some p) f = f p.1 p.2 := rfl
theorem outM_none (f : List D → List D → R Flow) : outM none f = .ok (.rt (.fz .non)) := rfl
theorem match_loop (A B C : D) : ∀ (ts r ks vs : List D), (∀ t ∈ ts, Trm t) → (∀ v ∈ r, Good v) → B0 ks vs → ks.length + ts.length ≤ 1000 → ∀ (s4 s5 s6 : Sl), ∃ f : List D → List D → R Flow, (∀ k v, ∃ a b c, f k v = .ok (.nx [.val A, .val B, .val C, .own (.dct k v), a, b, c])) ∧
    loop (gT [gN 4, gN 5]) lb_matched_1 ((ts.zip r).map fun q => .tup [q.1, q.2]) [.val A, .val B, .val C, .own (.dct ks vs), s4, s5, s6] = outM (mt ts r ks vs) f
  | [], r, ks, vs, _, _, _, _, s4, s5, s6 => by
    refine ⟨fun k v => .ok (.nx [.val A, .val B, .val C, .own (.dct k v), s4, s5, s6]), fun k v => ⟨_, _, _, rfl⟩, ?_⟩
    rw [List.zip_nil_left, List.map_nil, loop_nil]
    cases r <;> rfl
  | t :: ts, [], ks, vs, _, _, _, _, s4, s5, s6 => by
    refine ⟨fun k v => .ok (.nx [.val A, .val B, .val C, .own (.dct k v), s4, s5, s6]), fun k v => ⟨_, _, _, rfl⟩, ?_⟩
    rw [List.zip_nil_right, List.map_nil, loop_nil]
    rfl
  | t :: ts, v :: r, ks, vs, ht, hr, hb, hl, s4, s5, s6 => by
    have t1 := ht t List.mem_cons_self
    have v1 := hr v List.mem_cons_self
    have ht' : ∀ t ∈ ts, Trm t := fun x hx => ht x (List.mem_cons_of_mem _ hx)
    have hr' : ∀ t ∈ r, Good t := fun x hx => hr x (List.mem_cons_of_mem _ hx)
    rw [List.length_cons] at hl
    rw [List.zip_cons_cons, List.map_cons, loop_cons]
    walk_at "vl"
    rw [turnEnd_ap]
    unfold mt
    by_cases hw : wordD tx2 t = true
    · rw [if_pos hw]
      obtain ⟨x, rfl⟩ := var_str hw
      cases eg : getK ks vs (.str x) with
      | some w =>
        have w1 := hb.good w (getK_mem eg)
        dsimp only
        by_cases hv : w = v
        · rw [if_pos hv]
          have e : lb_matched_1 [.val A, .val B, .val C, .own (.dct ks vs), .val (.str x), .val v, s6] = .ok (.nx [.val A, .val B, .val C, .own (.dct ks vs), .val (.str x), .val v, .val w]) := by
            unfold lb_matched_1
            walk_at "vl"
            rw [is_var_eq, hw]
            walk_at "vl"
            rw [if_pos (by omega), eg]
            dsimp only
            walk_at "vl"
            rw [ne_good w1 v1]
            walk_at "vl"
            rw [decide_eq_true hv]
            rfl
          rw [e, R.bind_ok, kTurn_nx]
          exact match_loop A B C ts r ks vs ht' hr' hb (by omega) _ _ _
        · rw [if_neg hv]
          refine ⟨fun k v => .ok (.nx [.val A, .val B, .val C, .own (.dct k v), s4, s5, s6]), fun k v => ⟨_, _, _, rfl⟩, ?_⟩
          have e : lb_matched_1 [.val A, .val B, .val C, .own (.dct ks vs), .val (.str x), .val v, s6] = .ok (.rt (.fz .non)) := by
            unfold lb_matched_1
            walk_at "vl"
            rw [is_var_eq, hw]
            walk_at "vl"
            rw [if_pos (by omega), eg]
            dsimp only
            walk_at "vl"
            rw [ne_good w1 v1]
            walk_at "vl"
            rw [decide_eq_false hv]
            rfl
          rw [e]
          rfl
      | none =>
        dsimp only
        have e : lb_matched_1 [.val A, .val B, .val C, .own (.dct ks vs), .val (.str x), .val v, s6] = .ok (.nx [.val A, .val B, .val C, .own (.dct (ks ++ [.str x]) (vs ++ [v])), .val (.str x), .val v, .val v]) := by
          unfold lb_matched_1
          walk_at "vl"
          rw [is_var_eq, hw]
          walk_at "vl"
          rw [if_pos (by omega), eg]
          dsimp only
          walk_at "vl"
          rw [ne_good v1 v1, decide_eq_true rfl]
          walk_at "vl"
          try rfl
        rw [e, R.bind_ok, kTurn_nx]
        exact match_loop A B C ts r _ _ ht' hr' (hb.snoc hw v1 eg) (by rw [List.length_append, List.length_singleton]; omega) _ _ _
    · rw [if_neg hw]
      have hw' : wordD tx2 t = false := by simpa using hw
      by_cases hv : t = v
      · rw [if_pos hv]
        have e : lb_matched_1 [.val A, .val B, .val C, .own (.dct ks vs), .val t, .val v, s6] = .ok (.nx [.val A, .val B, .val C, .own (.dct ks vs), .val t, .val v, .val t]) := by
          unfold lb_matched_1
          walk_at "vl"
          rw [is_var_eq, hw']
          walk_at "vl"
          rw [ne_good (t1.good hw') v1]
          walk_at "vl"
          rw [decide_eq_true hv]
          rfl
        rw [e, R.bind_ok, kTurn_nx]
        exact match_loop A B C ts r ks vs ht' hr' hb (by omega) _ _ _
      · rw [if_neg hv]
        refine ⟨fun k v => .ok (.nx [.val A, .val B, .val C, .own (.dct k v), s4, s5, s6]), fun k v => ⟨_, _, _, rfl⟩, ?_⟩
        have e : lb_matched_1 [.val A, .val B, .val C, .own (.dct ks vs), .val t, .val v, s6] = .ok (.rt (.fz .non)) := by
          unfold lb_matched_1
          walk_at "vl"
          rw [is_var_eq, hw']
          walk_at "vl"
          rw [ne_good (t1.good hw') v1]
          walk_at "vl"
          rw [decide_eq_false hv]
          rfl
        rw [e]
        rfl
def mtV (ts r ks vs : List D) : Val := if ts.length = r.length then (match mt ts r ks vs with | some p => .nw (.dct p.1 p.2) | none => .fz .non) else .fz .non
theorem matched_eq {ts r ks vs : List D} (ht : ∀ t ∈ ts, Trm t) (hr : ∀ v ∈ r, Good v) (hb : B0 ks vs) (hl : ks.length + ts.length ≤ 1000) : run_matched [.tup ts, .tup r, .dct ks vs] = .ok (mtV ts r ks vs) := by
  unfold run_matched b_matched
  walk_at "vl"
  unfold mtV
  by_cases h : ts.length = r.length
  · rw [if_pos h]
    rw [h]
    rw [beq_self_eq_true, if_neg (by decide)]
    obtain ⟨f, hf, e⟩ := match_loop (.tup ts) (.tup r) (.dct ks vs) ts r ks vs ht hr hb hl .no .no .no
    rw [e]
    cases em : mt ts r ks vs with
    | none => rw [outM_none]; rfl
    | some p =>
      rw [outM_some]
      obtain ⟨a, b, c, e2⟩ := hf p.1 p.2
      rw [e2]
      walk_at "vl"
  · rw [if_neg h]
    have h' : ¬ (ts.length : Int) = (r.length : Int) := by omega
    simp [h']
    try walk_at "vl"
    try rfl
end Lw
set_option maxHeartbeats 1000000
open Vl
namespace Lw
theorem comp_map {step : D → Sts → R (Option D × Sts)} (f : D → D) (st : Sts) (ds : List D) (hs : ∀ d ∈ ds, step d st = .ok (some (f d), st)) (hl : ds.length ≤ 16777216) : compLoop step ds [] st = .ok (ds.map f, st) := by
  have := compAll (fun d : D => d) f st ds hs hl
  rw [List.map_id'] at this
  exact this
/-! ## put in -/
def bef : D → D → Bool
  | .int i, .int j => decide (i < j)
  | .int _, .str _ => true
  | .str _, .int _ => false
  | .str x, .str y => decide (x < y)
  | _, _ => false
theorem eqv_good {d e : D} (hd : Good d) (he : Good e) : oEqA d e = some (.fz (.bl (decide (d = e)))) := by
  rcases hd with ⟨i, rfl⟩ | ⟨x, rfl, hx⟩ <;> rcases he with ⟨j, rfl⟩ | ⟨y, rfl, hy⟩
  · show some (Val.fz (D.bl (i == j))) = _
    by_cases h : i = j <;> simp [h]
  · show some (Val.fz (D.bl false)) = _
    simp
  · show some (Val.fz (D.bl false)) = _
    simp
  · show some (Val.fz (D.bl (x == y))) = _
    by_cases h : x = y <;> simp [h]
theorem rangeD_mem {n : Nat} {d : D} (h : d ∈ rangeD 0 n) : ∃ j : Nat, j < n ∧ d = .int (j : Int) := by
  unfold rangeD at h
  obtain ⟨j, hj, rfl⟩ := List.mem_map.mp h
  exact ⟨j, List.mem_range.mp hj, by rw [Int.zero_add]⟩
theorem comp_ex {step : D → Sts → R (Option D × Sts)} (Q : D → Prop) (st : Sts) (ds : List D) (hs : ∀ d ∈ ds, ∃ d', step d st = .ok (some d', st) ∧ Q d') (hl : ds.length ≤ 16777216) : ∃ out : List D, compLoop step ds [] st = .ok (out, st) ∧ out.length = ds.length ∧ ∀ d ∈ out, Q d := by
  have ex : ∀ d, ∃ d', d ∈ ds → step d st = .ok (some d', st) ∧ Q d' := fun d => by
    by_cases h : d ∈ ds
    · obtain ⟨d', h1, h2⟩ := hs d h
      exact ⟨d', fun _ => ⟨h1, h2⟩⟩
    · exact ⟨d, fun z => (h z).elim⟩
  let f : D → D := fun d => (ex d).choose
  have hf : ∀ d ∈ ds, step d st = .ok (some (f d), st) ∧ Q (f d) := fun d hd => (ex d).choose_spec hd
  refine ⟨ds.map f, comp_map f st ds (fun d hd => (hf d hd).1) hl, List.length_map _, fun d hd => ?_⟩
  obtain ⟨x, hx, rfl⟩ := List.mem_map.mp hd
  exact (hf x hx).2
theorem comp_exA {step : D → Sts → R (Option D × Sts)} (Q : D → Prop) (I : Sts → Prop) : ∀ (ds acc : List D) (st : Sts), I st → (∀ d ∈ ds, ∀ s, I s → ∃ d' s', step d s = .ok (some d', s') ∧ Q d' ∧ I s') → acc.length + ds.length ≤ 16777216 →
    ∃ (out : List D) (st' : Sts), compLoop step ds acc st = .ok (acc ++ out, st') ∧ out.length = ds.length ∧ (∀ d ∈ out, Q d) ∧ I st'
  | [], acc, st, h, _, _ => ⟨[], st, by rw [List.append_nil]; rfl, rfl, by simp, h⟩
  | d :: ds, acc, st, h, hs, hl => by
    rw [List.length_cons] at hl
    obtain ⟨d', s', e, hq, hi⟩ := hs d List.mem_cons_self st h
    obtain ⟨out, st', e2, h1, h2, h3⟩ := comp_exA Q I ds (acc ++ [d']) s' hi (fun x hx => hs x (List.mem_cons_of_mem _ hx)) (by rw [List.length_append, List.length_singleton]; omega)
    refine ⟨d' :: out, st', ?_, by rw [List.length_cons, h1, List.length_cons], fun x hx => ?_, h3⟩
    · unfold compLoop
      rw [e]
      show (if acc.length < 16777216 then compLoop step ds (acc ++ [d']) s' else _) = _
      rw [if_pos (by omega), e2, List.append_assoc]; rfl
    · rcases List.mem_cons.mp hx with rfl | hx
      · exact hq
      · exact h2 x hx
theorem int_at (xs : List Int) (i : Int) (h : 0 ≤ i) (h2 : i < (xs.length : Int)) : ∃ q : Int, L2.atI (xs.map D.int) i = some (.int q) := by
  obtain ⟨k, hk, ek⟩ := atI_some (xs.map D.int) i h (by rw [List.length_map]; exact h2)
  obtain ⟨q, _, rfl⟩ := List.mem_map.mp hk
  exact ⟨q, ek⟩
theorem fac_at (p : Int) : ∃ q : Int, (0 ≤ q ∧ q ≤ 11) ∧ L2.atI [D.int 1, D.int 5, D.int 7, D.int 11] (p / 12 % 4) = some (.int q) := by
  obtain ⟨k, hk, ek⟩ := atI_some [D.int 1, D.int 5, D.int 7, D.int 11] (p / 12 % 4) (by omega) (by show _ < (4 : Int); omega)
  simp only [List.mem_cons, List.not_mem_nil, or_false] at hk
  rcases hk with rfl | rfl | rfl | rfl <;> exact ⟨_, by decide, ek⟩
/-- the sign's number -/
theorem letter_at (f : List Nat) (hf : f.length = 26) (x : Int) : ∃ c ∈ f, L2.atI f (x % 26) = some c := by
  obtain ⟨k, hk, ek⟩ := atI_some f (x % 26) (by omega) (by rw [hf]; show _ < (26 : Int); omega)
  exact ⟨k, hk, ek⟩
theorem later_at (x : Int) : ∃ c ∈ tx3, L2.atI tx3 (x % 36) = some c := by
  obtain ⟨k, hk, ek⟩ := atI_some tx3 (x % 36) (by omega) (by show _ < (36 : Int); omega)
  exact ⟨k, hk, ek⟩
theorem sg_at (p : Int) : ∃ q : Int, (-1 ≤ q ∧ q ≤ 1) ∧ L2.atI [D.int 1, D.int (-1)] (p % 2) = some (.int q) := by
  obtain ⟨k, hk, ek⟩ := atI_some [D.int 1, D.int (-1)] (p % 2) (by omega) (by show _ < (2 : Int); omega)
  simp only [List.mem_cons, List.not_mem_nil, or_false] at hk
  rcases hk with rfl | rfl <;> exact ⟨_, by decide, ek⟩
def fi (c : Nat) : Nat := if c < 58 then c - 48 else c - 87
open PySem PySem.Spec PyProof.Rows in
theorem find_tx3 : ∀ c ∈ tx3, Txt.find (tx tx3) (tx [c]) = (fi c : Int) := by decide +kernel
theorem fi_mono : ∀ c ∈ tx3, ∀ d ∈ tx3, (fi c < fi d ↔ c < d) := by decide
theorem word_loop (A B : List Nat) : ∀ (x y : List Nat) (p : Nat) (z w : Sl), A.length = p + x.length → B.length = p + y.length → (∀ c ∈ x, c ∈ tx3) → (∀ c ∈ y, c ∈ tx3) →
    (loop (gT [gN 3, gN 4]) lb_l_value_ahead_1 (((x.map fun c => D.str [c]).zip (y.map fun c => D.str [c])).map fun q => .tup [q.1, q.2]) [.val (.str A), .val (.str B), .val (.str tx3), z, w]).bind (kSeq (vRet (v2 oLt (vN oLenU (vCons (vPeek 0) vNil)) (vN oLenU (vCons (vPeek 1) vNil))))) = .ok (.rt (.fz (.bl (decide (x < y)))))
  | [], y, p, z, w, h1, h2, _, _ => by
    rw [List.map_nil, List.zip_nil_left, List.map_nil, loop_nil]
    walk_at "vl"
    rw [h1, h2]
    cases y with
    | nil => simp
    | cons c y => simp; omega
  | c :: x, [], p, z, w, h1, h2, _, _ => by
    rw [List.map_nil, List.zip_nil_right, List.map_nil, loop_nil]
    walk_at "vl"
    rw [h1, h2]
    simp
    try omega
  | c :: x, d :: y, p, z, w, h1, h2, hx, hy => by
    have hc := hx c List.mem_cons_self
    have hd := hy d List.mem_cons_self
    rw [List.map_cons, List.map_cons, List.zip_cons_cons, List.map_cons, loop_cons]
    walk_at "vl"
    rw [turnEnd_ap]
    by_cases h : c = d
    · subst h
      have e : lb_l_value_ahead_1 [.val (.str A), .val (.str B), .val (.str tx3), .val (.str [c]), .val (.str [c])] = .ok (.nx [.val (.str A), .val (.str B), .val (.str tx3), .val (.str [c]), .val (.str [c])]) := by
        unfold lb_l_value_ahead_1
        walk_at "vl"
        simp
      rw [e, R.bind_ok, kTurn_nx]
      have e3 : decide (c :: x < c :: y) = decide (x < y) := decide_eq_decide.mpr (by rw [List.cons_lt_cons_iff]; simp)
      rw [e3]
      exact word_loop A B x y (p + 1) _ _ (by rw [h1, List.length_cons]; omega) (by rw [h2, List.length_cons]; omega) (fun d h => hx d (List.mem_cons_of_mem _ h)) (fun d h => hy d (List.mem_cons_of_mem _ h))
    · have e : lb_l_value_ahead_1 [.val (.str A), .val (.str B), .val (.str tx3), .val (.str [c]), .val (.str [d])] = .ok (.rt (.fz (.bl (decide (c < d))))) := by
        unfold lb_l_value_ahead_1
        walk_at "vl"
        have hne : ([c] != [d]) = true := by simp [h]
        have hne2 : (([c] : List Nat) == [d]) = false := by simp [h]
        try simp only [hne, hne2, Bool.not_false, if_true]
        rw [find_tx3 c hc, find_tx3 d hd]
        have hm := fi_mono c hc d hd
        have : ((fi c : Int) < (fi d : Int)) ↔ c < d := by rw [← hm]; omega
        simp [h, this]
      rw [e, R.bind_ok, kTurn_rt, R.bind_ok, kSeq_rt]
      have e3 : decide (c :: x < d :: y) = decide (c < d) := decide_eq_decide.mpr (by rw [List.cons_lt_cons_iff]; simp [h])
      rw [e3]
theorem tx3_small : ∀ c ∈ tx3, decide (c < 128) = true := by decide
theorem sign_tx3 (c : Nat) (h : okSign c = true) : c ∈ tx3 := by
  unfold okSign at h
  simp only [Bool.or_eq_true, decide_eq_true_eq] at h
  rcases h with h | h
  · exact (by decide : ∀ a ∈ tx0, a ∈ tx3) c h
  · exact (by decide : ∀ a ∈ tx1, a ∈ tx3) c h
theorem word_tx3 {x : List Nat} (h : wordT tx0 x = true) : ∀ c ∈ x, c ∈ tx3 := by
  cases x with
  | nil => cases h
  | cons a r =>
    rw [wordT_cons, Bool.and_eq_true, Bool.and_eq_true, decide_eq_true_eq, decide_eq_true_eq, List.all_eq_true] at h
    intro c hc
    rcases List.mem_cons.mp hc with rfl | hc
    · exact (by decide : ∀ a ∈ tx0, a ∈ tx3) c h.2.1
    · exact sign_tx3 c (h.2.2 c hc)
theorem value_ahead_eq (d e : D) (hd : Good d) (he : Good e) : run_l_value_ahead [d, e] = .ok (.fz (.bl (bef d e))) := by
  unfold run_l_value_ahead b_l_value_ahead
  rcases hd with ⟨i, rfl⟩ | ⟨x, rfl, hx⟩ <;> rcases he with ⟨j, rfl⟩ | ⟨y, rfl, hy⟩ <;> walk_at "vl"
  all_goals first | rfl | skip
  have q := word_loop x y x y 0 .no .no (by omega) (by omega) (word_tx3 hx) (word_tx3 hy)
  try rw [if_neg (by decide)]
  have hs : ∀ z : List Nat, (∀ c ∈ z, c ∈ tx3) → z.all (fun c => decide (c < 128)) = true := fun z hz => List.all_eq_true.mpr fun c hc => tx3_small c (hz c hc)
  rw [hs x (word_tx3 hx), hs y (word_tx3 hy), if_pos (by decide)]
  walk_at "vl"
  rw [show ones x = x.map (fun c => D.str [c]) from rfl, show ones y = y.map (fun c => D.str [c]) from rfl]
  rw [q]
  walk_at "vl"
  try rfl
theorem eqvs_goods : ∀ {a b : List D}, (∀ d ∈ a, Good d) → (∀ d ∈ b, Good d) → D.eqvs a b = decide (a = b)
  | [], [], _, _ => by simp [D.eqvs]
  | [], b :: bs, _, _ => by simp [D.eqvs]
  | a :: as, [], _, _ => by simp [D.eqvs]
  | a :: as, b :: bs, ha, hb => by
    rw [D.eqvs, good_eqv (ha a List.mem_cons_self) (hb b List.mem_cons_self), eqvs_goods (fun d h => ha d (List.mem_cons_of_mem _ h)) (fun d h => hb d (List.mem_cons_of_mem _ h))]
    by_cases h1 : a = b <;> by_cases h2 : as = bs <;> simp [h1, h2]
theorem lays_goods {r : List D} (hr : ∀ v ∈ r, Good v) (n : Nat) : D.lays n r = true := by
  induction r with
  | nil => rfl
  | cons v r ih2 => rw [D.lays, Bool.and_eq_true]; exact ⟨good_lay (hr v List.mem_cons_self) n, ih2 fun u hu => hr u (List.mem_cons_of_mem _ hu)⟩
theorem sto_same {μ : Sto} {n : Nat} {b : Option Ob} (h : μ[n]? = some b) : μ.set n b = μ := by
  apply List.ext_getElem?
  intro i
  by_cases e : n = i
  · subst e
    rw [List.getElem?_set_self (List.getElem?_eq_some_iff.mp h).1, h]
  · rw [List.getElem?_set_ne e]

def nmS (c p k : Int) (f : List Nat) (z at_ : Int) (w : List Nat) (s8 s9 : Sl) : Sts :=
  [.val (.int c), .val (.int p), .val (.int k), .val (.str f), .val (.str tx3), .val (.int z), .val (.int at_), .val (.str w), s8, s9]
theorem nm_turn (c p k : Int) (f : List Nat) (hf : f.length = 26) (z at_ : Int) (hk : 0 ≤ k) (hk2 : k ≤ 100) (w : List Nat) (j : Int) (hj : 0 ≤ j) (hj2 : j ≤ 100) (hw : w.length ≤ 100) (s9 : Sl) :
    ∃ (x : Nat) (y9 : Sl), (if j = 0 then x ∈ f else x ∈ tx3) ∧ lb_l_name_1 (nmS c p k f z at_ w (.val (.int j)) s9) = .ok (.nx (nmS c p k f z at_ (if j = 0 then [x] else w ++ [x]) (.val (.int j)) y9)) := by
  obtain ⟨q, ⟨q1, q2⟩, eq⟩ := fac_at p
  unfold lb_l_name_1 nmS
  walk_at "vl"
  rw [divOk_lit (by omega) (by omega), if_pos rfl]
  walk_at "vl"
  rw [eq]
  walk_at "vl"
  rw [mulOk_right (by omega) (by omega), if_pos rfl, mulOk_right (by omega) (by omega), if_pos rfl]
  generalize c / (j + 2) + 9 * j + (if j = at_ then 1 else 0) * k * q = X
  by_cases h : j = 0
  · obtain ⟨x, hx, ex⟩ := letter_at f hf X
    rw [if_pos h, ex]
    walk_at "vl"
    exact ⟨x, _, by rw [if_pos h]; exact hx, by rw [if_pos h]⟩
  · obtain ⟨x, hx, ex⟩ := later_at X
    rw [if_neg h, ex]
    walk_at "vl"
    rw [sizeOkB_of (by omega), if_pos rfl]
    try walk_at "vl"
    exact ⟨x, _, by rw [if_neg h]; exact hx, by rw [if_neg h]⟩
theorem nm_tail (c p k : Int) (f : List Nat) (hf : f.length = 26) (z at_ : Int) (hk : 0 ≤ k) (hk2 : k ≤ 100) : ∀ (n : Nat) (w : List Nat) (lo : Int) (s8 s9 : Sl), 1 ≤ lo → lo + n ≤ 100 → w.length + n ≤ 100 →
    ∃ (more : List Nat) (y8 y9 : Sl), more.length = n ∧ (∀ x ∈ more, x ∈ tx3) ∧ loop (gN 8) lb_l_name_1 (rangeD lo n) (nmS c p k f z at_ w s8 s9) = .ok (.nx (nmS c p k f z at_ (w ++ more) y8 y9))
  | 0, w, lo, s8, s9, _, _, _ => ⟨[], s8, s9, rfl, by simp, by rw [List.append_nil]; rfl⟩
  | n + 1, w, lo, s8, s9, h1, h2, h3 => by
    obtain ⟨x, y, hx, e⟩ := nm_turn c p k f hf z at_ hk hk2 w lo (by omega) (by omega) (by omega) s9
    rw [if_neg (by omega)] at hx e
    obtain ⟨more, y8, y9, g1, g2, g3⟩ := nm_tail c p k f hf z at_ hk hk2 n (w ++ [x]) (lo + 1) (.val (.int lo)) y (by omega) (by omega) (by rw [List.length_append, List.length_singleton]; omega)
    refine ⟨x :: more, y8, y9, by rw [List.length_cons, g1], fun a ha => ?_, ?_⟩
    · rcases List.mem_cons.mp ha with rfl | ha
      · exact hx
      · exact g2 a ha
    · rw [rangeD_succ, loop_step rfl e, g3, List.append_assoc]; rfl
theorem tx3_ok : ∀ x ∈ tx3, okSign x = true := by decide
theorem name_ex (c p k : Int) (hk : 0 ≤ k) (hk2 : k ≤ 100) (f : List Nat) (hf : f.length = 26) : ∃ w : List Nat, wordT f w = true ∧ run_l_name [.int c, .int p, .int k, .str f] = .ok (.fz (.str w)) := by
  have hz : ∃ z : Nat, z ≤ 11 ∧ 1 + c % 12 = (z : Int) + 1 := ⟨(c % 12).toNat, by omega, by omega⟩
  obtain ⟨z, hz, ez⟩ := hz
  obtain ⟨x, y, hx, e⟩ := nm_turn c p k f hf ((z : Int) + 1) (p % ((z : Int) + 1)) hk hk2 [] 0 (by omega) (by omega) (by simp) .no
  rw [if_pos rfl] at hx e
  obtain ⟨more, y8, y9, g1, g2, g3⟩ := nm_tail c p k f hf ((z : Int) + 1) (p % ((z : Int) + 1)) hk hk2 z [x] 1 (.val (.int 0)) y (by omega) (by omega) (by simp; omega)
  refine ⟨x :: more, ?_, ?_⟩
  · rw [wordT_cons, decide_eq_true hx, decide_eq_true (by omega), Bool.true_and, Bool.true_and, List.all_eq_true]
    exact fun a ha => tx3_ok a (g2 a ha)
  · unfold run_l_name b_l_name
    unfold nmS at e g3
    walk_at "vl"
    rw [ez]
    walk_at "vl"
    rw [if_pos (show (0 : Int) < (z : Int) + 1 by omega), bigI_lit (by omega) (by omega), if_pos rfl]
    rw [show ((z : Int) + 1).toNat = z + 1 by omega, rangeD_succ, loop_step rfl e, Int.zero_add, g3]
    walk_at "vl"
    try rfl
end Lw
set_option maxHeartbeats 1000000
open Vl
namespace Lw
structure Lst (ds : List D) : Prop where
  len : ds.length ≤ 10
  lay : ∀ n, D.lays (n + 3) ds = true
  noL : D.noLs ds = true
inductive Atom : D → Prop
  | non : Atom .non
  | bl (b : Bool) : Atom (.bl b)
  | int (i : Int) : Atom (.int i)
/-- a thing of a row -/
def Th (d : D) : Prop := (∃ ds, d = .lst ds ∧ Lst ds) ∨ Atom d
theorem Lst.take {ds : List D} (h : Lst ds) (n : Nat) : Lst (ds.take n) := by
  have key : ∀ (n : Nat) (ds : List D), (∀ m, D.lays (m + 3) ds = true) → D.noLs ds = true → (∀ m, D.lays (m + 3) (ds.take n) = true) ∧ D.noLs (ds.take n) = true := fun n => by
    induction n with
    | zero => intro ds _ _; exact ⟨fun m => rfl, rfl⟩
    | succ n ih =>
      intro ds h1 h2
      cases ds with
      | nil => exact ⟨fun m => rfl, rfl⟩
      | cons d ds =>
        have h2' : (d.noL && D.noLs ds) = true := h2
        rw [Bool.and_eq_true] at h2'
        have h1' : ∀ m, d.lay (m + 3) = true ∧ D.lays (m + 3) ds = true := fun m => by
          have := h1 m
          rw [D.lays, Bool.and_eq_true] at this
          exact this
        obtain ⟨q1, q2⟩ := ih ds (fun m => (h1' m).2) h2'.2
        refine ⟨fun m => ?_, ?_⟩
        · rw [List.take_succ_cons, D.lays, (h1' m).1, q1 m]; rfl
        · show (d.noL && D.noLs (ds.take n)) = true
          rw [h2'.1, q2]; rfl
  obtain ⟨q1, q2⟩ := key n ds h.lay h.noL
  exact ⟨by rw [List.length_take]; have := h.len; omega, q1, q2⟩
theorem thing_ex (w x c : Int) (nm : List Nat) : ∃ v : Val, run_l_thing [.int w, .int x, .int c, .str nm] = .ok v ∧ ((∃ ds, v = .nw (.lst ds) ∧ Lst ds) ∨ ∃ d, v = .fz d ∧ Atom d) := by
  unfold run_l_thing b_l_thing
  walk_at "vl"
  have L1 : Lst [D.tup [D.tup [D.str nm], D.int (1 + x / 5 % 9)], D.tup [D.tup [D.str nm, D.str nm], D.int (1 + c % 10 ^ Int.toNat 30)]] := ⟨by show 2 ≤ 10; decide, fun n => rfl, rfl⟩
  have L2 : Lst [D.int (c % 10 ^ Int.toNat 30 - x % 1000), D.int (c % 10 ^ Int.toNat 30 - x % 1000 + x % 3)] := ⟨by show 2 ≤ 10; decide, fun n => rfl, rfl⟩
  rw [cut_toI _ _ (by omega), cut_toI _ _ (by omega)]
  split
  · exact ⟨_, rfl, .inl ⟨_, rfl, L1.take _⟩⟩
  · split
    · exact ⟨_, rfl, .inl ⟨_, rfl, L2.take _⟩⟩
    · split
      · exact ⟨_, rfl, .inr ⟨_, rfl, .bl _⟩⟩
      · split
        · exact ⟨_, rfl, .inr ⟨_, rfl, .non⟩⟩
        · exact ⟨_, rfl, .inr ⟨_, rfl, .int _⟩⟩
theorem four_at (j : Nat) (h : j < 4) : ∃ q : Int, 0 < q ∧ q ≤ 4000 ∧ L2.atI [D.int 49, D.int 196, D.int 784, D.int 3136] (j : Int) = some (.int q) := by
  obtain ⟨k, hk, ek⟩ := atI_some [D.int 49, D.int 196, D.int 784, D.int 3136] (j : Int) (by omega) (by show _ < (4 : Int); omega)
  simp only [List.mem_cons, List.not_mem_nil, or_false] at hk
  rcases hk with rfl | rfl | rfl | rfl <;> exact ⟨_, by decide, by decide, ek⟩
theorem row_loop (A B : D) (S T : D) : ∀ (x y : List D) (z w : Sl), (∀ d ∈ x, Good d) → (∀ d ∈ y, Good d) →
    (∃ b, loop (gT [gN 2, gN 3]) lb_l_ahead_1 ((x.zip y).map fun q => .tup [q.1, q.2]) [.val A, .val B, z, w] = .ok (.rt (.fz (.bl b)))) ∨ ∃ y2 y3, loop (gT [gN 2, gN 3]) lb_l_ahead_1 ((x.zip y).map fun q => .tup [q.1, q.2]) [.val A, .val B, z, w] = .ok (.nx [.val A, .val B, y2, y3])
  | [], y, z, w, _, _ => by
    rw [List.zip_nil_left, List.map_nil, loop_nil]
    exact .inr ⟨z, w, rfl⟩
  | c :: x, [], z, w, _, _ => by
    rw [List.zip_nil_right, List.map_nil, loop_nil]
    exact .inr ⟨z, w, rfl⟩
  | c :: x, d :: y, z, w, hx, hy => by
    have hc := hx c List.mem_cons_self
    have hd := hy d List.mem_cons_self
    rw [List.zip_cons_cons, List.map_cons, loop_cons]
    walk_at "vl"
    rw [turnEnd_ap]
    by_cases h : c = d
    · have e : lb_l_ahead_1 [.val A, .val B, .val c, .val d] = .ok (.nx [.val A, .val B, .val c, .val d]) := by
        unfold lb_l_ahead_1
        simp only [vIf_ap, vTest_ap, v2_ap, vPeek_ap, List.getElem?_cons_succ, List.getElem?_cons_zero, peekEnd_val, R.bind_ok, k2_ap, k2b_ap, Val.d, ne_good hc hd, give_some, asB_ap, kIf_ap]
        rw [decide_eq_true h]
        walk_at "vl"
      rw [e, R.bind_ok, kTurn_nx]
      exact row_loop A B S T x y _ _ (fun d h => hx d (List.mem_cons_of_mem _ h)) (fun d h => hy d (List.mem_cons_of_mem _ h))
    · have e : lb_l_ahead_1 [.val A, .val B, .val c, .val d] = .ok (.rt (.fz (.bl (bef c d)))) := by
        unfold lb_l_ahead_1
        simp only [vIf_ap, vTest_ap, v2_ap, vPeek_ap, List.getElem?_cons_succ, List.getElem?_cons_zero, peekEnd_val, R.bind_ok, k2_ap, k2b_ap, Val.d, ne_good hc hd, give_some, asB_ap, kIf_ap]
        rw [decide_eq_false h]
        walk_at "vl"
        rw [value_ahead_eq c d hc hd]
        walk_at "vl"
      rw [e, R.bind_ok, kTurn_rt]
      exact .inl ⟨_, rfl⟩
structure Rw where
  t : List Nat
  r : List D
  h : D
def rwD (w : Rw) : D := .tup [.str w.t, .tup w.r, w.h]
structure RwOk (w : Rw) : Prop where
  t : wordT tx0 w.t = true
  r : ∀ v ∈ w.r, Good v
  l : w.r.length ≤ 4
  h : Th w.h
theorem ahead_ex (a b : Rw) (ha : RwOk a) (hb : RwOk b) : ∃ c, run_l_ahead [rwD a, rwD b] = .ok (.fz (.bl c)) := by
  have ga : Good (.str a.t) := .inr ⟨_, rfl, ha.t⟩
  have gb : Good (.str b.t) := .inr ⟨_, rfl, hb.t⟩
  have hv := value_ahead_eq _ _ ga gb
  have hl := row_loop (rwD a) (rwD b) .non .non a.r b.r .no .no ha.r hb.r
  unfold run_l_ahead b_l_ahead
  rw [show rwD a = .tup [.str a.t, .tup a.r, a.h] from rfl, show rwD b = .tup [.str b.t, .tup b.r, b.h] from rfl] at *
  walk_at "vl"
  split
  · rw [hv]
    walk_at "vl"
    exact ⟨_, rfl⟩
  · rcases hl with ⟨c, e⟩ | ⟨y2, y3, e⟩
    · rw [e]
      walk_at "vl"
      exact ⟨_, rfl⟩
    · rw [e]
      walk_at "vl"
      exact ⟨_, rfl⟩
/-- the row of a turn -/
theorem row_comp (A B C Dd : D) (V : List D) (hV : V.length = 4) (x : Int) (n : Nat) (hn : n ≤ 4) (s3 s4 s6 s7 s8 s9 s10 s11 : Sl) :
    ∃ r : List D, r.length = n ∧ (∀ v ∈ r, v ∈ V) ∧ compLoop (compStep cg_l_told_2 ct_l_told_2 ce_l_told_2 [12]) (rangeD 0 n) [] [.val A, .val B, .val (.lst V), s3, s4, .val (.int x), s6, s7, s8, s9, s10, s11, .no] = .ok (r, [.val A, .val B, .val (.lst V), s3, s4, .val (.int x), s6, s7, s8, s9, s10, s11, .no]) := by
  obtain ⟨out, e, h1, h2⟩ := comp_ex (step := compStep cg_l_told_2 ct_l_told_2 ce_l_told_2 [12]) (fun d => d ∈ V) [.val A, .val B, .val (.lst V), s3, s4, .val (.int x), s6, s7, s8, s9, s10, s11, .no] (rangeD 0 n) (by
    intro d hd
    obtain ⟨j, hj, rfl⟩ := rangeD_mem hd
    obtain ⟨q, q1, q2, eq⟩ := four_at j (by omega)
    obtain ⟨a, ha, e2⟩ := atI_some V (x / q % 4) (by omega) (by omega)
    unfold compStep cg_l_told_2 ct_l_told_2 ce_l_told_2
    walk_at "vl"
    simp only [gGive_ap, kStepG_ap, vYes_ap, kStepT_ap, R.bind_ok, if_true]
    walk_at "vl"
    rw [eq]
    walk_at "vl"
    rw [divOk_lit (by omega) (by omega), if_pos rfl]
    try walk_at "vl"
    rw [e2]
    walk_at "vl"
    simp only [kStepE_ap]
    walk_at "vl"
    exact ⟨_, rfl, ha⟩) (by rw [rangeD_len]; omega)
  rw [rangeD_len] at h1
  exact ⟨out, h1, h2, e⟩
def tlS (A B : D) (V : List D) (nm : List Nat) (W : List Rw) (x : Int) (cl : List Int) (s7 s8 s9 s10 s11 : Sl) : Sts :=
  [.val A, .val B, .val (.lst V), .val (.str nm), .own (.lst (W.map rwD)), .val (.int x), .own (.lst (cl.map .int)), s7, s8, s9, s10, s11, .no]
theorem W_at {W : List Rw} {i : Nat} (h : i < W.length) : L2.atI (W.map rwD) (i : Int) = some (rwD W[i]) := L2.atI_nat (by rw [List.getElem?_map, List.getElem?_eq_getElem h]; rfl)
theorem whileN_go {t : VT} {body : VS} {n : Nat} {st st2 : Sts} (h1 : t st = .ok (true, st)) (h2 : body st = .ok (.nx st2)) : whileN t body (n + 1) st = whileN t body n st2 := by
  show (t st).bind _ = _
  rw [h1, R.bind_ok]
  show (body st).bind _ = _
  rw [h2, R.bind_ok]
theorem whileN_end {t : VT} {body : VS} {n : Nat} {st : Sts} (h1 : t st = .ok (false, st)) : whileN t body (n + 1) st = .ok (.nx st) := by
  show (t st).bind _ = _
  rw [h1, R.bind_ok]
  rfl
theorem at_loop (A B : D) (V : List D) (nm : List Nat) (W : List Rw) (hW : ∀ w ∈ W, RwOk w) (x : Int) (cl : List Int) (s7 s8 s9 : Sl) (a : Rw) (ha : RwOk a) : ∀ (m i : Nat), i ≤ W.length → W.length < i + m →
    ∃ j : Nat, j ≤ W.length ∧ whileN wt_l_told_1 lb_l_told_1 m (tlS A B V nm W x cl s7 s8 s9 (.val (rwD a)) (.val (.int (i : Int)))) = .ok (.nx (tlS A B V nm W x cl s7 s8 s9 (.val (rwD a)) (.val (.int (j : Int)))))
  | 0, i, h1, h2 => absurd h2 (by omega)
  | m + 1, i, h1, h2 => by
    by_cases hi : i < W.length
    · obtain ⟨c, ec⟩ := ahead_ex W[i] a (hW _ (List.getElem_mem hi)) ha
      have ea := W_at hi
      have et : wt_l_told_1 (tlS A B V nm W x cl s7 s8 s9 (.val (rwD a)) (.val (.int (i : Int)))) = .ok (c, tlS A B V nm W x cl s7 s8 s9 (.val (rwD a)) (.val (.int (i : Int)))) := by
        unfold wt_l_told_1 tlS
        walk_at "vl"
        rw [List.length_map, if_pos (by omega)]
        try walk_at "vl"
        rw [ea]
        walk_at "vl"
        rw [ec]
        walk_at "vl"
      cases c with
      | false => exact ⟨i, h1, whileN_end et⟩
      | true =>
        obtain ⟨j, hj, q⟩ := at_loop A B V nm W hW x cl s7 s8 s9 a ha m (i + 1) hi (by omega)
        refine ⟨j, hj, ?_⟩
        rw [whileN_go (st2 := tlS A B V nm W x cl s7 s8 s9 (.val (rwD a)) (.val (.int ((i + 1 : Nat) : Int)))) et (by
          unfold lb_l_told_1 tlS
          walk_at "vl"
          rfl)]
        exact q
    · have et : wt_l_told_1 (tlS A B V nm W x cl s7 s8 s9 (.val (rwD a)) (.val (.int (i : Int)))) = .ok (false, tlS A B V nm W x cl s7 s8 s9 (.val (rwD a)) (.val (.int (i : Int)))) := by
        unfold wt_l_told_1 tlS
        walk_at "vl"
        rw [List.length_map, if_neg (by omega)]
      exact ⟨i, h1, whileN_end et⟩
theorem tb_at (c : Int) : ∃ i : Int, (0 ≤ i ∧ i ≤ 2) ∧ L2.atI [D.int 0, D.int 0, D.int 1, D.int 2] (c % 4) = some (.int i) := by
  obtain ⟨k, hk, ek⟩ := atI_some [D.int 0, D.int 0, D.int 1, D.int 2] (c % 4) (by omega) (by show _ < (4 : Int); omega)
  simp only [List.mem_cons, List.not_mem_nil, or_false] at hk
  rcases hk with rfl | rfl | rfl | rfl <;> exact ⟨_, by decide, ek⟩
theorem sz_at (c : Int) : ∃ q : Nat, q ≤ 4 ∧ L2.atI [D.int 2, D.int 2, D.int 1, D.int 3, D.int 4, D.int 0, D.int 2] (c % 7) = some (.int (q : Int)) := by
  obtain ⟨k, hk, ek⟩ := atI_some [D.int 2, D.int 2, D.int 1, D.int 3, D.int 4, D.int 0, D.int 2] (c % 7) (by omega) (by show _ < (7 : Int); omega)
  simp only [List.mem_cons, List.not_mem_nil, or_false] at hk
  rcases hk with rfl | rfl | rfl | rfl | rfl | rfl | rfl
  · exact ⟨2, by decide, ek⟩
  · exact ⟨2, by decide, ek⟩
  · exact ⟨1, by decide, ek⟩
  · exact ⟨3, by decide, ek⟩
  · exact ⟨4, by decide, ek⟩
  · exact ⟨0, by decide, ek⟩
  · exact ⟨2, by decide, ek⟩
end Lw
set_option maxHeartbeats 1000000
open Vl
namespace Lw
def lb_l_told_2_t1 : VS :=
    (vSeq (vAsg 11 (vC (.int 0)))
    (vSeq (whileN wt_l_told_1 lb_l_told_1 1024)
    (vIf (vOrT (vTest (v2 oEqA (vPeek 11) (vN oLenU (vCons (vPeek 4) vNil)))) (vTest (v2 oNeA (vSl (v2 oIxA (vPeek 4) (vPeek 11)) vNoPart (vPart (vC (.int 2)))) (vSl (vPeek 10) vNoPart (vPart (vC (.int 2))))))) (vDrop (vMutT "list" 4 mInsert (vCons (vSto (vName 11)) (vCons (vSto (vName 10)) vNil)))) vNx)))
def lb_l_told_2' : VS :=
  (vSeq (vAsg 5 (v2 oMod (v2 oAdd (v2 oAdd (v2 oMul (vPeek 5) (vC (.int 48271))) (v2 oMod (v2 oIxA (vPeek 6) (vPeek 7)) (vC (.int 65521)))) (vC (.int 3))) (vC (.int 2147483647))))
    (vSeq (vAsg 8 (v2 oIxA (vLst (vCons (vSto (vC (.int 2))) (vCons (vSto (vC (.int 2))) (vCons (vSto (vC (.int 1))) (vCons (vSto (vC (.int 3))) (vCons (vSto (vC (.int 4))) (vCons (vSto (vC (.int 0))) (vCons (vSto (vC (.int 2))) vNil)))))))) (v2 oMod (v2 oDiv (vPeek 5) (vC (.int 7))) (vC (.int 7)))))
    (vSeq (vAsg 9 (vN oTuple (vCons (vComp (sR1 (vCons (vPeek 8) vNil)) cg_l_told_2 ct_l_told_2 ce_l_told_2 [12]) vNil)))
    (vSeq (vAsg 10 (vTup (vCons (vSto (v2 oIxA (vPeek 1) (v2 oIxA (vLst (vCons (vSto (vC (.int 0))) (vCons (vSto (vC (.int 0))) (vCons (vSto (vC (.int 1))) (vCons (vSto (vC (.int 2))) vNil))))) (v2 oMod (v2 oDiv (vPeek 5) (vC (.int 4))) (vC (.int 4)))))) (vCons (vSto (vName 9)) (vCons (vSto (vCall run_l_thing (vCons (vArg (v2 oMod (vCall run_l_cell_at (vCons (vArg (vName 0)) (vCons (vArg (vC (.int 6))) vNil))) (vC (.int 4)))) (vCons (vArg (v2 oDiv (vPeek 5) (vC (.int 11)))) (vCons (vArg (v2 oIxA (vPeek 6) (vPeek 7))) (vCons (vArg (vName 3)) vNil)))))) vNil))))) lb_l_told_2_t1))))
theorem lb_l_told_2_eq : lb_l_told_2 = lb_l_told_2' := rfl
theorem told_t1 (A B : D) (V : List D) (nm : List Nat) (W : List Rw) (hW : ∀ w ∈ W, RwOk w) (hl : W.length ≤ 1000) (x : Int) (cl : List Int) (s7 s8 s9 s11 : Sl) (a : Rw) (ha : RwOk a) :
    ∃ (W' : List Rw) (y11 : Sl), (∀ w ∈ W', RwOk w) ∧ W'.length ≤ W.length + 1 ∧ lb_l_told_2_t1 (tlS A B V nm W x cl s7 s8 s9 (.val (rwD a)) s11) = .ok (.nx (tlS A B V nm W' x cl s7 s8 s9 (.val (rwD a)) y11)) := by
  obtain ⟨j, hj, q⟩ := at_loop A B V nm W hW x cl s7 s8 s9 a ha 1024 0 (Nat.zero_le _) (by omega)
  have ins : ∀ j : Nat, j ≤ W.length → (∀ w ∈ (W.take j ++ [a] ++ W.drop j), RwOk w) := fun j _ w hw => by
    rcases List.mem_append.mp hw with hw | hw
    · rcases List.mem_append.mp hw with hw | hw
      · exact hW w (List.mem_of_mem_take hw)
      · rw [List.mem_singleton.mp hw]; exact ha
    · exact hW w (List.mem_of_mem_drop hw)
  unfold lb_l_told_2_t1
  unfold tlS at q ⊢
  walk_at "vl"
  rw [show ((0 : Nat) : Int) = 0 from rfl] at q
  rw [q]
  walk_at "vl"
  have emp : (W.take j ++ [a] ++ W.drop j).map rwD = (W.map rwD).take j ++ [rwD a] ++ (W.map rwD).drop j := by
    rw [List.map_append, List.map_append, List.map_take, List.map_drop]; rfl
  have hil : (W.take j ++ [a] ++ W.drop j).length = W.length + 1 := by
    simp only [List.length_append, List.length_take, List.length_drop, List.length_singleton]; omega
  have hcond : (decide ((W.map rwD).length < 16777216) && (decide ((0 : Int) ≤ (j : Int)) && decide ((j : Int) < 1073741824))) = true := by
    rw [List.length_map, Bool.and_eq_true, Bool.and_eq_true, decide_eq_true_eq, decide_eq_true_eq, decide_eq_true_eq]; omega
  by_cases h : j = W.length
  · rw [if_pos (by rw [List.length_map]; omega)]
    refine ⟨W.take j ++ [a] ++ W.drop j, .val (.int (j : Int)), ins j hj, by omega, ?_⟩
    rw [emp]
    try walk_at "vl"
    rw [if_pos hcond]
    try walk_at "vl"
    try rfl
  · have hlt : j < W.length := by omega
    have ea := W_at hlt
    obtain ⟨g1, g2, g3, g4⟩ := hW _ (List.getElem_mem hlt)
    rw [if_neg (by rw [List.length_map]; omega), ea]
    have er : rwD a = .tup [.str a.t, .tup a.r, a.h] := rfl
    rw [show rwD W[j] = .tup [.str W[j].t, .tup W[j].r, W[j].h] from rfl]
    rw [er] at emp ⊢
    walk_at "vl"
    rw [show ∀ x y z : D, cut [x, y, z] none (some 2) = [x, y] from fun _ _ _ => rfl, show ∀ x y z : D, cut [x, y, z] none (some 2) = [x, y] from fun _ _ _ => rfl]
    try walk_at "vl"
    simp only [lays_goods g2 62, lays_goods ha.r 62, Bool.and_self, if_true]
    cases hb : (!(W[j].t == a.t && D.eqvs W[j].r a.r)) with
    | true =>
      rw [if_pos rfl]
      refine ⟨W.take j ++ [a] ++ W.drop j, .val (.int (j : Int)), ins j hj, by omega, ?_⟩
      rw [emp, if_pos hcond]
      rfl
    | false =>
      rw [if_neg (by decide)]
      exact ⟨W, _, hW, by omega, rfl⟩
theorem told_turn (ns : List Int) (t0 t1 t2 t3 : List Nat) (h0 : wordT tx0 t0 = true) (h1 : wordT tx0 t1 = true) (h2 : wordT tx0 t2 = true) (V : List D) (hV : V.length = 4) (hg : ∀ v ∈ V, Good v) (nm : List Nat) (W : List Rw) (hW : ∀ w ∈ W, RwOk w) (hl : W.length ≤ 1000) (x : Int) (cl : List Int) (i : Nat) (hi : i < cl.length) (s8 s9 s10 s11 : Sl) :
    ∃ (W' : List Rw) (x' : Int) (y8 y9 y10 y11 : Sl), (∀ w ∈ W', RwOk w) ∧ W'.length ≤ W.length + 1 ∧ lb_l_told_2 (tlS (.lst (ns.map .int)) (.lst [.str t0, .str t1, .str t2, .str t3]) V nm W x cl (.val (.int (i : Int))) s8 s9 s10 s11) = .ok (.nx (tlS (.lst (ns.map .int)) (.lst [.str t0, .str t1, .str t2, .str t3]) V nm W' x' cl (.val (.int (i : Int))) y8 y9 y10 y11)) := by
  have ec : L2.atI (cl.map D.int) (i : Int) = some (.int cl[i]) := L2.atI_nat (by rw [List.getElem?_map, List.getElem?_eq_getElem hi]; rfl)
  rw [lb_l_told_2_eq]
  unfold lb_l_told_2'
  unfold tlS
  walk_at "vl"
  rw [ec]
  walk_at "vl"
  generalize (x * 48271 + cl[i] % 65521 + 3) % 2147483647 = X
  obtain ⟨q, hq, eq⟩ := sz_at (X / 7)
  rw [eq]
  walk_at "vl"
  rw [bigI_lit (by omega) (by omega), if_pos rfl, Int.toNat_natCast]
  obtain ⟨r, r1, r2, er⟩ := row_comp (.lst (ns.map .int)) (.lst [.str t0, .str t1, .str t2, .str t3]) .non .non V hV X q hq (.val (.str nm)) (.own (.lst (W.map rwD))) (.own (.lst (cl.map .int))) (.val (.int (i : Int))) (.val (.int (q : Int))) s9 s10 s11
  rw [er]
  walk_at "vl"
  obtain ⟨k, ⟨k0, k2⟩, ek⟩ := tb_at (X / 4)
  rw [ek]
  walk_at "vl"
  have ent : ∃ t, wordT tx0 t = true ∧ L2.atI [D.str t0, D.str t1, D.str t2, D.str t3] k = some (.str t) := by
    rcases (show k = 0 ∨ k = 1 ∨ k = 2 by omega) with rfl | rfl | rfl
    · exact ⟨t0, h0, rfl⟩
    · exact ⟨t1, h1, rfl⟩
    · exact ⟨t2, h2, rfl⟩
  obtain ⟨t, ht, et⟩ := ent
  rw [et]
  walk_at "vl"
  rw [cell_eq _ _ (by decide)]
  walk_at "vl"
  rw [ec]
  walk_at "vl"
  obtain ⟨v, ev, hv⟩ := thing_ex (cell ns 6 % 4) (X / 11) cl[i] nm
  rw [ev]
  rcases hv with ⟨ds, rfl, hds⟩ | ⟨d, rfl, hd⟩
  · walk_at "vl"
    obtain ⟨W', y11, w1, w2, w3⟩ := told_t1 (.lst (ns.map .int)) (.lst [.str t0, .str t1, .str t2, .str t3]) V nm W hW hl X cl (.val (.int (i : Int))) (.val (.int (q : Int))) (.val (.tup r)) s11 ⟨t, r, .lst ds⟩ ⟨ht, fun v hv => hg v (r2 v hv), by show r.length ≤ 4; omega, .inl ⟨ds, rfl, hds⟩⟩
    unfold tlS at w3
    exact ⟨W', X, _, _, _, y11, w1, w2, w3⟩
  · walk_at "vl"
    obtain ⟨W', y11, w1, w2, w3⟩ := told_t1 (.lst (ns.map .int)) (.lst [.str t0, .str t1, .str t2, .str t3]) V nm W hW hl X cl (.val (.int (i : Int))) (.val (.int (q : Int))) (.val (.tup r)) s11 ⟨t, r, d⟩ ⟨ht, fun v hv => hg v (r2 v hv), by show r.length ≤ 4; omega, .inr hd⟩
    unfold tlS at w3
    exact ⟨W', X, _, _, _, y11, w1, w2, w3⟩
theorem ints_of : ∀ {out : List D}, (∀ d ∈ out, ∃ i, d = .int i) → ∃ xs : List Int, out = xs.map .int ∧ xs.length = out.length
  | [], _ => ⟨[], rfl, rfl⟩
  | d :: ds, h => by
    obtain ⟨a, rfl⟩ := h d List.mem_cons_self
    obtain ⟨cs, e, hc⟩ := ints_of (out := ds) fun d hd => h d (List.mem_cons_of_mem _ hd)
    exact ⟨a :: cs, by rw [e]; rfl, by rw [List.length_cons, hc]; rfl⟩
theorem told_ex (ns : List Int) (hns : ns.length ≤ 63) (t0 t1 t2 t3 : List Nat) (h0 : wordT tx0 t0 = true) (h1 : wordT tx0 t1 = true) (h2 : wordT tx0 t2 = true) (V : List D) (hV : V.length = 4) (hg : ∀ v ∈ V, Good v) (nm : List Nat) :
    ∃ W : List Rw, (∀ w ∈ W, RwOk w) ∧ W.length ≤ 100 ∧ run_l_told [.lst (ns.map .int), .lst [.str t0, .str t1, .str t2, .str t3], .lst V, .str nm] = .ok (.nw (.lst (W.map rwD))) := by
  unfold run_l_told b_l_told
  walk_at "vl"
  rw [cell_eq _ _ (by decide)]
  walk_at "vl"
  rw [cell_eq _ _ (by decide)]
  walk_at "vl"
  rw [bigI_lit (by omega) (by omega), if_pos rfl]
  obtain ⟨out, e, o1, o2⟩ := comp_ex (step := compStep cg_l_told_1 ct_l_told_1 ce_l_told_1 [7]) (fun d => ∃ i, d = .int i) [.val (.lst (ns.map .int)), .val (.lst [.str t0, .str t1, .str t2, .str t3]), .val (.lst V), .val (.str nm), .own (.lst []), .val (.int (cell ns 4 % 2147483587 + 5)), .no, .no, .no, .no, .no, .no, .no] (rangeD 0 (cell ns 5 % 21).toNat) (by
    intro d hd
    obtain ⟨j, hj, rfl⟩ := rangeD_mem hd
    unfold compStep cg_l_told_1 ct_l_told_1 ce_l_told_1
    walk_at "vl"
    simp only [gGive_ap, kStepG_ap, vYes_ap, kStepT_ap, R.bind_ok, if_true]
    walk_at "vl"
    rw [cell_eq _ _ (by decide)]
    walk_at "vl"
    rw [mulOk_right (by omega) (by omega), if_pos rfl]
    try walk_at "vl"
    simp only [kStepE_ap]
    try walk_at "vl"
    exact ⟨_, rfl, _, rfl⟩) (by rw [rangeD_len]; omega)
  rw [rangeD_len] at o1
  obtain ⟨xs, rfl, hxs⟩ := ints_of o2
  rw [e]
  walk_at "vl"
  have ec : cut (ns.map D.int) (some 14) (some 34) = (cut ns (some 14) (some 34)).map D.int := by
    unfold cut
    rw [List.length_map, List.map_take, List.map_drop]
  have hcl := cut_length_le ns (some 14) (some 34)
  have hx2 : xs.length ≤ 20 := by rw [hxs, o1]; omega
  rw [ec, ← List.map_append]
  try rw [List.length_map, List.length_map]
  try rw [if_pos (sizeOkB_of (by omega))]
  try walk_at "vl"
  generalize hcl2 : cut ns (some 14) (some 34) ++ xs = cl
  have hcll : cl.length ≤ 83 := by rw [← hcl2, List.length_append]; omega
  obtain ⟨s, es, W, x', y7, y8, y9, y10, y11, rfl, w1, w2⟩ := loop_inv (g := gN 7) (body := lb_l_told_2) (ds := rangeD 0 cl.length) (st := tlS (.lst (ns.map .int)) (.lst [.str t0, .str t1, .str t2, .str t3]) V nm [] (cell ns 4 % 2147483587 + 5) cl .no .no .no .no .no)
    (fun i s => ∃ (W : List Rw) (x' : Int) (y7 y8 y9 y10 y11 : Sl), s = tlS (.lst (ns.map .int)) (.lst [.str t0, .str t1, .str t2, .str t3]) V nm W x' cl y7 y8 y9 y10 y11 ∧ (∀ w ∈ W, RwOk w) ∧ W.length ≤ i)
    ⟨[], _, _, _, _, _, _, rfl, by simp, Nat.le_refl _⟩ (by
      rintro i d s hd ⟨W, x', y7, y8, y9, y10, y11, rfl, w1, w2⟩
      obtain ⟨rfl, hi⟩ := rangeD_at hd
      obtain ⟨W', x2, z8, z9, z10, z11, v1, v2, v3⟩ := told_turn ns t0 t1 t2 t3 h0 h1 h2 V hV hg nm W w1 (by omega) x' cl i hi y8 y9 y10 y11
      refine ⟨_, rfl, _, .inl ?_, W', x2, .val (.int (i : Int)), z8, z9, z10, z11, rfl, v1, by omega⟩
      rw [← v3, Int.zero_add]
      rfl)
  rw [rangeD_len] at w2
  refine ⟨W, w1, by omega, ?_⟩
  unfold tlS at es
  rw [List.map_nil] at es
  try rw [List.length_map]
  rw [bigI_lit (by omega) (by omega), if_pos rfl, Int.toNat_natCast, es]
  walk_at "vl"
end Lw
set_option maxHeartbeats 1000000
open Vl
namespace Lw
abbrev Bi := List D × List D
def TM (N : List (List Nat)) (t : D) : Prop := (∃ x ∈ N, t = .str x) ∨ Good t
theorem TM.trm {N : List (List Nat)} (hN : ∀ x ∈ N, wordT tx2 x = true) {t : D} (h : TM N t) : Trm t := by
  rcases h with ⟨x, hx, rfl⟩ | h
  · exact .inl (hN x hx)
  · exact .inr h
def m1 (t v : D) (ks vs : List D) : Option Bi := if wordD tx2 t = true then (match getK ks vs t with | some w => if w = v then some (ks, vs) else none | none => some (ks ++ [t], vs ++ [v])) else if t = v then some (ks, vs) else none
theorem mt_cons (t v : D) (ts r ks vs : List D) : mt (t :: ts) (v :: r) ks vs = (m1 t v ks vs).bind fun p => mt ts r p.1 p.2 := by
  unfold m1
  conv => lhs; unfold mt
  by_cases hw : wordD tx2 t = true
  · rw [if_pos hw, if_pos hw]
    cases getK ks vs t with
    | some w =>
      dsimp only
      by_cases h : w = v
      · rw [if_pos h, if_pos h]; rfl
      · rw [if_neg h, if_neg h]; rfl
    | none => rfl
  · rw [if_neg hw, if_neg hw]
    by_cases h : t = v
    · rw [if_pos h, if_pos h]; rfl
    · rw [if_neg h, if_neg h]; rfl

theorem m1_mt {t v : D} {ts r : List D} {ks vs : List D} : mt (t :: ts) (v :: r) ks vs = (m1 t v ks vs).bind fun p => mt ts r p.1 p.2 := mt_cons t v ts r ks vs
theorem m1_one (t v : D) (ks vs : List D) : mt [t] [v] ks vs = m1 t v ks vs := by
  rw [mt_cons]
  cases h : m1 t v ks vs with
  | none => rfl
  | some p => show mt [] [] p.1 p.2 = _; unfold mt; rfl
theorem inStr_yes {c : Nat} (h : c ∈ tx2) : inStr [c] tx2 = true := by
  simp only [inStr]; simp [h]
theorem inStr_not {c : Nat} (h : c ∉ tx2) : inStr [c] tx2 = false := by
  simp only [inStr]; simp [h]
theorem var_first {x : List Nat} (h : wordT tx2 x = true) : ∃ c r, x = c :: r ∧ c ∈ tx2 := by
  cases x with
  | nil => cases h
  | cons c r =>
    rw [wordT_cons, Bool.and_eq_true, Bool.and_eq_true, decide_eq_true_eq, decide_eq_true_eq] at h
    exact ⟨c, r, rfl, h.2.1⟩
def maS (TT RR : List D) (b : Bi) (s3 s4 : Sl) : Sts := [.val (.tup TT), .val (.tup RR), .own (.dct b.1 b.2), s3, s4]
theorem ma_turn (TT RR : List D) (k : Nat) {t v : D} (t0 : Trm t) (v1 : Good v) (ht : L2.atI TT (k : Int) = some t) (hv : L2.atI RR (k : Int) = some v) {b : Bi} (hb : B0 b.1 b.2) (hl : b.1.length ≤ 1000) (s4 : Sl) :
    (∃ b' y4, m1 t v b.1 b.2 = some b' ∧ lb_l_matches_1 (maS TT RR b (.val (.int (k : Int))) s4) = .ok (.nx (maS TT RR b' (.val (.int (k : Int))) y4))) ∨ (m1 t v b.1 b.2 = none ∧ lb_l_matches_1 (maS TT RR b (.val (.int (k : Int))) s4) = .ok (.rt (.fz (.bl false)))) := by
  obtain ⟨ks, vs⟩ := b
  have hl : ks.length ≤ 1000 := hl
  unfold m1 lb_l_matches_1 maS
  by_cases hw : wordD tx2 t = true
  · obtain ⟨x, rfl⟩ := var_str hw
    obtain ⟨c, r, rfl, hc⟩ := var_first (show wordT tx2 x = true from hw)
    rw [if_pos hw]
    cases eg : getK ks vs (.str (c :: r)) with
    | none =>
      refine .inl ⟨_, .val v, rfl, ?_⟩
      walk_at "vl"
      rw [ht]
      walk_at "vl"
      rw [inStr_yes hc, if_pos rfl, hv]
      walk_at "vl"
      rw [if_pos (by omega), eg]
      walk_at "vl"
      rw [hv]
      walk_at "vl"
      rw [ne_good v1 v1, decide_eq_true rfl]
      walk_at "vl"
    | some w =>
      have gw : Good w := hb.good w (getK_mem eg)
      by_cases hwv : w = v
      · refine .inl ⟨(ks, vs), .val w, by simp only [if_pos hwv], ?_⟩
        walk_at "vl"
        rw [ht]
        walk_at "vl"
        rw [inStr_yes hc, if_pos rfl, hv]
        walk_at "vl"
        rw [if_pos (by omega), eg]
        walk_at "vl"
        rw [hv]
        walk_at "vl"
        rw [ne_good gw v1, decide_eq_true hwv]
        walk_at "vl"
      · refine .inr ⟨by simp only [if_neg hwv], ?_⟩
        walk_at "vl"
        rw [ht]
        walk_at "vl"
        rw [inStr_yes hc, if_pos rfl, hv]
        walk_at "vl"
        rw [if_pos (by omega), eg]
        walk_at "vl"
        rw [hv]
        walk_at "vl"
        rw [ne_good gw v1, decide_eq_false hwv]
        walk_at "vl"
  · rw [if_neg hw]
    have gt : Good t := t0.good (by simpa using hw)
    have hne := ne_good gt v1
    by_cases htv : t = v
    · subst htv
      refine .inl ⟨(ks, vs), .val t, by rw [if_pos rfl], ?_⟩
      rcases v1 with ⟨i, rfl⟩ | ⟨x, rfl, hx⟩
      · walk_at "vl"
        rw [ht]
        walk_at "vl"
        rw [hv]
        walk_at "vl"
        try simp
      · obtain ⟨_, c, r, rfl, hc⟩ := low_not hx
        walk_at "vl"
        rw [ht]
        walk_at "vl"
        rw [inStr_not hc, if_neg (by decide), hv]
        walk_at "vl"
        try simp
    · refine .inr ⟨by rw [if_neg htv], ?_⟩
      rcases gt with ⟨i, rfl⟩ | ⟨x, rfl, hx⟩
      · rcases v1 with ⟨j, rfl⟩ | ⟨y, rfl, hy⟩
        · have hij : i ≠ j := fun z => htv (by rw [z])
          walk_at "vl"
          rw [ht]
          walk_at "vl"
          rw [hv]
          walk_at "vl"
          simp [hij]
        · walk_at "vl"
          rw [ht]
          walk_at "vl"
          rw [hv]
          walk_at "vl"
          try simp
      · obtain ⟨_, c, r, rfl, hc⟩ := low_not hx
        rcases v1 with ⟨j, rfl⟩ | ⟨y, rfl, hy⟩
        · walk_at "vl"
          rw [ht]
          walk_at "vl"
          rw [inStr_not hc, if_neg (by decide), hv]
          walk_at "vl"
          try simp
        · have hij : (c :: r) ≠ y := fun z => htv (by rw [z])
          walk_at "vl"
          rw [ht]
          walk_at "vl"
          rw [inStr_not hc, if_neg (by decide), hv]
          walk_at "vl"
          simp [hij]
theorem ma_loop (TT RR : List D) : ∀ (ts r pt pr : List D) (b : Bi) (s3 s4 : Sl), TT = pt ++ ts → RR = pr ++ r → pt.length = pr.length → ts.length = r.length → (∀ t ∈ ts, Trm t) → (∀ v ∈ r, Good v) → B0 b.1 b.2 → b.1.length + ts.length ≤ 1000 →
    (∃ p y3 y4, mt ts r b.1 b.2 = some p ∧ loop (gN 3) lb_l_matches_1 (rangeD (pt.length : Int) ts.length) (maS TT RR b s3 s4) = .ok (.nx (maS TT RR p y3 y4))) ∨ (mt ts r b.1 b.2 = none ∧ loop (gN 3) lb_l_matches_1 (rangeD (pt.length : Int) ts.length) (maS TT RR b s3 s4) = .ok (.rt (.fz (.bl false))))
  | [], [], pt, pr, b, s3, s4, _, _, _, _, _, _, _, _ => .inl ⟨b, s3, s4, by unfold mt; rfl, rfl⟩
  | [], _ :: _, _, _, _, _, _, _, _, _, h, _, _, _, _ => by simp at h
  | _ :: _, [], _, _, _, _, _, _, _, _, h, _, _, _, _ => by simp at h
  | t :: ts, v :: r, pt, pr, b, s3, s4, eT, eR, hp, hl, ht, hr, hb, hk => by
    rw [List.length_cons] at hk
    have v1 := hr v List.mem_cons_self
    have aT : L2.atI TT (pt.length : Int) = some t := by rw [eT]; exact atI_pre pt t ts
    have aR : L2.atI RR (pt.length : Int) = some v := by rw [eR, hp]; exact atI_pre pr v r
    rw [mt_cons, List.length_cons, rangeD_succ]
    rcases ma_turn TT RR pt.length (ht t List.mem_cons_self) v1 aT aR hb (by omega) s4 with ⟨b', y4, e1, e2⟩ | ⟨e1, e2⟩
    · have m1e : mt [t] [v] b.1 b.2 = some b' := by rw [m1_one]; exact e1
      obtain ⟨hb', hl'⟩ := mt_B0 hb (fun w hw => by rw [List.mem_singleton.mp hw]; exact v1) m1e
      have q := ma_loop TT RR ts r (pt ++ [t]) (pr ++ [v]) b' (.val (.int (pt.length : Int))) y4 (by rw [eT, List.append_assoc]; rfl) (by rw [eR, List.append_assoc]; rfl) (by rw [List.length_append, List.length_append, hp]; rfl) (by simpa using hl) (fun x hx => ht x (List.mem_cons_of_mem _ hx)) (fun x hx => hr x (List.mem_cons_of_mem _ hx)) hb' (by simp only [List.length_singleton] at hl'; omega)
      rw [List.length_append, List.length_singleton] at q
      rw [e1]
      have st : ∀ (K : R Flow), loop (gN 3) lb_l_matches_1 (rangeD (((pt.length + 1 : Nat) : Nat) : Int) ts.length) (maS TT RR b' (.val (.int (pt.length : Int))) y4) = K → loop (gN 3) lb_l_matches_1 (.int (pt.length : Int) :: rangeD ((pt.length : Int) + 1) ts.length) (maS TT RR b s3 s4) = K := fun K hK => by
        rw [loop_step (s1 := maS TT RR b (.val (.int (pt.length : Int))) s4) rfl e2]
        exact hK
      rcases q with ⟨p, y3, z4, q1, q2⟩ | ⟨q1, q2⟩
      · exact .inl ⟨p, y3, z4, q1, st _ q2⟩
      · exact .inr ⟨q1, st _ q2⟩
    · rw [e1]
      refine .inr ⟨rfl, ?_⟩
      rw [loop_cons]
      rw [show (gN 3) (.int (pt.length : Int)) (maS TT RR b s3 s4) = some (maS TT RR b (.val (.int (pt.length : Int))) s4) from rfl]
      simp only [turnEnd_ap, e2, R.bind_ok, kTurn_rt]
def mtB (ts r : List D) : Bool := decide (ts.length = r.length) && (mt ts r [] []).isSome
theorem matches_eq (ts r : List D) (ht : ∀ t ∈ ts, Trm t) (hr : ∀ v ∈ r, Good v) (hl : ts.length ≤ 100) : run_l_matches [.tup ts, .tup r] = .ok (.fz (.bl (mtB ts r))) := by
  unfold mtB run_l_matches b_l_matches
  walk_at "vl"
  by_cases h : ts.length = r.length
  · have q := ma_loop ts r ts r [] [] ([], []) .no .no rfl rfl rfl h ht hr B0.nil (by simp; omega)
    rw [if_neg (by simp [h]), ← h, bigI_lit (by omega) (by omega), if_pos rfl, Int.toNat_natCast, decide_eq_true rfl, Bool.true_and]
    unfold maS at q
    rw [List.length_nil, show ((0 : Nat) : Int) = 0 from rfl] at q
    rcases q with ⟨p, y3, y4, q1, q2⟩ | ⟨q1, q2⟩
    · have q1 : mt ts r [] [] = some p := q1
      have q2 := q2
      dsimp only at q2
      rw [q2, q1]
      walk_at "vl"
      try rfl
    · have q1 : mt ts r [] [] = none := q1
      dsimp only at q2
      rw [q2, q1]
      walk_at "vl"
      try rfl
  · rw [if_pos (by simp; omega), decide_eq_false h]
    rfl
end Lw
set_option maxHeartbeats 1000000
open Vl
namespace Lw
/-! ## asked -/
def keep (n : List Nat) (ts : List D) (w : Rw) : Bool := decide (w.t = n) && mtB ts w.r
theorem own_lst (ds : List D) : run_own [.lst ds] = .ok (.nw (.lst ds)) := by
  unfold run_own b_own
  walk_at "vl"
theorem own_atom {d : D} (h : Atom d) : run_own [d] = .ok (.fz d) := by
  unfold run_own b_own
  cases h <;> walk_at "vl"
def lstOf : D → Option (List D)
  | .lst ds => some ds
  | _ => none
def asI1 (n : Nat) (w : Rw) : SD := match lstOf w.h with
  | some _ => .tup [.fz (.tup w.r), .lab n]
  | none => .fz (.tup [.tup w.r, w.h])
def asS1 (w : Rw) : Sto := match lstOf w.h with
  | some ds => [some (.lst (ds.map .fz))]
  | none => []
def asI : Nat → List Rw → List SD
  | _, [] => []
  | n, w :: W => asI1 n w :: asI (n + (asS1 w).length) W
def asS (W : List Rw) : Sto := W.flatMap asS1
theorem asS_cons (w : Rw) (W : List Rw) : asS (w :: W) = asS1 w ++ asS W := by unfold asS; rw [List.flatMap_cons]
theorem asS_append (a b : List Rw) : asS (a ++ b) = asS a ++ asS b := by unfold asS; rw [List.flatMap_append]
theorem asI_append (n : Nat) (a b : List Rw) : asI n (a ++ b) = asI n a ++ asI (n + (asS a).length) b := by
  induction a generalizing n with
  | nil => rfl
  | cons w a ih =>
    rw [List.cons_append, asI, ih, asI, asS_cons, List.length_append, show n + (asS1 w).length + (asS a).length = n + ((asS1 w).length + (asS a).length) by omega]; rfl
theorem asI_len (n : Nat) (a : List Rw) : (asI n a).length = a.length := by
  induction a generalizing n with
  | nil => rfl
  | cons w a ih => rw [asI, List.length_cons, ih, List.length_cons]
def dueD (w : Rw) : D := .tup [.tup w.r, w.h]
structure As (K : List Rw) (n b : Nat) (ν : Sto) : Prop where
  at_ : ν[n]? = some (some (.lst (asI b K)))
  inn : ∀ (i : Nat) (x : Option Ob), (asS K)[i]? = some x → ν[b + i]? = some x
theorem as_items (ν : Sto) : ∀ (K : List Rw) (b : Nat), (∀ (i : Nat) (x : Option Ob), (asS K)[i]? = some x → ν[b + i]? = some x) → SD.deepWs (deepL ν 5) (asI b K) = some (K.map dueD)
  | [], b, _ => rfl
  | w :: K, b, h => by
    have ih := as_items ν K (b + (asS1 w).length) fun i x hx => by
      have := h ((asS1 w).length + i) x (by rw [asS_cons, List.getElem?_append_right (by omega), Nat.add_sub_cancel_left]; exact hx)
      rw [← Nat.add_assoc] at this
      exact this
    have h0 : SD.deepW (deepL ν 5) (asI1 b w) = some (dueD w) := by
      unfold asI1 dueD
      cases e : lstOf w.h with
      | none => rfl
      | some ds =>
        have ew : w.h = .lst ds := by
          cases hh : w.h <;> rw [hh] at e <;> cases e; rfl
        have hn := h 0 (some (.lst (ds.map .fz))) (by rw [asS_cons, show asS1 w = [some (.lst (ds.map .fz))] by unfold asS1; rw [e]]; rfl)
        have hl : SD.deepW (deepL ν 5) (.lab b) = some (.lst ds) := by
          show obAt (deepL ν 4) (ν[b]?) = _
          rw [show ν[b]? = some (some (.lst (ds.map .fz))) from hn]
          show (SD.deepWs (deepL ν 4) (ds.map .fz)).map D.lst = _
          rw [deepWs_fz]; rfl
        show (SD.deepWs (deepL ν 5) [.fz (.tup w.r), .lab b]).map D.tup = _
        have h2 : SD.deepWs (deepL ν 5) [.fz (.tup w.r), .lab b] = some [.tup w.r, .lst ds] := by
          show (SD.deepW (deepL ν 5) (.fz (.tup w.r))).bind (fun x => (SD.deepWs (deepL ν 5) [.lab b]).map (x :: ·)) = _
          have h3 : SD.deepWs (deepL ν 5) [.lab b] = some [.lst ds] := by
            show (SD.deepW (deepL ν 5) (.lab b)).bind (fun x => (SD.deepWs (deepL ν 5) []).map (x :: ·)) = _
            rw [hl]; rfl
          rw [h3]; rfl
        rw [h2, ew]; rfl
    rw [asI]
    show (SD.deepW (deepL ν 5) (asI1 b w)).bind (fun y => (SD.deepWs (deepL ν 5) (asI (b + (asS1 w).length) K)).map (y :: ·)) = _
    rw [h0, ih]; rfl
theorem As.deep {K : List Rw} {n b : Nat} {ν : Sto} (h : As K n b ν) : deep ν (.lab n) = some (.lst (K.map dueD)) := deep_lst h.at_ (as_items ν K b h.inn)
theorem asked_turn (T : D) (n : List Nat) (ts : List D) (ht : ∀ t ∈ ts, Trm t) (hts : ts.length ≤ 4) (μ : Sto) (dn : List Rw) (hd : dn.length ≤ 1000) (w : Rw) (hw : RwOk w) :
    zb_asked_1 ([.val T, .val (.tup [.str n, .tup ts]), .adr (.sd (.lab μ.length)), .val (.str w.t), .val (.tup w.r), .val w.h], μ ++ some (.lst (asI (μ.length + 1) dn)) :: asS dn) = .ok (.nx ([.val T, .val (.tup [.str n, .tup ts]), .adr (.sd (.lab μ.length)), .val (.str w.t), .val (.tup w.r), .val w.h], μ ++ some (.lst (asI (μ.length + 1) (if keep n ts w = true then dn ++ [w] else dn))) :: asS (if keep n ts w = true then dn ++ [w] else dn))) := by
  have em := matched_eq ht hw.r B0.nil (by simp; omega)
  have hlen := asI_len (μ.length + 1) dn
  unfold keep
  unfold zb_asked_1
  walk_at "vl"
  by_cases hn : w.t = n
  · rw [if_pos hn, decide_eq_true hn, Bool.true_and]
    rw [em]
    unfold mtV mtB
    by_cases hl : ts.length = w.r.length
    · rw [if_pos hl, decide_eq_true hl, Bool.true_and]
      cases hm : mt ts w.r [] [] with
      | none =>
        walk_at "vl"
        rfl
      | some p =>
        rw [if_pos (show (some p).isSome = true from rfl), asI_append, asS_append]
        walk_at "vl"
        rw [sto_at]
        rcases hw.h with ⟨ds, e, hds⟩ | ha
        · have e1 : asI (μ.length + 1 + (asS dn).length) [w] = [.tup [.fz (.tup w.r), .lab (μ.length + 1 + (asS dn).length)]] := by
            unfold asI asI asI1; rw [e]; rfl
          have e2 : asS [w] = [some (.lst (ds.map .fz))] := by
            unfold asS; rw [List.flatMap_cons, List.flatMap_nil, List.append_nil]; unfold asS1; rw [e]; rfl
          rw [e1, e2, e, own_lst]
          walk_at "vl"
          rw [sto_app, sto_at]
          walk_at "vl"
          rw [hlen, if_pos (by omega)]
          try walk_at "vl"
          rw [sto_set]
          have e3 : (μ ++ some (Ob.lst (asI (μ.length + 1) dn)) :: asS dn).length = μ.length + 1 + (asS dn).length := by simp; omega
          rw [e3]
        · have e1 : asI (μ.length + 1 + (asS dn).length) [w] = [.fz (.tup [.tup w.r, w.h])] := by
            unfold asI asI asI1
            cases hh : w.h <;> rw [hh] at ha <;> first | rfl | cases ha
          have e2 : asS [w] = [] := by
            unfold asS; rw [List.flatMap_cons, List.flatMap_nil, List.append_nil]; unfold asS1
            cases hh : w.h <;> rw [hh] at ha <;> first | rfl | cases ha
          rw [e1, e2, own_atom ha, List.append_nil]
          walk_at "vl"
          rw [sto_at]
          walk_at "vl"
          rw [hlen, if_pos (by omega)]
          try walk_at "vl"
          rw [sto_set]
    · rw [if_neg hl, decide_eq_false hl]
      walk_at "vl"
      try rfl
  · rw [if_neg hn, decide_eq_false hn]
    rfl
theorem asked_loop (T : D) (n : List Nat) (ts : List D) (ht : ∀ t ∈ ts, Trm t) (hts : ts.length ≤ 4) (μ : Sto) : ∀ (W dn : List Rw) (s3 s4 s5 : Sl), (∀ w ∈ W, RwOk w) → dn.length + W.length ≤ 1000 →
    ∃ y3 y4 y5, zloop (zgT [zgN 3, zgN 4, zgN 5]) zb_asked_1 yes1 ((W.map rwD).map .fz) ([.val T, .val (.tup [.str n, .tup ts]), .adr (.sd (.lab μ.length)), s3, s4, s5], μ ++ some (.lst (asI (μ.length + 1) dn)) :: asS dn) = .ok (.nx ([.val T, .val (.tup [.str n, .tup ts]), .adr (.sd (.lab μ.length)), y3, y4, y5], μ ++ some (.lst (asI (μ.length + 1) (dn ++ W.filter (keep n ts)))) :: asS (dn ++ W.filter (keep n ts))))
  | [], dn, s3, s4, s5, _, _ => ⟨s3, s4, s5, by rw [List.filter_nil, List.append_nil]; rfl⟩
  | w :: W, dn, s3, s4, s5, hW, hl => by
    rw [List.length_cons] at hl
    have e := asked_turn T n ts ht hts μ dn (by omega) w (hW w List.mem_cons_self)
    obtain ⟨y3, y4, y5, q⟩ := asked_loop T n ts ht hts μ W (if keep n ts w = true then dn ++ [w] else dn) (.val (.str w.t)) (.val (.tup w.r)) (.val w.h) (fun v hv => hW v (List.mem_cons_of_mem _ hv)) (by
      split
      · rw [List.length_append, List.length_singleton]; omega
      · omega)
    refine ⟨y3, y4, y5, ?_⟩
    rw [List.map_cons, List.map_cons, zloop_cons, if_pos (by rfl)]
    rw [show zgT [zgN 3, zgN 4, zgN 5] (.fz (rwD w)) ([.val T, .val (.tup [.str n, .tup ts]), .adr (.sd (.lab μ.length)), s3, s4, s5], μ ++ some (.lst (asI (μ.length + 1) dn)) :: asS dn) = some ([.val T, .val (.tup [.str n, .tup ts]), .adr (.sd (.lab μ.length)), .val (.str w.t), .val (.tup w.r), .val w.h], μ ++ some (.lst (asI (μ.length + 1) dn)) :: asS dn) from rfl, zstep_some, e, RS.bind_ok, zturn_nx, q]
    by_cases hk : keep n ts w = true
    · rw [if_pos hk, List.filter_cons_of_pos hk, List.append_assoc]; rfl
    · rw [if_neg hk, List.filter_cons_of_neg hk]
theorem asked_eq (W : List Rw) (hW : ∀ w ∈ W, RwOk w) (hl : W.length ≤ 1000) (n : List Nat) (ts : List D) (ht : ∀ t ∈ ts, Trm t) (hts : ts.length ≤ 4) (μ : Sto) :
    run_asked [.fz (.lst (W.map rwD)), .fz (.tup [.str n, .tup ts])] μ = .ok (.lab μ.length, μ ++ some (.lst (asI (μ.length + 1) (W.filter (keep n ts)))) :: asS (W.filter (keep n ts))) := by
  obtain ⟨y3, y4, y5, e⟩ := asked_loop (.lst (W.map rwD)) n ts ht hts μ W [] .no .no .no hW (by simpa using hl)
  rw [List.nil_append, show μ ++ some (Ob.lst (asI (μ.length + 1) [])) :: asS [] = μ ++ [some (.lst [])] from rfl] at e
  unfold run_asked b_asked
  walk_at "vl"
  rw [e]
  walk_at "vl"
end Lw
set_option maxHeartbeats 1000000
open Vl
namespace Lw
theorem Th.lay {d : D} (h : Th d) (n : Nat) : d.lay (n + 4) = true := by
  rcases h with ⟨ds, rfl, hd⟩ | h
  · show D.lays (n + 3) ds = true
    exact hd.lay n
  · cases h <;> rfl
theorem noL_goods {ds : List D} (h : ∀ d ∈ ds, Good d) : D.noLs ds = true := by
  induction ds with
  | nil => rfl
  | cons d ds ih =>
    have : d.noL = true := by rcases h d List.mem_cons_self with ⟨i, rfl⟩ | ⟨x, rfl, _⟩ <;> rfl
    show (d.noL && D.noLs ds) = true
    rw [this, ih fun e he => h e (List.mem_cons_of_mem _ he)]; rfl
theorem rw_lay {w : Rw} (h : RwOk w) : (rwD w).lay 63 = true := by
  show ((D.str w.t).lay 62 && ((D.tup w.r).lay 62 && (w.h.lay 62 && true))) = true
  rw [show (D.tup w.r).lay 62 = true from lays_goods h.r 61, h.h.lay 58]; rfl
theorem due_lay {w : Rw} (h : RwOk w) : (dueD w).lay 63 = true := by
  show ((D.tup w.r).lay 62 && (w.h.lay 62 && true)) = true
  rw [show (D.tup w.r).lay 62 = true from lays_goods h.r 61, h.h.lay 58]; rfl
theorem lays_W {W : List Rw} (h : ∀ w ∈ W, RwOk w) : D.lays 63 (W.map rwD) = true := by
  induction W with
  | nil => rfl
  | cons w W ih =>
    rw [List.map_cons, D.lays, Bool.and_eq_true]
    exact ⟨rw_lay (h w List.mem_cons_self), ih fun v hv => h v (List.mem_cons_of_mem _ hv)⟩
/-! ## same -/
theorem due_at {K : List Rw} {i : Nat} (h : i < K.length) : L2.atI (K.map dueD) (i : Int) = some (dueD K[i]) := L2.atI_nat (by rw [List.getElem?_map, List.getElem?_eq_getElem h]; rfl)
theorem same_eq (K : List Rw) (hK : ∀ w ∈ K, RwOk w) (hl : K.length ≤ 1000) : run_l_same [.lst (K.map dueD), .lst (K.map dueD)] = .ok (.fz (.bl true)) := by
  unfold run_l_same b_l_same
  walk_at "vl"
  rw [if_neg (by simp), List.length_map, bigI_lit (by omega) (by omega), if_pos rfl, Int.toNat_natCast]
  obtain ⟨s, es, y2, rfl⟩ := loop_inv (g := gN 2) (body := lb_l_same_1) (ds := rangeD 0 K.length) (st := [.val (.lst (K.map dueD)), .val (.lst (K.map dueD)), .no, .no])
    (fun i s => ∃ y2, s = [.val (.lst (K.map dueD)), .val (.lst (K.map dueD)), y2, .no])
    ⟨.no, rfl⟩ (by
      rintro i d s hd ⟨y2, rfl⟩
      obtain ⟨rfl, hi⟩ := rangeD_at hd
      refine ⟨_, rfl, [.val (.lst (K.map dueD)), .val (.lst (K.map dueD)), .val (.int (0 + (i : Int))), .no], .inl ?_, _, rfl⟩
      have ea := due_at hi
      have hok := hK _ (List.getElem_mem hi)
      have hlay := due_lay hok
      have heq := eqvRefl 63 _ hlay
      have hne : oNeA (dueD K[i]) (dueD K[i]) = some (.fz (.bl false)) := by
        have e : oNeA (dueD K[i]) (dueD K[i]) = if ((dueD K[i]).lay 64 && (dueD K[i]).lay 64) = true then some (.fz (.bl (!D.eqv (dueD K[i]) (dueD K[i])))) else none := rfl
        have h64 : (dueD K[i]).lay 64 = true := by
          show ((D.tup K[i].r).lay 63 && (K[i].h.lay 63 && true)) = true
          rw [show (D.tup K[i].r).lay 63 = true from lays_goods hok.r 62, hok.h.lay 59]; rfl
        rw [e, h64, heq]; rfl
      have e0 : (0 : Int) + (i : Int) = (i : Int) := by omega
      have hc := comp_map (step := compStep cg_l_same_1 ct_l_same_1 ce_l_same_1 [3]) (fun _ => D.bl false) [.val (.lst (K.map dueD)), .val (.lst (K.map dueD)), .val (.int (i : Int)), .no] K[i].r (by
        intro d hd
        unfold compStep cg_l_same_1 ct_l_same_1 ce_l_same_1
        rcases hok.r d hd with ⟨j, rfl⟩ | ⟨x, rfl, _⟩
        all_goals
          walk_at "vl"
          simp only [gGive_ap, kStepG_ap, vYes_ap, kStepT_ap, R.bind_ok, if_true]
          walk_at "vl"
          simp only [kStepE_ap]
          walk_at "vl") (by have := hok.l; omega)
      rw [e0]
      unfold lb_l_same_1
      rw [show dueD K[i] = .tup [.tup K[i].r, K[i].h] from rfl] at *
      walk_at "vl"
      rw [ea]
      walk_at "vl"
      rw [ea]
      walk_at "vl"
      rw [ea]
      simp only [Option.map_some, give_some, R.bind_ok, k2b_ap, Val.d]
      rw [hne]
      walk_at "vl"
      rw [ea]
      walk_at "vl"
      rw [ea]
      walk_at "vl"
      rw [if_neg (by simp), ea]
      walk_at "vl"
      rw [hc]
      walk_at "vl"
      rw [oAny_ap, blsOf_map (fun _ => false), anyEnd_ap, show (List.map (fun _ => false) K[i].r).any id = false by rw [List.any_map]; exact List.any_eq_false.mpr (fun _ _ => by simp)]
      walk_at "vl")
  rw [es]
  walk_at "vl"
/-! ## the copies -/
theorem neg_at (w : Rw) : L2.atI [D.str w.t, D.tup w.r, w.h] (-1) = some w.h := rfl
theorem cut_neg (w : Rw) : cut [D.str w.t, D.tup w.r, w.h] none (some (-1)) = [D.str w.t, D.tup w.r] := rfl
theorem copies_eq (W : List Rw) (hW : ∀ w ∈ W, RwOk w) (hl : W.length ≤ 1000) : run_l_copies [.lst (W.map rwD)] = .ok (.nw (.lst (W.map rwD))) := by
  have hc : ∀ s0 : Sl, compLoop (compStep cg_l_copies_1 ct_l_copies_1 ce_l_copies_1 [1]) (W.map rwD) [] [.val (.lst (W.map rwD)), .no] = .ok (W.map rwD, [.val (.lst (W.map rwD)), .no]) := fun _ => by
    refine compAll rwD rwD _ W (fun w hw => ?_) (by omega)
    have n1 := neg_at w
    have n2 := cut_neg w
    unfold compStep cg_l_copies_1 ct_l_copies_1 ce_l_copies_1
    rw [show rwD w = .tup [.str w.t, .tup w.r, w.h] from rfl]
    rcases (hW w hw).h with ⟨ds, e, _⟩ | ha
    · rw [e] at n1 n2 ⊢
      walk_at "vl"
      simp only [gGive_ap, kStepG_ap, vYes_ap, kStepT_ap, R.bind_ok, if_true]
      walk_at "vl"
      try rw [n1]
      try walk_at "vl"
      try rw [n2]
      try walk_at "vl"
      try rw [n1]
      try walk_at "vl"
      simp only [kStepE_ap]
      try rw [if_pos (sizeOkB_of (by omega))]
      try rfl
    · cases hh : w.h <;> rw [hh] at ha n1 n2 <;> first | cases ha; done | skip
      all_goals
        walk_at "vl"
        simp only [gGive_ap, kStepG_ap, vYes_ap, kStepT_ap, R.bind_ok, if_true]
        walk_at "vl"
        try rw [n1]
        try walk_at "vl"
        simp only [kStepE_ap]
        try rfl
  unfold run_l_copies b_l_copies
  walk_at "vl"
  rw [hc .no]
  walk_at "vl"
/-! ## the terms -/
theorem tm_at (c : Int) : ∃ q : Nat, q ≤ 4 ∧ L2.atI [D.int 2, D.int 2, D.int 1, D.int 3, D.int 4, D.int 0] (c % 6) = some (.int (q : Int)) := by
  obtain ⟨k, hk, ek⟩ := atI_some [D.int 2, D.int 2, D.int 1, D.int 3, D.int 4, D.int 0] (c % 6) (by omega) (by show _ < (6 : Int); omega)
  simp only [List.mem_cons, List.not_mem_nil, or_false] at hk
  rcases hk with rfl | rfl | rfl | rfl | rfl | rfl
  · exact ⟨2, by decide, ek⟩
  · exact ⟨2, by decide, ek⟩
  · exact ⟨1, by decide, ek⟩
  · exact ⟨3, by decide, ek⟩
  · exact ⟨4, by decide, ek⟩
  · exact ⟨0, by decide, ek⟩
theorem mk_at (c : Int) (h0 : 0 ≤ c) (h3 : c < 3) : ∃ q : Int, (0 < q ∧ q ≤ 3) ∧ L2.atI [D.int 3, D.int 2, D.int 1] c = some (.int q) := by
  obtain ⟨k, hk, ek⟩ := atI_some [D.int 3, D.int 2, D.int 1] c h0 (by show _ < (3 : Int); omega)
  simp only [List.mem_cons, List.not_mem_nil, or_false] at hk
  rcases hk with rfl | rfl | rfl <;> exact ⟨_, by decide, ek⟩
def teS (ns : List Int) (M V : List D) (ts : List D) (s4 s5 : Sl) : Sts := [.val (.lst (ns.map .int)), .val (.lst M), .val (.lst V), .own (.lst ts), s4, s5]
theorem terms_turn (ns : List Int) (M V : List D) (hM : M.length = 3) (hm : ∀ t ∈ M, Trm t) (hV : V.length = 4) (hg : ∀ v ∈ V, Good v) (ts : List D) (hl : ts.length ≤ 100) (k : Int) (hk : 0 ≤ k) (s5 : Sl) :
    ∃ t y5, Trm t ∧ lb_l_terms_1 (teS ns M V ts (.val (.int k)) s5) = .ok (.nx (teS ns M V (ts ++ [t]) (.val (.int k)) y5)) := by
  unfold lb_l_terms_1 teS
  walk_at "vl"
  rw [cell_eq _ _ (by omega)]
  walk_at "vl"
  generalize cell ns (10 + k) = c
  by_cases h : c % 5 < 3
  · obtain ⟨q, ⟨q1, q2⟩, eq⟩ := mk_at (c % 5) (by omega) h
    obtain ⟨t, ht, et⟩ := atI_some M (c / 5 % q) (Int.emod_nonneg _ (by omega)) (by have := Int.emod_lt_of_pos (c / 5) q1; omega)
    rw [if_pos h, eq]
    walk_at "vl"
    rw [if_pos q1]
    try walk_at "vl"
    rw [et]
    walk_at "vl"
    rw [if_pos (by omega)]
    try walk_at "vl"
    exact ⟨t, _, hm t ht, rfl⟩
  · obtain ⟨t, ht, et⟩ := atI_some V (c / 5 % 4) (by omega) (by omega)
    rw [if_neg h, et]
    walk_at "vl"
    rw [if_pos (by omega)]
    try walk_at "vl"
    exact ⟨t, _, .inr (hg t ht), rfl⟩
theorem terms_ex (ns : List Int) (M V : List D) (hM : M.length = 3) (hm : ∀ t ∈ M, Trm t) (hV : V.length = 4) (hg : ∀ v ∈ V, Good v) : ∃ ts : List D, (∀ t ∈ ts, Trm t) ∧ ts.length ≤ 4 ∧ run_l_terms [.lst (ns.map .int), .lst M, .lst V] = .ok (.fz (.tup ts)) := by
  obtain ⟨m, hm4, em⟩ := tm_at (cell ns 8)
  obtain ⟨s, es, ts, y4, y5, rfl, h1, h2⟩ := loop_inv (g := gN 4) (body := lb_l_terms_1) (ds := rangeD 0 m) (st := teS ns M V [] .no .no)
    (fun i s => ∃ (ts : List D) (y4 y5 : Sl), s = teS ns M V ts y4 y5 ∧ (∀ t ∈ ts, Trm t) ∧ ts.length = i)
    ⟨[], .no, .no, rfl, by simp, rfl⟩ (by
      rintro i d s hd ⟨ts, y4, y5, rfl, h1, h2⟩
      obtain ⟨rfl, hi⟩ := rangeD_at hd
      obtain ⟨t, z5, ht, e⟩ := terms_turn ns M V hM hm hV hg ts (by omega) (0 + (i : Int)) (by omega) y5
      refine ⟨_, rfl, _, .inl e, ts ++ [t], _, _, rfl, fun b hb => ?_, by rw [List.length_append, h2]; rfl⟩
      rcases List.mem_append.mp hb with hb | hb
      · exact h1 b hb
      · rw [List.mem_singleton.mp hb]; exact ht)
  rw [rangeD_len] at h2
  refine ⟨ts, h1, by omega, ?_⟩
  unfold run_l_terms b_l_terms
  unfold teS at es
  walk_at "vl"
  rw [cell_eq _ _ (by decide)]
  walk_at "vl"
  rw [em]
  walk_at "vl"
  rw [bigI_lit (by omega) (by omega), if_pos rfl, Int.toNat_natCast, es]
  walk_at "vl"
  try rw [if_pos (by omega)]
end Lw
set_option maxHeartbeats 1000000
open Vl
namespace Lw
def law_t3 : SS :=
    (zSeq (zDrop (zMut "list" oAppend (zNm 10) (zCons (zO (vTup (vCons (vSto (vTup vNil)) (vCons (vSto (vC (.int 0))) vNil)))) zNil)))
    (zRet (zAnd (zO (v2 oEqA (vPeek 9) (vPeek 6))) (zCallO run_l_same (zCons (zCall run_asked (zCons (zO (vName 9)) (zCons (zO (vName 7)) zNil))) (zCons (zO (vName 8)) zNil))))))
def law_t2 : SS :=
    (zSeq (zFor (zNm 10) (zgN 11) zb_law_1) law_t3)
def law_t1 : SS :=
    (zSeq (zAsg 10 (zCall run_asked (zCons (zO (vName 9)) (zCons (zO (vName 7)) zNil))))
    (zSeq (zIf (zLkT [false, false, false, false, false, false, true, false, true, true, true, false, false] (vOrT (vNotT (vTest (vCall run_l_same (vCons (vArg (vName 10)) (vCons (vArg (vName 8)) vNil))))) (vTest (v2 oNeA (vPeek 9) (vPeek 6))))) (zOld (vRet (vC (.bl false)))) zNx) law_t2))
def b_law' : SS :=
  (zSeq (zOld (vAsg 1 (vC (.str tx0))))
    (zSeq (zOld (vAsg 2 (vComp (sR1 (vCons (vC (.int 4)) vNil)) cg_law_1 ct_law_1 ce_law_1 [12])))
    (zSeq (zOld (vAsg 3 (vComp (sR1 (vCons (vC (.int 3)) vNil)) cg_law_2 ct_law_2 ce_law_2 [12])))
    (zSeq (zOld (vAsg 4 (v2 oMul (v2 oMod (vCall run_l_cell_at (vCons (vArg (vName 0)) (vCons (vArg (vC (.int 3))) vNil))) (v2 oPow (vC (.int 10)) (vC (.int 30)))) (v2 oIxA (vLst (vCons (vSto (vC (.int 1))) (vCons (vSto (v1 oNeg (vC (.int 1)))) vNil))) (v2 oMod (vCall run_l_cell_at (vCons (vArg (vName 0)) (vCons (vArg (vC (.int 2))) vNil))) (vC (.int 2)))))))
    (zSeq (zOld (vAsg 5 (vLst (vCons (vSto (vName 4)) (vCons (vSto (v2 oIxA (vPeek 2) (vC (.int 0)))) (vCons (vSto (v2 oAdd (vPeek 4) (vC (.int 1)))) (vCons (vSto (v2 oIxA (vPeek 2) (vC (.int 1)))) vNil)))))))
    (zSeq (zOld (vAsg 6 (vCall run_l_told (vCons (vArg (vName 0)) (vCons (vArg (vName 2)) (vCons (vArg (vName 5)) (vCons (vArg (v2 oIxA (vPeek 2) (vC (.int 2)))) vNil)))))))
    (zSeq (zOld (vAsg 7 (vTup (vCons (vSto (v2 oIxA (vPeek 2) (v2 oIxA (vLst (vCons (vSto (vC (.int 0))) (vCons (vSto (vC (.int 0))) (vCons (vSto (vC (.int 1))) (vCons (vSto (vC (.int 2))) (vCons (vSto (vC (.int 3))) vNil)))))) (v2 oMod (vCall run_l_cell_at (vCons (vArg (vName 0)) (vCons (vArg (vC (.int 9))) vNil))) (vC (.int 5)))))) (vCons (vSto (vCall run_l_terms (vCons (vArg (vName 0)) (vCons (vArg (vName 3)) (vCons (vArg (vName 5)) vNil))))) vNil)))))
    (zSeq (zOld (vAsg 8 (vComp (sE (vName 6)) cg_law_3 ct_law_3 ce_law_3 [11])))
    (zSeq (zOld (vAsg 9 (vCall run_l_copies (vCons (vArg (vName 6)) vNil)))) law_t1)))))))))
theorem b_law_eq : b_law = b_law' := rfl
def laS (a0 a1 a2 a3 a4 a5 : Sl) (W : List Rw) (n : List Nat) (ts : List D) (s8 s9 s10 s11 s12 : Sl) : Sts :=
  [a0, a1, a2, a3, a4, a5, .val (.lst (W.map rwD)), .val (.tup [.str n, .tup ts]), s8, s9, s10, s11, s12]
theorem As.new (K : List Rw) (μ : Sto) : As K μ.length (μ.length + 1) (μ ++ some (.lst (asI (μ.length + 1) K)) :: asS K) := ⟨sto_at μ _ _, fun i x h => by
  rw [List.getElem?_append_right (by omega), show μ.length + 1 + i - μ.length = i + 1 by omega, List.getElem?_cons_succ]
  exact h⟩
theorem noLs_due {K : List Rw} : ∀ d ∈ K.map dueD, ∃ w ∈ K, d = dueD w := fun d hd => by
  obtain ⟨w, hw, rfl⟩ := List.mem_map.mp hd
  exact ⟨w, hw, rfl⟩
theorem law_t3_eq (a0 a1 a2 a3 a4 a5 : Sl) (W : List Rw) (hW : ∀ w ∈ W, RwOk w) (hl : W.length ≤ 100) (n : List Nat) (ts : List D) (ht : ∀ t ∈ ts, Trm t) (hts : ts.length ≤ 4) (ν : Sto) (its : List SD) (hi : its.length ≤ 1000) (hν : ν[0]? = some (some (.lst its))) (s11 s12 : Sl) :
    finO (law_t3 (laS a0 a1 a2 a3 a4 a5 W n ts (.own (.lst ((W.filter (keep n ts)).map dueD))) (.val (.lst (W.map rwD))) (.adr (.sd (.lab 0))) s11 s12, ν)) = .ok (.fz (.bl true)) := by
  have hK : ∀ w ∈ W.filter (keep n ts), RwOk w := fun w hw => hW w (List.mem_filter.mp hw).1
  have hKl : (W.filter (keep n ts)).length ≤ 100 := Nat.le_trans (List.length_filter_le _ _) hl
  have hly := lays_W hW
  have hev := eqvsRefl 63 _ hly
  have hs := same_eq (W.filter (keep n ts)) hK (by omega)
  have ha := asked_eq W hW (by omega) n ts ht hts (ν.set 0 (some (.lst (its ++ [.fz (.tup [.tup [], .int 0])]))))
  have hAs := (As.new (W.filter (keep n ts)) (ν.set 0 (some (.lst (its ++ [.fz (.tup [.tup [], .int 0])]))))).deep
  unfold law_t3 laS
  walk_at "vl"
  rw [hν]
  walk_at "vl"
  rw [if_pos (by omega)]
  try walk_at "vl"
  simp only [hly, Bool.and_self, if_true]
  rw [hev]
  try walk_at "vl"
  rw [ha]
  walk_at "vl"
  rw [hAs]
  walk_at "vl"
  rw [hs]
  walk_at "vl"
  try rfl
/-- lists that stand, or frozen rows -/
def Its (B : Nat) (ν : Sto) (it : SD) : Prop := (∃ r d, it = .fz (.tup [r, d]) ∧ Atom d) ∨ ∃ r m xs, it = .tup [.fz r, .lab m] ∧ 0 < m ∧ ν[m]? = some (some (.lst (List.map SD.fz xs))) ∧ xs.length ≤ B
theorem pair_deep {ν : Sto} {r : D} {m : Nat} {xs : List D} (h : ν[m]? = some (some (.lst (xs.map .fz)))) : deep ν (.tup [.fz r, .lab m]) = some (.tup [r, .lst xs]) := by
  have h1 : SD.deepW (deepL ν 6) (.lab m) = some (.lst xs) := deep_flat h
  show (SD.deepWs (deepL ν 6) [.fz r, .lab m]).map D.tup = _
  have h2 : SD.deepWs (deepL ν 6) [.fz r, .lab m] = some [r, .lst xs] := by
    show (SD.deepW (deepL ν 6) (.fz r)).bind (fun x => (SD.deepWs (deepL ν 6) [.lab m]).map (x :: ·)) = _
    have h3 : SD.deepWs (deepL ν 6) [.lab m] = some [.lst xs] := by
      show (SD.deepW (deepL ν 6) (.lab m)).bind (fun x => (SD.deepWs (deepL ν 6) []).map (x :: ·)) = _
      rw [h1]; rfl
    rw [h3]; rfl
  rw [h2]; rfl
theorem app_loop (a0 a1 a2 a3 a4 a5 a6 a7 a8 a9 s12 : Sl) (items : List SD) : ∀ (its : List SD) (B : Nat) (ν : Sto) (s11 : Sl), (∀ it ∈ its, it ∈ items) → ν[0]? = some (some (.lst items)) → (∀ it ∈ items, Its B ν it) → B + its.length ≤ 10000 →
    ∃ (y11 : Sl) (ν' : Sto), ν'[0]? = some (some (.lst items)) ∧ zloop (zgN 11) zb_law_1 (asWas 0 items) its ([a0, a1, a2, a3, a4, a5, a6, a7, a8, a9, .adr (.sd (.lab 0)), s11, s12], ν) = .ok (.nx ([a0, a1, a2, a3, a4, a5, a6, a7, a8, a9, .adr (.sd (.lab 0)), y11, s12], ν'))
  | [], B, ν, s11, _, h0, _, _ => ⟨s11, ν, h0, by rw [zloop_nil, if_pos (asWas_of h0)]⟩
  | it :: its, B, ν, s11, hin, h0, hI, hB => by
    rw [List.length_cons] at hB
    rw [zloop_cons, if_pos (asWas_of h0)]
    rcases hI it (hin it List.mem_cons_self) with ⟨r, d, rfl, hd⟩ | ⟨r, m, xs, rfl, hm, hx, hxl⟩
    · obtain ⟨y11, ν', q1, q2⟩ := app_loop a0 a1 a2 a3 a4 a5 a6 a7 a8 a9 s12 items its B ν (.val (.tup [r, d])) (fun x hx => hin x (List.mem_cons_of_mem _ hx)) h0 hI (by omega)
      refine ⟨y11, ν', q1, ?_⟩
      have eb : zb_law_1 ([a0, a1, a2, a3, a4, a5, a6, a7, a8, a9, .adr (.sd (.lab 0)), .val (.tup [r, d]), s12], ν) = .ok (.nx ([a0, a1, a2, a3, a4, a5, a6, a7, a8, a9, .adr (.sd (.lab 0)), .val (.tup [r, d]), s12], ν)) := by
        unfold zb_law_1
        cases hd <;> walk_at "vl"
      rw [show zgN 11 (.fz (.tup [r, d])) ([a0, a1, a2, a3, a4, a5, a6, a7, a8, a9, .adr (.sd (.lab 0)), s11, s12], ν) = some ([a0, a1, a2, a3, a4, a5, a6, a7, a8, a9, .adr (.sd (.lab 0)), .val (.tup [r, d]), s12], ν) from rfl, zstep_some, eb, RS.bind_ok, zturn_nx]
      exact q2
    · have hdp := pair_deep (r := r) hx
      have hxm : m < ν.length := (List.getElem?_eq_some_iff.mp hx).1
      have eb : zb_law_1 ([a0, a1, a2, a3, a4, a5, a6, a7, a8, a9, .adr (.sd (.lab 0)), .adr (.sd (.tup [.fz r, .lab m])), s12], ν) = .ok (.nx ([a0, a1, a2, a3, a4, a5, a6, a7, a8, a9, .adr (.sd (.lab 0)), .adr (.sd (.tup [.fz r, .lab m])), s12], ν.set m (some (.lst ((xs ++ [D.int 0]).map .fz))))) := by
        unfold zb_law_1
        walk_at "vl"
        rw [hdp]
        walk_at "vl"
        rw [show L2.atI [SD.fz r, SD.lab m] 1 = some (.lab m) from rfl]
        walk_at "vl"
        rw [hx]
        walk_at "vl"
        rw [List.length_map, if_pos (by omega)]
        try walk_at "vl"
        rw [List.map_append]
        rfl
      obtain ⟨y11, ν', q1, q2⟩ := app_loop a0 a1 a2 a3 a4 a5 a6 a7 a8 a9 s12 items its (B + 1) (ν.set m (some (.lst ((xs ++ [D.int 0]).map .fz)))) (.adr (.sd (.tup [.fz r, .lab m]))) (fun x hx => hin x (List.mem_cons_of_mem _ hx)) (by rw [List.getElem?_set_ne (by omega)]; exact h0) (fun x hx2 => by
        rcases hI x hx2 with h | ⟨r2, m2, xs2, e1, e2, e3, e4⟩
        · exact .inl h
        · by_cases c : m = m2
          · subst c
            rw [hx] at e3
            have e3 : List.map SD.fz xs = List.map SD.fz xs2 := by injection e3 with e3; injection e3 with e3; injection e3
            have hl2 : xs.length = xs2.length := by have := congrArg List.length e3; rw [List.length_map, List.length_map] at this; exact this
            exact .inr ⟨r2, m, xs ++ [D.int 0], e1, e2, List.getElem?_set_self hxm, by rw [List.length_append, List.length_singleton]; omega⟩
          · exact .inr ⟨r2, m2, xs2, e1, e2, by rw [List.getElem?_set_ne c]; exact e3, by omega⟩) (by omega)
      refine ⟨y11, ν', q1, ?_⟩
      rw [show zgN 11 (.tup [.fz r, .lab m]) ([a0, a1, a2, a3, a4, a5, a6, a7, a8, a9, .adr (.sd (.lab 0)), s11, s12], ν) = some ([a0, a1, a2, a3, a4, a5, a6, a7, a8, a9, .adr (.sd (.lab 0)), .adr (.sd (.tup [.fz r, .lab m])), s12], ν) from rfl, zstep_some, eb, RS.bind_ok, zturn_nx]
      exact q2
theorem its_ok (ν : Sto) : ∀ (K : List Rw) (b : Nat), 0 < b → (∀ w ∈ K, RwOk w) → (∀ (i : Nat) (x : Option Ob), (asS K)[i]? = some x → ν[b + i]? = some x) → ∀ it ∈ asI b K, Its 10 ν it
  | [], b, _, _, _, it, h => by cases h
  | w :: K, b, hb, hK, h, it, hit => by
    rw [asI] at hit
    rcases List.mem_cons.mp hit with rfl | hit
    · unfold asI1
      rcases (hK w List.mem_cons_self).h with ⟨ds, e, hds⟩ | ha
      · rw [e]
        refine .inr ⟨.tup w.r, b, ds, rfl, hb, ?_, hds.len⟩
        have := h 0 (some (.lst (ds.map .fz))) (by rw [asS_cons, show asS1 w = [some (.lst (ds.map .fz))] by unfold asS1; rw [e]; rfl]; rfl)
        exact this
      · refine .inl ⟨.tup w.r, w.h, ?_, ha⟩
        cases hh : w.h <;> rw [hh] at ha <;> first | rfl | cases ha
    · exact its_ok ν K (b + (asS1 w).length) (by omega) (fun v hv => hK v (List.mem_cons_of_mem _ hv)) (fun i x hx => by
        have := h ((asS1 w).length + i) x (by rw [asS_cons, List.getElem?_append_right (by omega), Nat.add_sub_cancel_left]; exact hx)
        rw [← Nat.add_assoc] at this
        exact this) it hit
theorem law_t1_eq (a0 a1 a2 a3 a4 a5 : Sl) (W : List Rw) (hW : ∀ w ∈ W, RwOk w) (hl : W.length ≤ 100) (n : List Nat) (ts : List D) (ht : ∀ t ∈ ts, Trm t) (hts : ts.length ≤ 4) :
    finO (law_t1 (laS a0 a1 a2 a3 a4 a5 W n ts (.own (.lst ((W.filter (keep n ts)).map dueD))) (.own (.lst (W.map rwD))) .no .no .no, [])) = .ok (.fz (.bl true)) := by
  have hK : ∀ w ∈ W.filter (keep n ts), RwOk w := fun w hw => hW w (List.mem_filter.mp hw).1
  have hKl : (W.filter (keep n ts)).length ≤ 100 := Nat.le_trans (List.length_filter_le _ _) hl
  have hly := lays_W hW
  have hev := eqvsRefl 63 _ hly
  have hs := same_eq (W.filter (keep n ts)) hK (by omega)
  have ha : run_asked [.fz (.lst (W.map rwD)), .fz (.tup [.str n, .tup ts])] [] = .ok (.lab 0, some (.lst (asI 1 (W.filter (keep n ts)))) :: asS (W.filter (keep n ts))) := asked_eq W hW (by omega) n ts ht hts []
  have hA : As (W.filter (keep n ts)) 0 1 (some (.lst (asI 1 (W.filter (keep n ts)))) :: asS (W.filter (keep n ts))) := As.new (W.filter (keep n ts)) []
  have hAs := hA.deep
  have hI := its_ok _ _ 1 (by decide) hK hA.inn
  obtain ⟨y11, ν', q1, q2⟩ := app_loop a0 a1 a2 a3 a4 a5 (.val (.lst (W.map rwD))) (.val (.tup [.str n, .tup ts])) (.own (.lst ((W.filter (keep n ts)).map dueD))) (.val (.lst (W.map rwD))) .no (asI 1 (W.filter (keep n ts))) (asI 1 (W.filter (keep n ts))) 10 _ .no (fun _ h => h) hA.at_ hI (by rw [asI_len]; omega)
  have t3 := law_t3_eq a0 a1 a2 a3 a4 a5 W hW hl n ts ht hts ν' (asI 1 (W.filter (keep n ts))) (by rw [asI_len]; omega) q1 y11 .no
  have t2 : finO (law_t2 (laS a0 a1 a2 a3 a4 a5 W n ts (.own (.lst ((W.filter (keep n ts)).map dueD))) (.val (.lst (W.map rwD))) (.adr (.sd (.lab 0))) .no .no, some (.lst (asI 1 (W.filter (keep n ts)))) :: asS (W.filter (keep n ts)))) = .ok (.fz (.bl true)) := by
    unfold law_t2
    unfold laS at t3 ⊢
    walk_at "vl"
    rw [q2]
    walk_at "vl"
    exact t3
  unfold law_t1
  unfold laS at t2 ⊢
  walk_at "vl"
  rw [ha]
  walk_at "vl"
  rw [hAs]
  walk_at "vl"
  rw [hs]
  walk_at "vl"
  simp only [hly, Bool.and_self, if_true]
  rw [hev]
  try walk_at "vl"
  exact t2
theorem words_of {f : List Nat} : ∀ {out : List D}, (∀ d ∈ out, ∃ w, d = .str w ∧ wordT f w = true) → ∃ N : List (List Nat), out = N.map .str ∧ ∀ w ∈ N, wordT f w = true
  | [], _ => ⟨[], rfl, by simp⟩
  | d :: ds, h => by
    obtain ⟨a, rfl, ha⟩ := h d List.mem_cons_self
    obtain ⟨cs, e, hc⟩ := words_of (out := ds) fun d hd => h d (List.mem_cons_of_mem _ hd)
    exact ⟨a :: cs, by rw [e]; rfl, fun w hw => by
      rcases List.mem_cons.mp hw with rfl | hw
      · exact ha
      · exact hc w hw⟩
theorem upper_eq : upperT tx0 = tx2 := by decide +kernel
theorem upper_ok : (decide (tx0.length ≤ 1000) && okTx tx2) = true := by decide +kernel
theorem at5 (c : Int) : ∃ i : Int, (0 ≤ i ∧ i ≤ 3) ∧ L2.atI [D.int 0, D.int 0, D.int 1, D.int 2, D.int 3] (c % 5) = some (.int i) := by
  obtain ⟨k, hk, ek⟩ := atI_some [D.int 0, D.int 0, D.int 1, D.int 2, D.int 3] (c % 5) (by omega) (by show _ < (5 : Int); omega)
  simp only [List.mem_cons, List.not_mem_nil, or_false] at hk
  rcases hk with rfl | rfl | rfl | rfl | rfl <;> exact ⟨_, by decide, ek⟩
theorem law_true (ns : List Int) (hl : ns.length ≤ 63) : run_law [.lst (ns.map .int)] = .ok (.fz (.bl true)) := by
  obtain ⟨o1, e1, l1, h1⟩ := comp_ex (step := compStep cg_law_1 ct_law_1 ce_law_1 [12]) (fun d => ∃ w, d = .str w ∧ wordT tx0 w = true) [.val (.lst (ns.map .int)), .val (.str tx0), .no, .no, .no, .no, .no, .no, .no, .no, .no, .no, .no] (rangeD 0 4) (by
    intro d hd
    obtain ⟨j, hj, rfl⟩ := rangeD_mem hd
    obtain ⟨w, hw, ew⟩ := name_ex (cell ns 0) (cell ns 1) (j : Int) (by omega) (by omega) tx0 rfl
    unfold compStep cg_law_1 ct_law_1 ce_law_1
    walk_at "vl"
    simp only [gGive_ap, kStepG_ap, vYes_ap, kStepT_ap, R.bind_ok, if_true]
    walk_at "vl"
    rw [cell_eq _ _ (by decide)]
    walk_at "vl"
    rw [cell_eq _ _ (by decide)]
    walk_at "vl"
    rw [ew]
    walk_at "vl"
    simp only [kStepE_ap]
    walk_at "vl"
    exact ⟨_, rfl, w, rfl, hw⟩) (by rw [rangeD_len]; decide)
  obtain ⟨N, rfl, hN⟩ := words_of h1
  rw [rangeD_len, List.length_map] at l1
  obtain ⟨t0, t1, t2, t3, rfl⟩ : ∃ a b c d, N = [a, b, c, d] := by
    match N, l1 with
    | [a, b, c, d], _ => exact ⟨a, b, c, d, rfl⟩
  have e1 : compLoop (compStep cg_law_1 ct_law_1 ce_law_1 [12]) (rangeD 0 4) [] [.val (.lst (ns.map .int)), .val (.str tx0), .no, .no, .no, .no, .no, .no, .no, .no, .no, .no, .no] = .ok ([.str t0, .str t1, .str t2, .str t3], [.val (.lst (ns.map .int)), .val (.str tx0), .no, .no, .no, .no, .no, .no, .no, .no, .no, .no, .no]) := e1
  obtain ⟨o2, e2, l2, h2⟩ := comp_ex (step := compStep cg_law_2 ct_law_2 ce_law_2 [12]) (fun d => ∃ w, d = .str w ∧ wordT tx2 w = true) [.val (.lst (ns.map .int)), .val (.str tx0), .own (.lst [.str t0, .str t1, .str t2, .str t3]), .no, .no, .no, .no, .no, .no, .no, .no, .no, .no] (rangeD 0 3) (by
    intro d hd
    obtain ⟨j, hj, rfl⟩ := rangeD_mem hd
    obtain ⟨w, hw, ew⟩ := name_ex (cell ns 2) (cell ns 1) (j : Int) (by omega) (by omega) tx2 rfl
    unfold compStep cg_law_2 ct_law_2 ce_law_2
    walk_at "vl"
    simp only [gGive_ap, kStepG_ap, vYes_ap, kStepT_ap, R.bind_ok, if_true]
    walk_at "vl"
    rw [cell_eq _ _ (by decide)]
    walk_at "vl"
    rw [cell_eq _ _ (by decide)]
    walk_at "vl"
    rw [upper_eq, if_pos upper_ok]
    try walk_at "vl"
    rw [ew]
    walk_at "vl"
    simp only [kStepE_ap]
    walk_at "vl"
    exact ⟨_, rfl, w, rfl, hw⟩) (by rw [rangeD_len]; decide)
  obtain ⟨M, rfl, hM⟩ := words_of h2
  rw [rangeD_len, List.length_map] at l2
  obtain ⟨q, ⟨q1, q2⟩, eq⟩ := sg_at (cell ns 2)
  unfold run_law
  rw [b_law_eq]
  unfold b_law'
  walk_at "vl"
  rw [show Int.toNat 4 = 4 from rfl, e1]
  walk_at "vl"
  rw [show Int.toNat 3 = 3 from rfl, e2]
  walk_at "vl"
  rw [cell_eq _ _ (by decide)]
  walk_at "vl"
  rw [cell_eq _ _ (by decide)]
  walk_at "vl"
  rw [eq]
  walk_at "vl"
  rw [mulOk_right (by omega) (by omega), if_pos rfl]
  try walk_at "vl"
  generalize cell ns 3 % 10 ^ Int.toNat 30 * q = i
  have g0 : wordT tx0 t0 = true := hN t0 (by simp)
  have g1 : wordT tx0 t1 = true := hN t1 (by simp)
  have g2 : wordT tx0 t2 = true := hN t2 (by simp)
  have hV : ∀ v ∈ [D.int i, D.str t0, D.int (i + 1), D.str t1], Good v := fun v hv => by
    simp only [List.mem_cons, List.not_mem_nil, or_false] at hv
    rcases hv with rfl | rfl | rfl | rfl
    · exact .inl ⟨_, rfl⟩
    · exact .inr ⟨_, rfl, g0⟩
    · exact .inl ⟨_, rfl⟩
    · exact .inr ⟨_, rfl, g1⟩
  obtain ⟨W, hW, hWl, eW⟩ := told_ex ns hl t0 t1 t2 t3 g0 g1 g2 [.int i, .str t0, .int (i + 1), .str t1] rfl hV t2
  obtain ⟨ts, ht, hts, et⟩ := terms_ex ns (M.map .str) [.int i, .str t0, .int (i + 1), .str t1] (by rw [List.length_map]; exact l2) (fun t h => by
    obtain ⟨x, hx, rfl⟩ := List.mem_map.mp h
    exact .inl (hM x hx)) rfl hV
  obtain ⟨k, ⟨k0, k3⟩, ek⟩ := at5 (cell ns 9)
  have en : ∃ n, L2.atI [D.str t0, D.str t1, D.str t2, D.str t3] k = some (.str n) := by
    rcases (show k = 0 ∨ k = 1 ∨ k = 2 ∨ k = 3 by omega) with rfl | rfl | rfl | rfl
    · exact ⟨t0, rfl⟩
    · exact ⟨t1, rfl⟩
    · exact ⟨t2, rfl⟩
    · exact ⟨t3, rfl⟩
  obtain ⟨n, en⟩ := en
  have ec := copies_eq W hW (by omega)
  rw [eW]
  walk_at "vl"
  rw [cell_eq _ _ (by decide)]
  walk_at "vl"
  rw [ek]
  walk_at "vl"
  rw [en]
  walk_at "vl"
  rw [et]
  walk_at "vl"
  have hc := compBy (step := compStep cg_law_3 ct_law_3 ce_law_3 [11]) rwD (fun w => if keep n ts w = true then some (dueD w) else none) [.val (.lst (ns.map .int)), .val (.str tx0), .val (.lst [.str t0, .str t1, .str t2, .str t3]), .val (.lst (M.map .str)), .val (.int i), .val (.lst [.int i, .str t0, .int (i + 1), .str t1]), .val (.lst (W.map rwD)), .val (.tup [.str n, .tup ts]), .no, .no, .no, .no, .no] W [] (by
    intro w hw
    have em := matches_eq ts w.r ht (hW w hw).r (by omega)
    unfold compStep cg_law_3 ct_law_3 ce_law_3
    rw [show rwD w = .tup [.str w.t, .tup w.r, w.h] from rfl]
    unfold keep
    walk_at "vl"
    simp only [gGive_ap, kStepG_ap, R.bind_ok]
    walk_at "vl"
    by_cases hn : w.t = n
    · rw [decide_eq_true hn, Bool.true_and]
      try rw [if_pos hn]
      rw [em]
      walk_at "vl"
      cases mtB ts w.r with
      | false => rfl
      | true =>
        simp only [kStepT_ap, if_true]
        walk_at "vl"
        simp only [kStepE_ap]
        try walk_at "vl"
        try rfl
    · rw [decide_eq_false hn]
      try rw [if_neg hn]
      rfl) (by simp; omega)
  have hfm : W.filterMap (fun w => if keep n ts w = true then some (dueD w) else none) = (W.filter (keep n ts)).map dueD := by
    clear hc eW ec hWl hW
    induction W with
    | nil => rfl
    | cons w W ih =>
      rw [List.filterMap_cons, List.filter_cons, ih]
      by_cases h : keep n ts w = true
      · rw [if_pos h, if_pos h]; rfl
      · rw [if_neg h, if_neg h]
  rw [List.nil_append, hfm] at hc
  rw [hc]
  walk_at "vl"
  rw [ec]
  walk_at "vl"
  exact law_t1_eq _ _ _ _ _ _ W hW hWl n ts ht hts
end Lw
open PySem PySem.W PyProof.Rows
set_option maxHeartbeats 0 in
theorem PySem.Challenge.cw_whyrows_k55_asked_holds : PySem.Challenge.rw_whyrows_k55_asked.Holds := by
  w_on; o_law; k_head; (case hw => w_witness2)
  k_fill
  refine L2.walk_of (l := PySem.Challenge.rw_whyrows_k55_asked) (n := 63) (k := 5) (x := "_law_script") (CX := fun _ => L2.CX0) (sp := fun w => Vl.spF _ Vl.cls0 Lw.run_law) rfl (by decide) rfl ⟨rfl, by decide, by decide⟩ (fun w h Y => PySem.W.kIn_of Y) ?F (fun _ _ a ns hl _ hS => Vl.law_sp hS (Lw.law_true ns hl)) (fun _ _ _ _ _ h => h)
  case F =>
    intro w mg fa h KX G hmg
    refine' Lw.all_mk KX G hmg ?a0 ?l0 ?c0 ?k0 ?a1 ?l1 ?c1 ?k1 ?a2 ?l2 ?c2 ?k2 ?a3 ?l3 ?c3 ?k3 ?a4 ?l4 ?c4 ?k4 ?a5 ?l5 ?c5 ?k5 ?a6 ?l6 ?c6 ?k6 ?a7 ?l7 ?c7 ?k7 ?a8 ?l8 ?c8 ?k8 ?a9 ?l9 ?c9 ?k9 ?a10 ?l10 ?c10 ?k10 ?a11 ?l11 ?c11 ?k11 ?a12 ?l12 ?c12 ?k12 ?a13 ?l13 ?c13 ?k13 ?a14 ?l14 ?c14 ?k14 ?a15 ?l15 ?c15 ?k15 ?z_any ?z_bool ?z_dict ?z_int ?z_isinstance ?z_len ?z_list ?z_range ?z_str ?z_tuple ?z_zip ?y_SMALL ?y_LARGE ?y_FIGURES ?y_LONGEST
    (case a0 => k_is); (case l0 => k_is); (case c0 => k_is); (case k0 => k_is); (case a1 => k_is); (case l1 => k_is); (case c1 => k_is); (case k1 => k_is); (case a2 => k_is); (case l2 => k_is); (case c2 => k_is); (case k2 => k_is); (case a3 => k_is); (case l3 => k_is); (case c3 => k_is); (case k3 => k_is); (case a4 => k_is); (case l4 => k_is); (case c4 => k_is); (case k4 => k_is); (case a5 => k_is); (case l5 => k_is); (case c5 => k_is); (case k5 => k_is); (case a6 => k_is); (case l6 => k_is); (case c6 => k_is); (case k6 => k_is); (case a7 => k_is); (case l7 => k_is); (case c7 => k_is); (case k7 => k_is); (case a8 => k_is); (case l8 => k_is); (case c8 => k_is); (case k8 => k_is); (case a9 => k_is); (case l9 => k_is); (case c9 => k_is); (case k9 => k_is); (case a10 => k_is); (case l10 => k_is); (case c10 => k_is); (case k10 => k_is); (case a11 => k_is); (case l11 => k_is); (case c11 => k_is); (case k11 => k_is); (case a12 => k_is); (case l12 => k_is); (case c12 => k_is); (case k12 => k_is); (case a13 => k_is); (case l13 => k_is); (case c13 => k_is); (case k13 => k_is); (case a14 => k_is); (case l14 => k_is); (case c14 => k_is); (case k14 => k_is); (case a15 => k_is); (case l15 => k_is); (case c15 => k_is); (case k15 => k_is); (case z_any => k_is); (case z_bool => k_is); (case z_dict => k_is); (case z_int => k_is); (case z_isinstance => k_is); (case z_len => k_is); (case z_list => k_is); (case z_range => k_is); (case z_str => k_is); (case z_tuple => k_is); (case z_zip => k_is); (case y_SMALL => k_is); (case y_LARGE => k_is); (case y_FIGURES => k_is); (case y_LONGEST => k_is)
