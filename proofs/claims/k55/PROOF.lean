import PyProof.Rows.All
import Wide.All
import OpenK.AllK
import Wide.FinOn
import HandS.Base
import HandS.Call
import HandS.List
import HandS.Comp
import HandS.Ends
import HandS.Dict
import HandS.Iter
import HandS.Text
import HandS.Words
import HandS.WordsList
import HandS.WordsDict
import HandS.Lambda
import HandS.WordsExc
import HandS.TryOnly
import HandS.ExcOwn
import HandS.Flow
import HandS.Star
import HandS.TupAny
import HandS.Wide
import HandS.Deep
import HandS.TupMul
import HandS.TupLe
import HandS.IsInst
import HandS.More
import HandS.NoneIn
import HandS.Style
import HandS.Bytes
import HandS.Zip
import KE.GoesEnumKw
import HandS.TupSets
import KE.SortData
import HandS.OwnEq
import HandS.SlotsOwn
import HandS.FStr
import HandS.ClsMeth
import HandS.BytesMake
import HandS.Codes
import KE.RegKIsAll
import HandS.ExcIs
import HandS.HotCalls
import HandS.EndTab
import HandS.EndOwn
import HandS.Property
import HandS.Defaults
import KE.KOpsOwn
import Flt.Ops
import PyProof.StrReplace2
import PyProof.FactsAll.bool_1
import PyProof.FactsAll.bool_2
import KE.LtData
import KE.BytesMul
import KE.KBytesStep
import PySem.Challenge.RW_forklots_k55_streams_hand_out_positions
set_option Elab.async false
set_option maxRecDepth 100000
set_option maxHeartbeats 4000000
set_option linter.unusedVariables false
set_option linter.unusedSimpArgs false
set_option linter.all false
/-! MiCore: mirror values T, a store of mutable objects, results R; how they stand in the abstract heap. -/
namespace Mi
open PySem L2

/-- a mirror value: trees that never change, and numbers of store objects -/
inductive T where
  | non
  | bl (b : Bool)
  | int (i : Int)
  | str (s : Str)
  | byt (b : Array UInt8)
  | ty (n : String)
  | tup (ts : List T)
  | lst (ts : List T)
  | frz (ts : List T)
  | dct (ks : List Key) (ts : List T)
  | ref (i : Nat)
  | adr (i : Nat)

/-- a store object -/
inductive O where
  | lst (ts : List T)
  | dct (kvs : List (Key × T))
  | ins (c : Nat) (fs : List (Str × T))
  | dtt (kvs : List (List Key × T))

abbrev Sto := List O
abbrev Sl := List (Option T)

/-- an exception: its class, by number; its own fields -/
structure Exn where
  c : Nat
  fs : List (Str × T)

inductive R (α : Type) where
  | ok (a : α) (st : Sto)
  | exc (e : Exn) (st : Sto)
  | bad

namespace R
def bind {α β : Type} (r : R α) (f : α → Sto → R β) : R β :=
  match r with
  | .ok a st => f a st
  | .exc e st => .exc e st
  | .bad => .bad
@[simp] theorem bind_ok {α β : Type} (a : α) (st : Sto) (f : α → Sto → R β) : (R.ok a st).bind f = f a st := rfl
@[simp] theorem bind_exc {α β : Type} (e : Exn) (st : Sto) (f : α → Sto → R β) : (R.exc e st : R α).bind f = .exc e st := rfl
@[simp] theorem bind_bad {α β : Type} (f : α → Sto → R β) : (R.bad : R α).bind f = .bad := rfl
end R

/-- fn: fixed addresses of the module, adr i stands at this one; hid: lists that are being made, by no one else known -/
structure Ad where
  fn : Nat → Addr
  hid : List Addr
  tabs : List (Addr × Str)
def Ad.hide (ad : Ad) (l : List Addr) : Ad := ⟨ad.fn, l, ad.tabs⟩
/-- no table of code objects -/
def NT (o : HO) : Prop := ∀ ps, o ≠ .tbl ps
/-- nothing is tracked at a but a table of code objects, perhaps -/
def N0 (H : Hp) (a : Addr) : Prop := ∀ o, H a = some o → ∃ ps, o = .tbl ps
theorem n0_none {H : Hp} {a : Addr} (h : H a = none) : N0 H a := fun o e => by rw [h] at e; cases e
theorem N0.no {H : Hp} {a : Addr} {o : HO} (n : N0 H a) (h : H a = some o) (t : NT o) : False := by
  obtain ⟨ps, e⟩ := n o h
  exact t ps e
theorem tabs_upd {T : List (Addr × Str)} {H : Hp} {p : Addr} {u : HO} (t : LamX.Tabs T H) (h1 : ∀ ps, H p ≠ some (.tbl ps)) (h2 : ∀ φ, H p ≠ some (.ext φ)) : LamX.Tabs T (upd H p u) := fun q hq => by
  obtain ⟨ps, e1, e2, e3⟩ := t q hq
  refine ⟨ps, by rw [upd_ne (fun z => h1 ps (by rw [← z]; exact e1))]; exact e1, e2, fun pos cv hc => ?_⟩
  obtain ⟨c, z1, z2⟩ := e3 pos cv hc
  exact ⟨c, z1, by rw [upd_ne (fun z => h2 _ (by rw [← z]; exact z2))]; exact z2⟩

/-- nothing is tracked -/
abbrev noH : Hp := fun _ => none
/-- a tuple, a list that stands: tracked, but no object of the store; or the module's own -/
def TupAt (K : PySem.W.Frag) (as : List Addr) (H : Hp) (a : Addr) (xs : List V) : Prop :=
  ((a ∈ as → False) ∧ Rd H a (.tup xs)) ∨ SqT K noH a xs
def LstAt (hid as : List Addr) (H : Hp) (a : Addr) (xs : List V) : Prop := ((a ∈ as → False) ∧ (a ∈ hid → False)) ∧ H a = some (.lst xs)
/-- a list that is only read: the script, the module's own -/
def FrzAt (K : PySem.W.Frag) (as : List Addr) (H : Hp) (a : Addr) (xs : List V) : Prop :=
  ((a ∈ as → False) ∧ ∃ o, H a = some (.frz o (.lst xs))) ∨ SqL K noH a xs

mutual
/-- v stands for the mirror value, over the abstract heap H with the store's addresses as -/
inductive Rep (K : PySem.W.Frag) (ad : Ad) (as : List Addr) (H : Hp) : V → T → Prop
  | non : Rep K ad as H .non .non
  | bl (b : Bool) : Rep K ad as H (.bl b) (.bl b)
  | int (i : Int) : Rep K ad as H (.int i) (.int i)
  | str (s : Str) : Rep K ad as H (.str s) (.str s)
  | byt (b : Array UInt8) : Rep K ad as H (.byt b) (.byt b)
  | ty (n : String) : Rep K ad as H (.ty n) (.ty n)
  | tup {a : Addr} {xs : List V} {ts : List T} : TupAt K as H a xs → Reps K ad as H xs ts → Rep K ad as H (.ref a) (.tup ts)
  | lst {a : Addr} {xs : List V} {ts : List T} : LstAt ad.hid as H a xs → Reps K ad as H xs ts → Rep K ad as H (.ref a) (.lst ts)
  | frz {a : Addr} {xs : List V} {ts : List T} : FrzAt K as H a xs → Reps K ad as H xs ts → Rep K ad as H (.ref a) (.frz ts)
  | dct {a : Addr} {kvs : List (Key × V)} {ks : List Key} {ts : List T} : ((a ∈ as → False) ∧ (a ∈ ad.hid → False)) → H a = some (.dK kvs) → kvs.map (·.1) = ks → Reps K ad as H (kvs.map (·.2)) ts → Rep K ad as H (.ref a) (.dct ks ts)
  | ref {i : Nat} {a : Addr} : as[i]? = some a → Rep K ad as H (.ref a) (.ref i)
  | adr (i : Nat) : Rep K ad as H (.ref (ad.fn i)) (.adr i)
inductive Reps (K : PySem.W.Frag) (ad : Ad) (as : List Addr) (H : Hp) : List V → List T → Prop
  | nil : Reps K ad as H [] []
  | cons {v : V} {vs : List V} {t : T} {ts : List T} : Rep K ad as H v t → Reps K ad as H vs ts → Reps K ad as H (v :: vs) (t :: ts)
end

/-- fields by name -/
inductive RepF (K : PySem.W.Frag) (ad : Ad) (as : List Addr) (H : Hp) : List (Str × V) → List (Str × T) → Prop
  | nil : RepF K ad as H [] []
  | cons {f : Str} {v : V} {vs : List (Str × V)} {t : T} {ts : List (Str × T)} : Rep K ad as H v t → RepF K ad as H vs ts → RepF K ad as H ((f, v) :: vs) ((f, t) :: ts)

def ORep (K : PySem.W.Frag) (ad : Ad) (as : List Addr) (H : Hp) (a : Addr) : O → Prop
  | .lst ts => ∃ xs, H a = some (.lst xs) ∧ Reps K ad as H xs ts
  | .dct kvs => ∃ xs : List (Key × V), H a = some (.dK xs) ∧ xs.map (·.1) = kvs.map (·.1) ∧ Reps K ad as H (xs.map (·.2)) (kvs.map (·.2))
  | .dtt kvs => ∃ xs : List (List Key × V), H a = some (.dT xs) ∧ xs.map (·.1) = kvs.map (·.1) ∧ Reps K ad as H (xs.map (·.2)) (kvs.map (·.2))
  | .ins c fs => ∃ dx gs, H a = some (.ins (ad.fn c) dx gs) ∧ H dx = some (.own a) ∧ (dx ∈ as → False) ∧ RepF K ad as H gs fs

/-- the store stands in the abstract heap -/
structure Ab (K : PySem.W.Frag) (ad : Ad) (as : List Addr) (st : Sto) (H : Hp) : Prop where
  len : as.length = st.length
  nd : as.Nodup
  obj : ∀ (i : Nat) (a : Addr) (o : O), as[i]? = some a → st[i]? = some o → ORep K ad as H a o
  hid : ∀ a ∈ ad.hid, (a ∈ as → False) ∧ ∃ u, H a = some u ∧ NT u
  tabs : LamX.Tabs ad.tabs H

/-- what stays: the store grows by new places; all that is tracked elsewhere stays as it was -/
structure Ext (as : List Addr) (H : Hp) (as' : List Addr) (H' : Hp) : Prop where
  more : ∃ l, as' = as ++ l ∧ ∀ a ∈ l, N0 H a
  keep : ∀ a o, (a ∈ as → False) → H a = some o → NT o → H' a = some o
  dom : ∀ a, N0 H' a → N0 H a

section
variable {K : PySem.W.Frag} {ad : Ad} {as as' as2 : List Addr} {H H' H2 : Hp} {st st' : Sto}

theorem Ext.refl : Ext as H as H := ⟨⟨[], by simp, by simp⟩, fun _ _ _ h _ => h, fun _ h => h⟩
theorem Ext.trans (a : Ext as H as' H') (b : Ext as' H' as2 H2) : Ext as H as2 H2 := by
  obtain ⟨⟨l, rfl, hl⟩, k1, d1⟩ := a
  obtain ⟨⟨m, rfl, hm⟩, k2, d2⟩ := b
  refine ⟨⟨l ++ m, by simp, fun a ha => ?_⟩, fun a o na h nt => ?_, fun a h => d1 a (d2 a h)⟩
  · rcases List.mem_append.mp ha with h | h
    · exact hl a h
    · exact d1 a (hm a h)
  · refine k2 a o (fun h' => ?_) (k1 a o na h nt) nt
    rcases List.mem_append.mp h' with h' | h'
    · exact na h'
    · exact (hl a h').no h nt
theorem Ext.nin (e : Ext as H as' H') {a : Addr} {o : HO} (na : a ∈ as → False) (h : H a = some o) (nt : NT o := by intro _ z; cases z) : a ∈ as' → False := by
  obtain ⟨⟨l, rfl, hl⟩, _, _⟩ := e
  intro h'
  rcases List.mem_append.mp h' with h' | h'
  · exact na h'
  · exact (hl a h').no h nt
theorem Ext.kp (e : Ext as H as' H') {a : Addr} {o : HO} (na : a ∈ as → False) (h : H a = some o) (nt : NT o := by intro _ z; cases z) : H' a = some o := e.keep a o na h nt
theorem Ext.get (e : Ext as H as' H') {i : Nat} {a : Addr} (h : as[i]? = some a) : as'[i]? = some a := by
  obtain ⟨⟨l, rfl, hl⟩, _, _⟩ := e
  rw [List.getElem?_append_left (List.getElem?_eq_some_iff.mp h).1]
  exact h

theorem TupAt.sq {a : Addr} {xs : List V} (h : TupAt K as H a xs) : SqT K H a xs := by
  rcases h with h | h
  · exact .inl h.2
  · rcases h with (h | ⟨o, h⟩) | h
    · cases h
    · cases h
    · exact .inr h
theorem FrzAt.sq {a : Addr} {xs : List V} (h : FrzAt K as H a xs) : SqL K H a xs := by
  rcases h with ⟨_, o, h⟩ | h
  · exact .inl (.inr ⟨o, h⟩)
  · rcases h with (h | ⟨o, h⟩) | h
    · cases h
    · cases h
    · exact .inr h
theorem TupAt.ext {a : Addr} {xs : List V} (h : TupAt K as H a xs) (e : Ext as H as' H') : TupAt K as' H' a xs := by
  rcases h with ⟨n, h⟩ | h
  · rcases h with h | ⟨o, h⟩
    · exact .inl ⟨e.nin n h, .inl (e.kp n h)⟩
    · exact .inl ⟨e.nin n h, .inr ⟨o, e.kp n h⟩⟩
  · exact .inr h
theorem LstAt.ext {hid : List Addr} {a : Addr} {xs : List V} (h : LstAt hid as H a xs) (e : Ext as H as' H') : LstAt hid as' H' a xs := ⟨⟨e.nin h.1.1 h.2, h.1.2⟩, e.kp h.1.1 h.2⟩
theorem FrzAt.ext {a : Addr} {xs : List V} (h : FrzAt K as H a xs) (e : Ext as H as' H') : FrzAt K as' H' a xs := by
  rcases h with ⟨n, o, h⟩ | h
  · exact .inl ⟨e.nin n h, o, e.kp n h⟩
  · exact .inr h
mutual
theorem Rep.ext (e : Ext as H as' H') : ∀ {v : V} {t : T}, Rep K ad as H v t → Rep K ad as' H' v t
  | _, _, .non => .non
  | _, _, .bl b => .bl b
  | _, _, .int b => .int b
  | _, _, .str b => .str b
  | _, _, .byt b => .byt b
  | _, _, .ty b => .ty b
  | _, _, .tup h r => .tup (h.ext e) (Reps.ext e r)
  | _, _, .lst h r => .lst (h.ext e) (Reps.ext e r)
  | _, _, .frz h r => .frz (h.ext e) (Reps.ext e r)
  | _, _, .dct n h k r => .dct ⟨e.nin n.1 h, n.2⟩ (e.kp n.1 h) k (Reps.ext e r)
  | _, _, .ref h => .ref (e.get h)
  | _, _, .adr i => .adr i
theorem Reps.ext (e : Ext as H as' H') : ∀ {v : List V} {t : List T}, Reps K ad as H v t → Reps K ad as' H' v t
  | _, _, .nil => .nil
  | _, _, .cons r s => .cons (Rep.ext e r) (Reps.ext e s)
end
theorem RepF.ext (e : Ext as H as' H') : ∀ {v : List (Str × V)} {t : List (Str × T)}, RepF K ad as H v t → RepF K ad as' H' v t
  | _, _, .nil => .nil
  | _, _, .cons r s => .cons (r.ext e) (RepF.ext e s)
theorem Reps.length : ∀ {v : List V} {t : List T}, Reps K ad as H v t → v.length = t.length
  | _, _, .nil => rfl
  | _, _, .cons _ s => congrArg (· + 1) (Reps.length s)
theorem Reps.append : ∀ {v w : List V} {t u : List T}, Reps K ad as H v t → Reps K ad as H w u → Reps K ad as H (v ++ w) (t ++ u)
  | _, _, _, _, .nil, s => s
  | _, _, _, _, .cons r s, q => .cons r (Reps.append s q)
theorem Reps.get : ∀ {v : List V} {t : List T} {i : Nat} {x : T}, Reps K ad as H v t → t[i]? = some x → ∃ y, v[i]? = some y ∧ Rep K ad as H y x
  | _, _, _, _, .nil, h => by simp at h
  | _, _, 0, _, .cons r s, h => by simp at h; subst h; exact ⟨_, rfl, r⟩
  | _, _, i + 1, _, .cons r s, h => by
    obtain ⟨y, h1, h2⟩ := Reps.get (i := i) s (by simpa using h)
    exact ⟨y, by simpa using h1, h2⟩
theorem Reps.got : ∀ {v : List V} {t : List T} {i : Nat} {y : V}, Reps K ad as H v t → v[i]? = some y → ∃ x, t[i]? = some x ∧ Rep K ad as H y x
  | _, _, _, _, .nil, h => by simp at h
  | _, _, 0, _, .cons r s, h => by simp at h; subst h; exact ⟨_, rfl, r⟩
  | _, _, i + 1, _, .cons r s, h => by
    obtain ⟨y, h1, h2⟩ := Reps.got (i := i) s (by simpa using h)
    exact ⟨y, by simpa using h1, h2⟩
theorem Reps.take : ∀ {v : List V} {t : List T} (n : Nat), Reps K ad as H v t → Reps K ad as H (v.take n) (t.take n)
  | _, _, 0, _ => by simp; exact .nil
  | _, _, _ + 1, .nil => .nil
  | _, _, n + 1, .cons r s => .cons r (Reps.take n s)
theorem Reps.drop : ∀ {v : List V} {t : List T} (n : Nat), Reps K ad as H v t → Reps K ad as H (v.drop n) (t.drop n)
  | _, _, 0, r => r
  | _, _, _ + 1, .nil => .nil
  | _, _, n + 1, .cons _ s => Reps.drop n s
theorem Reps.set {x : V} {y : T} (r : Rep K ad as H x y) : ∀ {v : List V} {t : List T} (n : Nat), Reps K ad as H v t → Reps K ad as H (v.set n x) (t.set n y)
  | _, _, _, .nil => .nil
  | _, _, 0, .cons _ s => .cons r s
  | _, _, n + 1, .cons q s => .cons q (Reps.set r n s)
theorem Reps.reverse : ∀ {v : List V} {t : List T}, Reps K ad as H v t → Reps K ad as H v.reverse t.reverse
  | _, _, .nil => .nil
  | _, _, .cons r s => by
    rw [List.reverse_cons, List.reverse_cons]
    exact Reps.append (Reps.reverse s) (.cons r .nil)
theorem Reps.dropLast : ∀ {v : List V} {t : List T}, Reps K ad as H v t → Reps K ad as H v.dropLast t.dropLast := fun {v t} r => by
  rw [List.dropLast_eq_take, List.dropLast_eq_take, r.length]
  exact r.take _

/-- a new object that is no object of the store -/
theorem Ext.fresh {p : Addr} {o : HO} (h : H p = none) : Ext as H as (upd H p o) := by
  refine ⟨⟨[], by simp, by simp⟩, fun a u _ q _ => ?_, fun a q => ?_⟩
  · rw [upd_ne (ne_of_none q h)]; exact q
  · by_cases e : a = p
    · subst e; exact n0_none h
    · intro o z
      exact q o (by rw [upd_ne e]; exact z)
theorem ORep.ext (e : Ext as H as' H') {a : Addr} {o : O} (h : ORep K ad as H a o) (hk : ∀ u, H a = some u → H' a = some u) : ORep K ad as' H' a o := by
  cases o with
  | lst ts =>
    obtain ⟨xs, h1, h2⟩ := h
    exact ⟨xs, hk _ h1, h2.ext e⟩
  | dct kvs =>
    obtain ⟨xs, h1, h2, h3⟩ := h
    exact ⟨xs, hk _ h1, h2, h3.ext e⟩
  | dtt kvs =>
    obtain ⟨xs, h1, h2, h3⟩ := h
    exact ⟨xs, hk _ h1, h2, h3.ext e⟩
  | ins c fs =>
    obtain ⟨dx, gs, h1, h2, h3, h4⟩ := h
    exact ⟨dx, gs, hk _ h1, e.kp h3 h2, e.nin h3 h2, h4.ext e⟩
theorem Ab.get (A : Ab K ad as st H) {i : Nat} {o : O} (h : st[i]? = some o) : ∃ a, as[i]? = some a ∧ ORep K ad as H a o := by
  have hi : i < as.length := by
    have := (List.getElem?_eq_some_iff.mp h).1
    have := A.len
    omega
  exact ⟨as[i], by simp [hi], A.obj i as[i] o (by simp [hi]) h⟩
theorem ORep.is {a : Addr} {o : O} (h : ORep K ad as H a o) : ∃ u, H a = some u := by
  cases o with
  | lst ts => obtain ⟨xs, h, _⟩ := h; exact ⟨_, h⟩
  | dct ts => obtain ⟨xs, h, _⟩ := h; exact ⟨_, h⟩
  | dtt ts => obtain ⟨xs, h, _⟩ := h; exact ⟨_, h⟩
  | ins c fs => obtain ⟨_, _, h, _⟩ := h; exact ⟨_, h⟩
theorem Ab.mem (A : Ab K ad as st H) {a : Addr} (h : a ∈ as) : ∃ u, H a = some u := by
  obtain ⟨i, hi, e⟩ := List.getElem_of_mem h
  have hs : i < st.length := by have := A.len; omega
  exact (A.obj i a st[i] (by rw [List.getElem?_eq_getElem hi, e]) (by simp [hs])).is
theorem Ab.nin (A : Ab K ad as st H) {p : Addr} (h : H p = none) : p ∈ as → False := fun q => by
  obtain ⟨u, e⟩ := A.mem q
  rw [h] at e; cases e
theorem Ab.fresh (A : Ab K ad as st H) {p : Addr} {u : HO} (h : H p = none) : Ab K ad as st (upd H p u) := by
  refine ⟨A.len, A.nd, fun i a o h1 h2 => (A.obj i a o h1 h2).ext (Ext.fresh h) fun v q => ?_, fun a ha => ?_, ?_⟩
  · rw [upd_ne (ne_of_none q h)]; exact q
  · obtain ⟨n, u, q, nt⟩ := A.hid a ha
    exact ⟨n, u, by rw [upd_ne (ne_of_none q h)]; exact q, nt⟩
  · exact tabs_upd A.tabs (fun ps z => by rw [h] at z; cases z) (fun ps z => by rw [h] at z; cases z)
/-- a new object of the store -/
theorem Ab.newO (A : Ab K ad as st H) {p : Addr} {u : HO} {o : O} (h : H p = none) (r : Ext as H (as ++ [p]) (upd H p u) → ORep K ad (as ++ [p]) (upd H p u) p o) :
    Ab K ad (as ++ [p]) (st ++ [o]) (upd H p u) ∧ Ext as H (as ++ [p]) (upd H p u) ∧ Rep K ad (as ++ [p]) (upd H p u) (.ref p) (.ref st.length) := by
  have e : Ext as H (as ++ [p]) (upd H p u) := by
    refine ⟨⟨[p], rfl, fun a ha => ?_⟩, (Ext.fresh (as := as) h).keep, (Ext.fresh (as := as) h).dom⟩
    simp at ha; subst ha; exact n0_none h
  refine ⟨⟨by simp [A.len], ?_, fun i a o h1 h2 => ?_, fun a ha => ?_, tabs_upd A.tabs (fun ps z => by rw [h] at z; cases z) (fun ps z => by rw [h] at z; cases z)⟩, e, .ref ?_⟩
  · rw [List.nodup_append]
    exact ⟨A.nd, by simp, fun a ha b hb q => by simp at hb; subst hb; subst q; exact A.nin h ha⟩
  · by_cases hi : i < st.length
    · rw [List.getElem?_append_left (by rw [A.len]; exact hi)] at h1
      rw [List.getElem?_append_left hi] at h2
      refine (A.obj i a o h1 h2).ext e fun v q => ?_
      rw [upd_ne (ne_of_none q h)]; exact q
    · have hi' : i = st.length := by
        have := (List.getElem?_eq_some_iff.mp h2).1
        simp at this
        omega
      subst hi'
      rw [← A.len, List.getElem?_append_right (Nat.le_refl _)] at h1
      rw [List.getElem?_append_right (Nat.le_refl _)] at h2
      simp at h1 h2
      subst h1; subst h2
      exact r e
  · obtain ⟨n, u, q, nt⟩ := A.hid a ha
    have na := ne_of_none q h
    exact ⟨fun hm => (List.mem_append.mp hm).elim n fun z => na (by simpa using z), u, by rw [upd_ne na]; exact q, nt⟩
  · rw [← A.len, List.getElem?_append_right (Nat.le_refl _)]
    simp
/-- a new list of the store -/
theorem Ab.newLst (A : Ab K ad as st H) {p : Addr} {xs : List V} {ts : List T} (h : H p = none) (r : Reps K ad as H xs ts) :
    Ab K ad (as ++ [p]) (st ++ [.lst ts]) (upd H p (.lst xs)) ∧ Ext as H (as ++ [p]) (upd H p (.lst xs)) ∧ Rep K ad (as ++ [p]) (upd H p (.lst xs)) (.ref p) (.ref st.length) :=
  A.newO h fun e => ⟨xs, upd_same, r.ext e⟩
/-- an object of the store is changed -/
theorem ORep.soft {a : Addr} {o : O} (h : ORep K ad as H a o) : (∀ ps, H a ≠ some (.tbl ps)) ∧ ∀ φ, H a ≠ some (.ext φ) := by
  cases o with
  | lst ts =>
    obtain ⟨xs, e, _⟩ := h
    exact ⟨fun _ z => (by rw [e] at z; cases z), fun _ z => (by rw [e] at z; cases z)⟩
  | dct kvs =>
    obtain ⟨xs, e, _⟩ := h
    exact ⟨fun _ z => (by rw [e] at z; cases z), fun _ z => (by rw [e] at z; cases z)⟩
  | dtt kvs =>
    obtain ⟨xs, e, _⟩ := h
    exact ⟨fun _ z => (by rw [e] at z; cases z), fun _ z => (by rw [e] at z; cases z)⟩
  | ins c fs =>
    obtain ⟨_, _, e, _⟩ := h
    exact ⟨fun _ z => (by rw [e] at z; cases z), fun _ z => (by rw [e] at z; cases z)⟩
theorem Ab.putO (A : Ab K ad as st H) {i : Nat} {p : Addr} {u : HO} {o : O} (hp : as[i]? = some p) (hi : i < st.length) (r : Ext as H as (upd H p u) → ORep K ad as (upd H p u) p o) (nu : NT u := by intro _ z; cases z) :
    Ab K ad as (st.set i o) (upd H p u) ∧ Ext as H as (upd H p u) := by
  have mem : p ∈ as := List.mem_of_getElem? hp
  have sf := (A.obj i p st[i] hp (by simp [hi])).soft
  have e : Ext as H as (upd H p u) := by
    refine ⟨⟨[], by simp, by simp⟩, fun a o na q _ => ?_, fun a q => ?_⟩
    · rw [upd_ne (by rintro rfl; exact na mem)]; exact q
    · by_cases z : a = p
      · subst z
        exact (q.no upd_same nu).elim
      · intro o w
        exact q o (by rw [upd_ne z]; exact w)
  refine ⟨⟨by simp [A.len], A.nd, fun j a o h1 h2 => ?_, fun a ha => ?_, tabs_upd A.tabs sf.1 sf.2⟩, e⟩
  rotate_left
  · obtain ⟨n, u, q, nt⟩ := A.hid a ha
    exact ⟨n, u, by rw [upd_ne (by rintro rfl; exact n mem)]; exact q, nt⟩
  by_cases hj : j = i
  · subst hj
    rw [hp] at h1; cases h1
    rw [List.getElem?_set_self hi] at h2
    cases h2
    exact r e
  · rw [List.getElem?_set_ne (fun q => hj q.symm)] at h2
    have na : a ≠ p := by
      rintro rfl
      obtain ⟨l1, e1⟩ := List.getElem?_eq_some_iff.mp h1
      obtain ⟨l2, e2⟩ := List.getElem?_eq_some_iff.mp hp
      exact hj ((List.getElem_inj A.nd).mp (e1.trans e2.symm))
    exact (A.obj j a o h1 h2).ext e fun v q => by rw [upd_ne na]; exact q
/-- a list of the store is changed -/
theorem Ab.putLst (A : Ab K ad as st H) {i : Nat} {p : Addr} {xs ys : List V} {ts us : List T} (hp : as[i]? = some p) (hs : st[i]? = some (.lst ts)) (hH : H p = some (.lst xs)) (r : Reps K ad as H ys us) :
    Ab K ad as (st.set i (.lst us)) (upd H p (.lst ys)) ∧ Ext as H as (upd H p (.lst ys)) :=
  A.putO hp (List.getElem?_eq_some_iff.mp hs).1 fun e => ⟨ys, upd_same, r.ext e⟩
/-! ### a list that is being made -/
theorem Ab.notHid (A : Ab K ad as st H) {p : Addr} (h : H p = none) : p ∈ ad.hid → False := fun q => by
  obtain ⟨_, u, e, _⟩ := A.hid p q
  rw [h] at e; cases e
mutual
/-- D begins -/
theorem Rep.hide {D : Addr} {o : HO} (hD : H D = none) : ∀ {v : V} {t : T}, Rep K ad as H v t → Rep K (ad.hide (D :: ad.hid)) as (upd H D o) v t
  | _, _, .non => .non
  | _, _, .bl b => .bl b
  | _, _, .int b => .int b
  | _, _, .str b => .str b
  | _, _, .byt b => .byt b
  | _, _, .ty b => .ty b
  | _, _, .tup h r => .tup (h.ext (Ext.fresh hD)) (Reps.hide hD r)
  | _, _, .lst h r => .lst ⟨⟨h.1.1, fun z => (List.mem_cons.mp z).elim (fun e => by rw [← e, h.2] at hD; cases hD) h.1.2⟩, by rw [upd_ne (ne_of_none h.2 hD)]; exact h.2⟩ (Reps.hide hD r)
  | _, _, .frz h r => .frz (h.ext (Ext.fresh hD)) (Reps.hide hD r)
  | _, _, .dct n h k r => .dct ⟨n.1, fun z => (List.mem_cons.mp z).elim (fun e => by rw [← e, h] at hD; cases hD) n.2⟩ (by rw [upd_ne (ne_of_none h hD)]; exact h) k (Reps.hide hD r)
  | _, _, .ref h => .ref h
  | _, _, .adr i => .adr (ad := ad.hide (D :: ad.hid)) i
theorem Reps.hide {D : Addr} {o : HO} (hD : H D = none) : ∀ {v : List V} {t : List T}, Reps K ad as H v t → Reps K (ad.hide (D :: ad.hid)) as (upd H D o) v t
  | _, _, .nil => .nil
  | _, _, .cons r s => .cons (Rep.hide hD r) (Reps.hide hD s)
end
theorem RepF.hide {D : Addr} {o : HO} (hD : H D = none) : ∀ {v : List (Str × V)} {t : List (Str × T)}, RepF K ad as H v t → RepF K (ad.hide (D :: ad.hid)) as (upd H D o) v t
  | _, _, .nil => .nil
  | _, _, .cons r s => .cons (r.hide hD) (RepF.hide hD s)
theorem Ab.hide {D : Addr} {o : HO} (hD : H D = none) (A : Ab K ad as st H) (no : NT o := by intro _ z; cases z) : Ab K (ad.hide (D :: ad.hid)) as st (upd H D o) := by
  refine ⟨A.len, A.nd, fun i a ob h1 h2 => ?_, fun a ha => ?_, tabs_upd A.tabs (fun ps z => by rw [hD] at z; cases z) (fun ps z => by rw [hD] at z; cases z)⟩
  · have q := A.obj i a ob h1 h2
    cases ob with
    | lst ts =>
      obtain ⟨xs, q1, q2⟩ := q
      exact ⟨xs, by rw [upd_ne (ne_of_none q1 hD)]; exact q1, q2.hide hD⟩
    | dct kvs =>
      obtain ⟨xs, q1, q2, q3⟩ := q
      exact ⟨xs, by rw [upd_ne (ne_of_none q1 hD)]; exact q1, q2, q3.hide hD⟩
    | dtt kvs =>
      obtain ⟨xs, q1, q2, q3⟩ := q
      exact ⟨xs, by rw [upd_ne (ne_of_none q1 hD)]; exact q1, q2, q3.hide hD⟩
    | ins c fs =>
      obtain ⟨dx, gs, q1, q2, q3, q4⟩ := q
      exact ⟨dx, gs, by rw [upd_ne (ne_of_none q1 hD)]; exact q1, by rw [upd_ne (ne_of_none q2 hD)]; exact q2, q3, q4.hide hD⟩
  · rcases List.mem_cons.mp ha with e | ha
    · subst e
      exact ⟨A.nin hD, o, upd_same, no⟩
    · obtain ⟨n, u, q, nt⟩ := A.hid a ha
      exact ⟨n, u, by rw [upd_ne (ne_of_none q hD)]; exact q, nt⟩
/-- what may be made by and by -/
def Soft (u : HO) : Prop := (∀ xs, u ≠ .tup xs) ∧ (∀ o q, u ≠ .frz o q) ∧ (∀ x, u ≠ .own x) ∧ NT u ∧ ∀ φ, u ≠ .ext φ
theorem soft_lst {xs : List V} : Soft (.lst xs) := ⟨fun _ h => (by cases h), fun _ _ h => (by cases h), fun _ h => (by cases h), fun _ h => (by cases h), fun _ h => (by cases h)⟩
theorem soft_dK {xs : List (Key × V)} : Soft (.dK xs) := ⟨fun _ h => (by cases h), fun _ _ h => (by cases h), fun _ h => (by cases h), fun _ h => (by cases h), fun _ h => (by cases h)⟩
mutual
/-- D grows -/
theorem Rep.growO {D : Addr} {u z : HO} (hu : Soft u) (hh : D ∈ ad.hid) (hD : H D = some u) : ∀ {v : V} {t : T}, Rep K ad as H v t → Rep K ad as (upd H D z) v t
  | _, _, .non => .non
  | _, _, .bl b => .bl b
  | _, _, .int b => .int b
  | _, _, .str b => .str b
  | _, _, .byt b => .byt b
  | _, _, .ty b => .ty b
  | _, _, .tup h r => .tup (by
      rcases h with ⟨n, h | ⟨o, h⟩⟩ | h
      · exact .inl ⟨n, .inl (by rw [upd_ne (ne_of h hD (fun z => hu.1 _ z.symm))]; exact h)⟩
      · exact .inl ⟨n, .inr ⟨o, by rw [upd_ne (ne_of h hD (fun z => hu.2.1 _ _ z.symm))]; exact h⟩⟩
      · exact .inr h) (Reps.growO hu hh hD r)
  | _, _, .lst h r => .lst ⟨h.1, by rw [upd_ne (by intro e; exact h.1.2 (e ▸ hh))]; exact h.2⟩ (Reps.growO hu hh hD r)
  | _, _, .frz h r => .frz (by
      rcases h with ⟨n, o, h⟩ | h
      · exact .inl ⟨n, o, by rw [upd_ne (ne_of h hD (fun z => hu.2.1 _ _ z.symm))]; exact h⟩
      · exact .inr h) (Reps.growO hu hh hD r)
  | _, _, .dct n h k r => .dct n (by rw [upd_ne (by intro e; exact n.2 (e ▸ hh))]; exact h) k (Reps.growO hu hh hD r)
  | _, _, .ref h => .ref h
  | _, _, .adr i => .adr i
theorem Reps.growO {D : Addr} {u z : HO} (hu : Soft u) (hh : D ∈ ad.hid) (hD : H D = some u) : ∀ {v : List V} {t : List T}, Reps K ad as H v t → Reps K ad as (upd H D z) v t
  | _, _, .nil => .nil
  | _, _, .cons r s => .cons (Rep.growO hu hh hD r) (Reps.growO hu hh hD s)
end
theorem RepF.growO {D : Addr} {u z : HO} (hu : Soft u) (hh : D ∈ ad.hid) (hD : H D = some u) : ∀ {v : List (Str × V)} {t : List (Str × T)}, RepF K ad as H v t → RepF K ad as (upd H D z) v t
  | _, _, .nil => .nil
  | _, _, .cons r s => .cons (r.growO hu hh hD) (RepF.growO hu hh hD s)
theorem Ab.growO {D : Addr} {u z : HO} (hu : Soft u) (hh : D ∈ ad.hid) (hD : H D = some u) (A : Ab K ad as st H) (nz : NT z := by intro _ w; cases w) : Ab K ad as st (upd H D z) := by
  have nD := (A.hid D hh).1
  refine ⟨A.len, A.nd, fun i a ob h1 h2 => ?_, fun a ha => ?_, tabs_upd A.tabs (fun ps z => by rw [hD] at z; cases z; exact hu.2.2.2.1 _ rfl) (fun ps z => by rw [hD] at z; cases z; exact hu.2.2.2.2 _ rfl)⟩
  · have q := A.obj i a ob h1 h2
    have na : a ≠ D := by rintro rfl; exact nD (List.mem_of_getElem? h1)
    cases ob with
    | lst ts =>
      obtain ⟨xs, q1, q2⟩ := q
      exact ⟨xs, by rw [upd_ne na]; exact q1, q2.growO hu hh hD⟩
    | dct kvs =>
      obtain ⟨xs, q1, q2, q3⟩ := q
      exact ⟨xs, by rw [upd_ne na]; exact q1, q2, q3.growO hu hh hD⟩
    | dtt kvs =>
      obtain ⟨xs, q1, q2, q3⟩ := q
      exact ⟨xs, by rw [upd_ne na]; exact q1, q2, q3.growO hu hh hD⟩
    | ins c fs =>
      obtain ⟨dx, gs, q1, q2, q3, q4⟩ := q
      exact ⟨dx, gs, by rw [upd_ne na]; exact q1, by rw [upd_ne (ne_of q2 hD (fun z => hu.2.2.1 _ z.symm))]; exact q2, q3, q4.growO hu hh hD⟩
  · obtain ⟨n, u, q, nt⟩ := A.hid a ha
    by_cases e : a = D
    · subst e
      exact ⟨n, _, upd_same, nz⟩
    · exact ⟨n, u, by rw [upd_ne e]; exact q, nt⟩
theorem Rep.grow {D : Addr} {ys zs : List V} (hh : D ∈ ad.hid) (hD : H D = some (.lst ys)) {v : V} {t : T} (r : Rep K ad as H v t) : Rep K ad as (upd H D (.lst zs)) v t := r.growO soft_lst hh hD
theorem Reps.grow {D : Addr} {ys zs : List V} (hh : D ∈ ad.hid) (hD : H D = some (.lst ys)) {v : List V} {t : List T} (r : Reps K ad as H v t) : Reps K ad as (upd H D (.lst zs)) v t := r.growO soft_lst hh hD
theorem RepF.grow {D : Addr} {ys zs : List V} (hh : D ∈ ad.hid) (hD : H D = some (.lst ys)) {v : List (Str × V)} {t : List (Str × T)} (r : RepF K ad as H v t) : RepF K ad as (upd H D (.lst zs)) v t := r.growO soft_lst hh hD
theorem Ab.grow {D : Addr} {ys zs : List V} (hh : D ∈ ad.hid) (hD : H D = some (.lst ys)) (A : Ab K ad as st H) : Ab K ad as st (upd H D (.lst zs)) := A.growO soft_lst hh hD
mutual
/-- D is done -/
theorem Rep.show_ {D : Addr} : ∀ {v : V} {t : T}, Rep K (ad.hide (D :: ad.hid)) as H v t → Rep K ad as H v t
  | _, _, .non => .non
  | _, _, .bl b => .bl b
  | _, _, .int b => .int b
  | _, _, .str b => .str b
  | _, _, .byt b => .byt b
  | _, _, .ty b => .ty b
  | _, _, .tup h r => .tup h (Reps.show_ r)
  | _, _, .lst h r => .lst ⟨⟨h.1.1, fun z => h.1.2 (List.mem_cons_of_mem _ z)⟩, h.2⟩ (Reps.show_ r)
  | _, _, .frz h r => .frz h (Reps.show_ r)
  | _, _, .dct n h k r => .dct ⟨n.1, fun z => n.2 (List.mem_cons_of_mem _ z)⟩ h k (Reps.show_ r)
  | _, _, .ref h => .ref h
  | _, _, .adr i => .adr (ad := ad) i
theorem Reps.show_ {D : Addr} : ∀ {v : List V} {t : List T}, Reps K (ad.hide (D :: ad.hid)) as H v t → Reps K ad as H v t
  | _, _, .nil => .nil
  | _, _, .cons r s => .cons (Rep.show_ r) (Reps.show_ s)
end
theorem RepF.show_ {D : Addr} : ∀ {v : List (Str × V)} {t : List (Str × T)}, RepF K (ad.hide (D :: ad.hid)) as H v t → RepF K ad as H v t
  | _, _, .nil => .nil
  | _, _, .cons r s => .cons r.show_ (RepF.show_ s)
theorem Ab.show_ {D : Addr} (A : Ab K (ad.hide (D :: ad.hid)) as st H) : Ab K ad as st H := by
  refine ⟨A.len, A.nd, fun i a ob h1 h2 => ?_, fun a ha => A.hid a (List.mem_cons_of_mem _ ha), A.tabs⟩
  have q := A.obj i a ob h1 h2
  cases ob with
  | lst ts =>
    obtain ⟨xs, q1, q2⟩ := q
    exact ⟨xs, q1, q2.show_⟩
  | dct kvs =>
    obtain ⟨xs, q1, q2, q3⟩ := q
    exact ⟨xs, q1, q2, q3.show_⟩
  | dtt kvs =>
    obtain ⟨xs, q1, q2, q3⟩ := q
    exact ⟨xs, q1, q2, q3.show_⟩
  | ins c fs =>
    obtain ⟨dx, gs, q1, q2, q3, q4⟩ := q
    exact ⟨dx, gs, q1, q2, q3, q4.show_⟩
end
end Mi

/-! MiEv: mirror computations, what they promise over the abstract heap; the defs' promises (with the guards known). -/
namespace Mi
open PySem L2

abbrev M (α : Type) := Sl → Sto → R α

section
variable (K : PySem.W.Frag) (ad : Ad)
def En (as : List Addr) (H : Hp) (σ : St) (ρ : Sl) : Prop := σ.length = ρ.length ∧ ∀ (i : Nat) (t : T), ρ[i]? = some (some t) → ∃ v, σ[i]? = some (some v) ∧ Rep K ad as H v t
/-- an exception as it lies: its class, its own dict -/
def ExRep (as : List Addr) (H : Hp) (e : Exn) (u : Value) (d : Option Addr) : Prop :=
  u = .ref (ad.fn e.c) ∧ ((e.fs = [] ∧ d = none) ∨ ∃ a gs, e.fs ≠ [] ∧ d = some a ∧ H a = some (.xd gs) ∧ (a ∈ as → False) ∧ RepF K ad as H gs e.fs)
/-- what is wanted of a computation's end -/
def Post {α β : Type} (Rl : List Addr → Hp → β → α → Prop) (as : List Addr) (H : Hp) (Q : β → Hp → Prop) (W : XK) : R α → Prop
  | .ok t st' => ∀ as' H' v, Ab K ad as' st' H' → Ext as H as' H' → Rl as' H' v t → Q v H'
  | .exc e st' => ∀ as' H' u d, Ab K ad as' st' H' → Ext as H as' H' → ExRep K ad as' H' e u d → W u d H'
  | .bad => False
def tM {α β : Type} (Rl : Ad → List Addr → Hp → β → α → Prop) (W : WX) (m : M α) : St → Hp → (β → Hp → Prop) → Prop := fun σ H Q =>
  ∃ hd ρ as st, Ab K (ad.hide hd) as st H ∧ En K (ad.hide hd) as H σ ρ ∧ Post K (ad.hide hd) (Rl (ad.hide hd)) as H Q (fun u d H' => W u d σ H') (m ρ st)
/-- a def's promise: it does what F says -/
def spF (n : Nat) (F : List T → Sto → R T) : Sp := fun vs H Q E => vs.length = n ∧ ∃ hd as st ts, Ab K (ad.hide hd) as st H ∧ Reps K (ad.hide hd) as H vs ts ∧ Post K (ad.hide hd) (Rep K (ad.hide hd)) as H Q E (F ts st)
end
abbrev RlB : Ad → List Addr → Hp → Bool → Bool → Prop := fun _ _ _ b c => b = c
abbrev RlI : Ad → List Addr → Hp → Option Int → Option Int → Prop := fun _ _ _ b c => b = c

section
variable {K : PySem.W.Frag} {ad : Ad} {as as' as2 : List Addr} {H H' H2 : Hp} {st st' : Sto} {σ : St} {ρ : Sl}
theorem En.ext (e : Ext as H as' H') (h : En K ad as H σ ρ) : En K ad as' H' σ ρ := ⟨h.1, fun i t q => by
  obtain ⟨v, h1, h2⟩ := h.2 i t q
  exact ⟨v, h1, h2.ext e⟩⟩
theorem En.set {i : Nat} {v : V} {t : T} (h : En K ad as H σ ρ) (r : Rep K ad as H v t) : En K ad as H (σ.set i (some v)) (ρ.set i (some t)) := by
  refine ⟨by simp [h.1], fun j u q => ?_⟩
  by_cases hj : i = j
  · subst hj
    by_cases hl : i < ρ.length
    · rw [List.getElem?_set_self hl] at q
      cases q
      exact ⟨v, by rw [List.getElem?_set_self (by rw [h.1]; exact hl)], r⟩
    · rw [List.getElem?_eq_none (by simpa using hl)] at q; cases q
  · rw [List.getElem?_set_ne hj] at q
    rw [List.getElem?_set_ne hj]
    exact h.2 j u q
section
variable {α β γ δ : Type} {Rl : List Addr → Hp → β → α → Prop} {Rl2 : List Addr → Hp → δ → γ → Prop} {Q Q' : β → Hp → Prop} {Q2 : δ → Hp → Prop} {W W' : XK}
theorem Post.ext (e : Ext as H as' H') {r : R α} (h : Post K ad Rl as H Q W r) : Post K ad Rl as' H' Q W r := by
  cases r with
  | ok t st' => exact fun as2 H2 v A e2 r => h as2 H2 v A (e.trans e2) r
  | exc x st' => exact fun as2 H2 u d A e2 r => h as2 H2 u d A (e.trans e2) r
  | bad => exact h
/-- a first step, then the rest -/
theorem Post.step {r : R α} {f : α → Sto → R γ} (h : Post K ad Rl2 as H Q2 W (r.bind f))
    (k : ∀ t st1 as1 H1 v, Ab K ad as1 st1 H1 → Ext as H as1 H1 → Rl as1 H1 v t → Post K ad Rl2 as1 H1 Q2 W (f t st1) → Q v H1) : Post K ad Rl as H Q W r := by
  cases r with
  | ok t st' => exact fun as1 H1 v A e r => k t st' as1 H1 v A e r (Post.ext e h)
  | exc x st' => exact h
  | bad => exact h
theorem Post.at {t : α} {v : β} (A : Ab K ad as st H) (r : Rl as H v t) (h : Post K ad Rl as H Q W (.ok t st)) : Q v H := h as H v A Ext.refl r
/-- at a place that follows -/
theorem Post.to {t : α} {v : β} (h : Post K ad Rl as H Q W (.ok t st')) (A : Ab K ad as' st' H') (e : Ext as H as' H') (r : Rl as' H' v t) : Q v H' := h as' H' v A e r
theorem Post.imp {r : R α} (h : Post K ad Rl as H Q W r) (hq : ∀ v H, Q v H → Q' v H) (hw : ∀ u d H, W u d H → W' u d H) : Post K ad Rl as H Q' W' r := by
  cases r with
  | ok t st' => exact fun as2 H2 v A e2 r => hq _ _ (h as2 H2 v A e2 r)
  | exc x st' => exact fun as2 H2 u d A e2 r => hw _ _ _ (h as2 H2 u d A e2 r)
  | bad => exact h
end
end

/-! ### weaker readings -/
section
variable {X : Cx}
theorem peW {e : Expr} {t t' : TE} (h : PE X e t) (w : ∀ σ H Q, t' σ H Q → t σ H Q) : PE X e t' := ⟨fun pins s σ H Q I q => h.run pins s σ H Q I (w _ _ _ q)⟩
theorem ptW {e : Expr} {t t' : TT} (h : PT X e t) (w : ∀ σ H Q, t' σ H Q → t σ H Q) : PT X e t' := ⟨fun pins s σ H Q I q => h.run pins s σ H Q I (w _ _ _ q)⟩
theorem pwW {e : Expr} {t t' : TT} (h : PW X e t) (w : ∀ σ H Q, t' σ H Q → t σ H Q) : PW X e t' := ⟨fun wh pins s σ H Q I q => h.run wh pins s σ H Q I (w _ _ _ q)⟩
theorem paW {es : List Expr} {t t' : TA} (h : PA X es t) (w : ∀ σ H Q, t' σ H Q → t σ H Q) : PA X es t' := ⟨fun pos pins s σ H Q I q => h.run pos pins s σ H Q I (w _ _ _ q)⟩
theorem poW {e : Option Expr} {t t' : TO} (h : PO X e t) (w : ∀ σ H Q, t' σ H Q → t σ H Q) : PO X e t' := ⟨fun pins s σ H Q I q => h.run pins s σ H Q I (w _ _ _ q)⟩
theorem psW {e : Stmt} {t t' : TS} (h : PS X e t) (w : ∀ D σ H, t' D σ H → t D σ H) : PS X e t' := ⟨fun pins s σ H D I q => h.run pins s σ H D I (w _ _ _ q)⟩
theorem pssW {e : List Stmt} {t t' : TS} (h : PSs X e t) (w : ∀ D σ H, t' D σ H → t D σ H) : PSs X e t' := ⟨fun pins s σ H D I q => h.run pins s σ H D I (w _ _ _ q)⟩
theorem pgW {e : Expr} {t t' : TG} (h : PG X e t) (w : ∀ v σ H Q, t' v σ H Q → t v σ H Q) : PG X e t' := ⟨fun pins s σ H v u Q I r q => h.run pins s σ H v u Q I r (w _ _ _ _ q)⟩
end

/-! ### where one stands -/
structure Sit (X : Cx) (W : WX) (k : Nat) : Prop where
  calm : X.calm = true
  gd : X.A.guards = some []
  rm : Room k X.A
  tk : Takes X W
  po : PassesOwn (model X.prog X.w) X.A X.env X.xe
  sm : ∃ o, X.base.get? sysModules = some o

abbrev MCX (P : Program) (w : World) : CXT := L2.CX P w
/-- a def's promise, where no repr runs around the call -/
structure GnOk (P : Program) (w : World) (K : PySem.W.Frag) (mg : Str → Option Value) (base : Heap) (k : Nat) (f : Addr) (fd : FuncData) (ps : List Str) (sp : Sp) : Prop where
  len : ∀ vs H Q E, sp vs H Q E → vs.length = ps.length
  run : ∀ (A : Around) (outer : List Env) (s : Shared) (H : Hp) (args : Args) (us : List Value) (vs : List V) (Q : VK) (E : XK),
    Room k A → A.guards = some [] → Env0 P w K mg base A outer s H → BindsTo s fd args (ps.zip us) → Vals vs us → sp vs H Q E →
      codeAny (model P w) A (.call (.ref f) args) (CR (MCX P w) outer P w H s Q E) s
end Mi

/-! MiExpr: expressions. -/
namespace Mi
open PySem L2

abbrev PM (X : Cx) (ad : Ad) (W : WX) (e : Expr) (m : M T) : Prop := PE X e (tM X.K ad (Rep X.K) W m)
abbrev PMT (X : Cx) (ad : Ad) (W : WX) (e : Expr) (m : M Bool) : Prop := PT X e (tM X.K ad RlB W m)
abbrev PMW (X : Cx) (ad : Ad) (W : WX) (e : Expr) (m : M Bool) : Prop := PW X e (tM X.K ad RlB W m)
abbrev PMA (X : Cx) (ad : Ad) (W : WX) (es : List Expr) (m : M (List T)) : Prop := PA X es (tM X.K ad (Reps X.K) W m)
abbrev PMO (X : Cx) (ad : Ad) (W : WX) (e : Option Expr) (m : M (Option Int)) : Prop := PO X e (tM X.K ad RlI W m)

section
variable {X : Cx} {ad : Ad} {W : WX} {pos p : Pos}

/-! ### names, constants -/
def mVar (i : Nat) : M T := fun ρ st => match ρ[i]? with
  | some (some t) => .ok t st
  | _ => .bad
theorem pm_var {i : Nat} {x : Str} (h : PE X (.Name x pos) (tVar i)) : PM X ad W (.Name x pos) (mVar i) := peW h fun σ H Q ⟨hd, ρ, as, st, A, E, q⟩ => by
  unfold mVar at q
  split at q
  · rename_i t e
    obtain ⟨v, h1, h2⟩ := E.2 i t e
    exact ⟨v, h1, Post.at A h2 q⟩
  · exact q.elim
def mC (t : T) : M T := fun _ st => .ok t st
theorem pm_c {e : Expr} {v : V} {t : T} (h : PE X e (tC v)) (r : ∀ ad as H, Rep X.K ad as H v t) : PM X ad W e (mC t) := peW h fun _ _ _ ⟨_, _, _, _, A, _, q⟩ => Post.at A (r _ _ _) q
theorem pm_int {i j} : PM X ad W (.Constant (.int i) j pos) (mC (.int i)) := pm_c pe_int fun _ _ _ => .int _
theorem pm_bl {i j} : PM X ad W (.Constant (.bool i) j pos) (mC (.bl i)) := pm_c pe_bl fun _ _ _ => .bl _
theorem pm_non {j} : PM X ad W (.Constant .none j pos) (mC .non) := pm_c pe_non fun _ _ _ => .non
theorem pm_str {i j} : PM X ad W (.Constant (.str i) j pos) (mC (.str i)) := pm_c pe_str fun _ _ _ => .str _

/-! ### operators by values -/
def OpM (X : Cx) (f : Value → Value → Sem Value) (op : T → T → Sto → R T) : Prop :=
  ∃ r : R2, OpR X f r ∧ ∀ ad as st H x y tx ty Q W, Ab X.K ad as st H → Rep X.K ad as H x tx → Rep X.K ad as H y ty → Post X.K ad (Rep X.K ad) as H Q W (op tx ty st) → r x y H Q
theorem OpR.alt {f : Value → Value → Sem Value} {r r' : R2} (h : OpR X f r) (h' : OpR X f r') : OpR X f (fun x y H Q => r x y H Q ∨ r' x y H Q) :=
  fun pins s σ H x y v u Q I rx ry q => q.elim (h pins s σ H x y v u Q I rx ry) (h' pins s σ H x y v u Q I rx ry)
/-- one more way of an operator -/
theorem OpM.alt {f : Value → Value → Sem Value} {op op' op2 : T → T → Sto → R T} (h : OpM X f op) (h' : OpM X f op')
    (c : ∀ x y st, op2 x y st = op x y st ∨ op2 x y st = op' x y st) : OpM X f op2 := by
  obtain ⟨r, h1, h2⟩ := h
  obtain ⟨r', h1', h2'⟩ := h'
  refine ⟨_, OpR.alt h1 h1', fun ad as st H x y tx ty Q W A rx ry q => ?_⟩
  rcases c tx ty st with e | e
  · rw [e] at q
    exact .inl (h2 ad as st H x y tx ty Q W A rx ry q)
  · rw [e] at q
    exact .inr (h2' ad as st H x y tx ty Q W A rx ry q)
def mBin (op : T → T → Sto → R T) (a b : M T) : M T := fun ρ st => (a ρ st).bind fun x st1 => (b ρ st1).bind fun y st2 => op x y st2
theorem tBin {r : R2} {op : T → T → Sto → R T} {a b : M T} (hop : ∀ ad as st H x y tx ty Q W, Ab X.K ad as st H → Rep X.K ad as H x tx → Rep X.K ad as H y ty → Post X.K ad (Rep X.K ad) as H Q W (op tx ty st) → r x y H Q) :
    ∀ σ H Q, tM X.K ad (Rep X.K) W (mBin op a b) σ H Q → tOp r (tM X.K ad (Rep X.K) W a) (tM X.K ad (Rep X.K) W b) σ H Q := fun σ H Q ⟨hd, ρ, as, st, A, E, q⟩ =>
  ⟨hd, ρ, as, st, A, E, Post.step q fun x st1 as1 H1 vx A1 e1 r1 q1 => ⟨hd, ρ, as1, st1, A1, E.ext e1, Post.step q1 fun y st2 as2 H2 vy A2 e2 r2 q2 => hop _ as2 st2 H2 vx vy x y Q _ A2 (r1.ext e2) r2 q2⟩⟩
theorem pm_bin {o : Operator} {op : T → T → Sto → R T} {a b : Expr} {ma mb : M T} (hop : OpM X (binaryOp o) op) (ha : PM X ad W a ma) (hb : PM X ad W b mb) : PM X ad W (.BinOp a o b pos) (mBin op ma mb) := by
  obtain ⟨r, h1, h2⟩ := hop
  exact peW (pe_op h1 ha hb) (tBin h2)
theorem pm_cmp {o : CmpOp} {op : T → T → Sto → R T} {a b : Expr} {ma mb : M T} (hop : OpM X (compareOp o) op) (ha : PM X ad W a ma) (hb : PM X ad W b mb) (hm : behindInMarks o b = false) : PM X ad W (.Compare a [o] [b] pos) (mBin op ma mb) := by
  obtain ⟨r, h1, h2⟩ := hop
  exact peW (pe_cmpR h1 ha hb hm) (tBin h2)
/-- a value that is True or False, as a test -/
def rTest (r : R T) : R Bool := r.bind fun t st => match t with
  | .bl b => .ok b st
  | _ => .bad
def mTest (m : M T) : M Bool := fun ρ st => rTest (m ρ st)
theorem tTest_ {m : M T} : ∀ σ H Q, tM X.K ad RlB W (mTest m) σ H Q → tTest (tM X.K ad (Rep X.K) W m) σ H Q := fun σ H Q ⟨hd, ρ, as, st, A, E, q⟩ =>
  ⟨hd, ρ, as, st, A, E, Post.step q fun x st1 as1 H1 vx A1 e1 r1 q1 => by
    cases r1 with
    | bl b => exact ⟨b, rfl, Post.at A1 rfl q1⟩
    | _ => exact q1.elim⟩
theorem ptM_cmp {o : CmpOp} {op : T → T → Sto → R T} {a b : Expr} {ma mb : M T} (hop : OpM X (compareOp o) op) (ha : PM X ad W a ma) (hb : PM X ad W b mb) (hm : behindInMarks o b = false) : PMT X ad W (.Compare a [o] [b] pos) (mTest (mBin op ma mb)) := by
  obtain ⟨r, h1, h2⟩ := hop
  refine ptW (pt_cmpR h1 ha hb hm) fun σ H Q h => ?_
  obtain ⟨hd, ρ, as, st, A, E, q⟩ := tTest_ σ H Q h
  exact tBin h2 σ H _ ⟨hd, ρ, as, st, A, E, q⟩
theorem ptM_val {e : Expr} {m : M T} (h : PM X ad W e m) (he : ∀ whole, isTrue e X.env whole = (do let v ← whole; standAt e.pos; holding [v] (truthy v)) := by intro _; rfl) : PMT X ad W e (mTest m) := ptW (pt_val h he) fun σ H Q q => tTest_ σ H Q q
end
end Mi

/-! MiOps: operators by mirror values. -/
namespace Mi
open PySem L2

/-! ### data -/
mutual
def T.eqv : T → T → Bool
  | .non, .non => true
  | .bl a, .bl b => a == b
  | .bl a, .int j => (if a then 1 else 0) == j
  | .int i, .bl b => i == (if b then 1 else 0)
  | .int i, .int j => i == j
  | .str a, .str b => a == b
  | .tup xs, .tup ys => T.eqvs xs ys
  | .lst xs, .lst ys => T.eqvs xs ys
  | _, _ => false
def T.eqvs : List T → List T → Bool
  | [], [] => true
  | x :: xs, y :: ys => T.eqv x y && T.eqvs xs ys
  | _, _ => false
end
def keyPd : Key → PyData
  | .inl i => .int i
  | .inr s => .str s
mutual
def T.pd : T → Option PyData
  | .non => some .none
  | .bl b => some (.bool b)
  | .int i => some (.int i)
  | .str s => some (.str s)
  | .tup ts => (T.pds ts).map .tuple
  | .lst ts => (T.pds ts).map .list
  | .dct ks ts => (T.pds ts).map fun ds => .dict ((ks.map keyPd).zip ds)
  | _ => none
def T.pds : List T → Option (List PyData)
  | [] => some []
  | t :: ts => match t.pd, T.pds ts with
    | some d, some ds => some (d :: ds)
    | _, _ => none
end
theorem T.pds_cons {x : T} {xs : List T} {d : List PyData} (h : T.pds (x :: xs) = some d) : ∃ a b, x.pd = some a ∧ T.pds xs = some b ∧ d = a :: b := by
  simp only [T.pds] at h
  cases h1 : x.pd with
  | none => rw [h1] at h; simp at h
  | some a =>
    cases h2 : T.pds xs with
    | none => rw [h1, h2] at h; simp at h
    | some b => rw [h1, h2] at h; simp at h; exact ⟨a, b, rfl, rfl, h.symm⟩
mutual
theorem T.eqv_pd : ∀ (a b : T) {d e : PyData}, a.pd = some d → b.pd = some e → PyData.eqv d e = T.eqv a b := by
  intro a b d e ha hb
  cases a <;> cases b <;> simp only [T.pd, Option.some.injEq, Option.map_eq_some_iff, reduceCtorEq] at ha hb
  all_goals first
    | (subst ha; subst hb; first | rfl | (simp only [PyData.eqv, T.eqv]))
    | (obtain ⟨xs, h1, rfl⟩ := ha; obtain ⟨ys, h2, rfl⟩ := hb; first | (simp only [PyData.eqv, T.eqv]; first | exact T.eqvs_pd _ _ h1 h2 | done) | (simp only [PyData.eqv, T.eqv]))
    | (obtain ⟨xs, h1, rfl⟩ := ha; subst hb; simp only [PyData.eqv, T.eqv])
    | (obtain ⟨ys, h2, rfl⟩ := hb; subst ha; simp only [PyData.eqv, T.eqv])
theorem T.eqvs_pd : ∀ (a b : List T) {d e : List PyData}, T.pds a = some d → T.pds b = some e → PyData.eqvAll d e = T.eqvs a b
  | [], [], d, e, ha, hb => by
    simp only [T.pds, Option.some.injEq] at ha hb; subst ha; subst hb; rfl
  | [], y :: ys, d, e, ha, hb => by
    simp only [T.pds, Option.some.injEq] at ha hb; subst ha
    split at hb
    · cases hb; simp only [PyData.eqvAll, T.eqvs]
    · cases hb
  | x :: xs, [], d, e, ha, hb => by
    simp only [T.pds, Option.some.injEq] at ha hb; subst hb
    split at ha
    · cases ha; simp only [PyData.eqvAll, T.eqvs]
    · cases ha
  | x :: xs, y :: ys, d, e, ha, hb => by
    obtain ⟨d1, d2, h1, h2, rfl⟩ := T.pds_cons ha
    obtain ⟨e1, e2, h3, h4, rfl⟩ := T.pds_cons hb
    simp only [PyData.eqvAll, T.eqvs]
    rw [T.eqv_pd x y h1 h3, T.eqvs_pd xs ys h2 h4]
end

section
variable {K : PySem.W.Frag} {ad : Ad} {as : List Addr} {H : Hp} {st : Sto}
mutual
theorem Rep.dp : ∀ {v : V} {t : T} {d : PyData}, Rep K ad as H v t → t.pd = some d → d.canLay0 = true → Dp K H v d
  | _, _, _, .non, h, _ => by simp only [T.pd, Option.some.injEq] at h; subst h; exact .non
  | _, _, _, .bl b, h, _ => by simp only [T.pd, Option.some.injEq] at h; subst h; exact .bl b
  | _, _, _, .int b, h, _ => by simp only [T.pd, Option.some.injEq] at h; subst h; exact .int b
  | _, _, _, .str b, h, _ => by simp only [T.pd, Option.some.injEq] at h; subst h; exact .str b
  | _, _, _, .byt b, h, _ => by simp only [T.pd, reduceCtorEq] at h
  | _, _, _, .ty b, h, _ => by simp only [T.pd, reduceCtorEq] at h
  | _, _, _, .tup a r, h, l => by
    simp only [T.pd, Option.map_eq_some_iff] at h
    obtain ⟨ds, h1, rfl⟩ := h
    exact .tup a.sq (Reps.dps r h1 (by simpa only [PyData.canLay0] using l))
  | _, _, _, .lst a r, h, l => by
    simp only [T.pd, Option.map_eq_some_iff] at h
    obtain ⟨ds, h1, rfl⟩ := h
    exact .lst (SqL.of a.2) (Reps.dps r h1 (by simpa only [PyData.canLay0] using l))
  | _, _, _, .frz a r, h, _ => by simp only [T.pd, reduceCtorEq] at h
  | _, _, _, .dct _ _ _ _, h, l => by
    simp only [T.pd, Option.map_eq_some_iff] at h
    obtain ⟨ds, h1, rfl⟩ := h
    simp only [PyData.canLay0] at l
    cases l
  | _, _, _, .ref b, h, _ => by simp only [T.pd, reduceCtorEq] at h
  | _, _, _, .adr b, h, _ => by simp only [T.pd, reduceCtorEq] at h
theorem Reps.dps : ∀ {v : List V} {t : List T} {d : List PyData}, Reps K ad as H v t → T.pds t = some d → PyData.canLayAll0 d = true → DpAll K H v d
  | _, _, _, .nil, h, _ => by simp only [T.pds, Option.some.injEq] at h; subst h; exact .nil
  | _, _, _, .cons r s, h, l => by
    obtain ⟨d1, d2, h1, h2, rfl⟩ := T.pds_cons h
    simp only [PyData.canLayAll0, Bool.and_eq_true] at l
    exact .cons (Rep.dp r h1 l.1) (Reps.dps s h2 l.2)
end
/-- a list of the store as it stands now; anything else as it is -/
def now (st : Sto) (t : T) : T := match t with
  | .ref i => match st[i]? with
    | some (.lst ts) => .lst ts
    | _ => t
  | _ => t
theorem Rep.now_dp {v : V} {t : T} {d : PyData} (A : Ab K ad as st H) (r : Rep K ad as H v t) (h : (now st t).pd = some d) (l : d.canLay0 = true) : Dp K H v d := by
  unfold now at h
  split at h
  · rename_i i
    split at h
    · rename_i ts e
      simp only [T.pd, Option.map_eq_some_iff] at h
      obtain ⟨ds, h1, rfl⟩ := h
      obtain ⟨a, h2, xs, h3, h4⟩ := A.get e
      cases r with
      | ref h5 =>
        rw [h2] at h5; cases h5
        exact .lst (SqL.of h3) (Reps.dps h4 h1 (by simpa only [PyData.canLay0] using l))
    · simp only [T.pd, reduceCtorEq] at h
  · exact Rep.dp r h l

/-! ### sequences -/
theorem Rep.tupI {v : V} {ts : List T} (r : Rep K ad as H v (.tup ts)) : ∃ a xs, v = .ref a ∧ SqT K H a xs ∧ Reps K ad as H xs ts := by
  cases r with
  | tup h s => exact ⟨_, _, rfl, h.sq, s⟩
theorem Rep.intI {v : V} {i : Int} (r : Rep K ad as H v (.int i)) : v = .int i := by cases r; rfl
theorem Rep.strI {v : V} {i : Str} (r : Rep K ad as H v (.str i)) : v = .str i := by cases r; rfl
theorem Rep.blI {v : V} {i : Bool} (r : Rep K ad as H v (.bl i)) : v = .bl i := by cases r; rfl
theorem Rep.nonI {v : V} (r : Rep K ad as H v .non) : v = .non := by cases r; rfl
theorem Rep.bytI {v : V} {i : Array UInt8} (r : Rep K ad as H v (.byt i)) : v = .byt i := by cases r; rfl
/-- the items of a list that is read -/
def lstR (st : Sto) (t : T) : Option (List T) := match t with
  | .lst ts => some ts
  | .frz ts => some ts
  | .ref i => match st[i]? with
    | some (.lst ts) => some ts
    | _ => none
  | _ => none
/-- .. that is no locked one -/
def lstD (st : Sto) (t : T) : Option (List T) := match t with
  | .lst ts => some ts
  | .ref i => match st[i]? with
    | some (.lst ts) => some ts
    | _ => none
  | _ => none
theorem Rep.lstD {v : V} {t : T} {ts : List T} (A : Ab K ad as st H) (r : Rep K ad as H v t) (h : lstD st t = some ts) : ∃ a xs, v = .ref a ∧ H a = some (.lst xs) ∧ Reps K ad as H xs ts := by
  unfold Mi.lstD at h
  split at h
  · cases h
    cases r with
    | lst h s => exact ⟨_, _, rfl, h.2, s⟩
  · split at h
    · rename_i e
      cases h
      obtain ⟨a, h2, xs, h3, h4⟩ := A.get e
      cases r with
      | ref h5 =>
        rw [h2] at h5; cases h5
        exact ⟨_, _, rfl, h3, h4⟩
    · cases h
  · cases h
theorem Rep.lstR {v : V} {t : T} {ts : List T} (A : Ab K ad as st H) (r : Rep K ad as H v t) (h : lstR st t = some ts) : ∃ a xs, v = .ref a ∧ SqL K H a xs ∧ Reps K ad as H xs ts := by
  unfold Mi.lstR at h
  split at h
  · cases h
    cases r with
    | lst h s => exact ⟨_, _, rfl, SqL.of h.2, s⟩
  · cases h
    cases r with
    | frz h s => exact ⟨_, _, rfl, h.sq, s⟩
  · split at h
    · rename_i e
      cases h
      obtain ⟨a, h2, xs, h3, h4⟩ := A.get e
      cases r with
      | ref h5 =>
        rw [h2] at h5; cases h5
        exact ⟨_, _, rfl, SqL.of h3, h4⟩
    · cases h
  · cases h
end

/-! ### arithmetic -/
section
variable {X : Cx} {ad : Ad}
def opII (f : Int → Int → Option T) (x y : T) (st : Sto) : R T := match x, y with
  | .int i, .int j => match f i j with
    | some t => .ok t st
    | none => .bad
  | _, _ => .bad
theorem opII_ok {o : Value → Value → Sem Value} {C : Int → Int → Prop} {g : Int → Int → V} {f : Int → Int → Option T} (h : OpR X o (rI C g))
    (hf : ∀ i j t, f i j = some t → C i j ∧ ∀ ad as H, Rep X.K ad as H (g i j) t) : OpM X o (opII f) := by
  refine ⟨_, h, fun ad as st H x y tx ty Q W A rx ry q => ?_⟩
  unfold opII at q
  split at q
  · split at q
    · rename_i i j _ t e
      obtain ⟨c, r⟩ := hf i j t e
      exact ⟨i, j, rx.intI, ry.intI, c, Post.at A (r ad as H) q⟩
    · exact q.elim
  · exact q.elim
theorem OpR.rI0 {o : Value → Value → Sem Value} {g : Int → Int → V} (h : OpR X o (L2.rI0 g)) : OpR X o (L2.rI (fun _ _ => True) g) := fun pins s σ H x y v u Q I rx ry ⟨i, j, e1, e2, _, q⟩ => h pins s σ H x y v u Q I rx ry ⟨i, j, e1, e2, q⟩

abbrev opSub : T → T → Sto → R T := opII fun i j => some (.int (i - j))
theorem om_sub : OpM X (binaryOp .Sub) opSub := opII_ok (OpR.rI0 op_sub) fun i j t e => by
  cases e; exact ⟨trivial, fun _ _ _ => .int _⟩
def fFdiv (i j : Int) : Option T := if 0 < j ∧ j.natAbs.log2 < 9000 then some (.int (i / j)) else none
abbrev opFdiv : T → T → Sto → R T := opII fFdiv
theorem om_fdiv : OpM X (binaryOp .FloorDiv) opFdiv := opII_ok op_fdivW fun i j t e => by
  unfold fFdiv at e
  split at e
  · cases e; exact ⟨by assumption, fun _ _ _ => .int _⟩
  · cases e
def fMod (i j : Int) : Option T := if 0 < j then some (.int (i % j)) else none
abbrev opMod : T → T → Sto → R T := opII fMod
theorem om_mod : OpM X (binaryOp .Mod) opMod := opII_ok op_mod fun i j t e => by
  unfold fMod at e
  split at e
  · cases e; exact ⟨by assumption, fun _ _ _ => .int _⟩
  · cases e
def fPow (i j : Int) : Option T := if 0 ≤ j ∧ j ≤ 1000000 ∧ i.natAbs < 18446744073709551616 then some (.int (i ^ j.toNat)) else none
abbrev opPow : T → T → Sto → R T := opII fPow
theorem om_pow : OpM X (binaryOp .Pow) opPow := opII_ok op_pow fun i j t e => by
  unfold fPow at e
  split at e
  · cases e; exact ⟨by assumption, fun _ _ _ => .int _⟩
  · cases e
abbrev opLt : T → T → Sto → R T := opII fun i j => some (.bl (decide (i < j)))
abbrev opLe : T → T → Sto → R T := opII fun i j => some (.bl (decide (i ≤ j)))
abbrev opGt : T → T → Sto → R T := opII fun i j => some (.bl (decide (j < i)))
abbrev opGe : T → T → Sto → R T := opII fun i j => some (.bl (decide (j ≤ i)))
theorem om_lt : OpM X (compareOp .Lt) opLt := opII_ok (OpR.rI0 op_lt) fun i j t e => by cases e; exact ⟨trivial, fun _ _ _ => .bl _⟩
theorem om_le : OpM X (compareOp .LtE) opLe := opII_ok (OpR.rI0 op_le) fun i j t e => by cases e; exact ⟨trivial, fun _ _ _ => .bl _⟩
theorem om_gt : OpM X (compareOp .Gt) opGt := opII_ok (OpR.rI0 op_gt) fun i j t e => by cases e; exact ⟨trivial, fun _ _ _ => .bl _⟩
theorem om_ge : OpM X (compareOp .GtE) opGe := opII_ok (OpR.rI0 op_ge) fun i j t e => by cases e; exact ⟨trivial, fun _ _ _ => .bl _⟩

/-! ### + -/
def opAdd (x y : T) (st : Sto) : R T := match x, y with
  | .int i, .int j => .ok (.int (i + j)) st
  | .str a, .str b => if a.length + b.length ≤ sizeLine then .ok (.str (a ++ b)) st else .bad
  | .byt a, .byt b => if a.size + b.size ≤ 16777216 then .ok (.byt (a ++ b)) st else .bad
  | .tup a, .tup b => if a.length + b.length ≤ sizeLine then .ok (.tup (a ++ b)) st else .bad
  | x, y => match lstD st x, lstD st y with
    | some a, some b => if a.length + b.length ≤ sizeLine then .ok (.lst (a ++ b)) st else .bad
    | _, _ => .bad
/-- a new object stands behind: a tuple, a list that is no object of the store -/
theorem rep_newTup {K : PySem.W.Frag} {as : List Addr} {H : Hp} {st : Sto} {p : Addr} {xs : List V} {ts : List T} (A : Ab K ad as st H) (hp : H p = none) (r : Reps K ad as H xs ts) : Rep K ad as (upd H p (.tup xs)) (.ref p) (.tup ts) :=
  .tup (.inl ⟨A.nin hp, .inl upd_same⟩) (r.ext (Ext.fresh hp))
theorem rep_newLst {K : PySem.W.Frag} {as : List Addr} {H : Hp} {st : Sto} {p : Addr} {xs : List V} {ts : List T} (A : Ab K ad as st H) (hp : H p = none) (r : Reps K ad as H xs ts) : Rep K ad as (upd H p (.lst xs)) (.ref p) (.lst ts) :=
  .lst ⟨⟨A.nin hp, A.notHid hp⟩, upd_same⟩ (r.ext (Ext.fresh hp))
theorem post_newTup {K : PySem.W.Frag} {as : List Addr} {H : Hp} {st : Sto} {p : Addr} {xs : List V} {ts : List T} {Q : V → Hp → Prop} {W : XK} (A : Ab K ad as st H) (hp : H p = none) (r : Reps K ad as H xs ts)
    (q : Post K ad (Rep K ad) as H Q W (.ok (.tup ts) st)) : Q (.ref p) (upd H p (.tup xs)) := q.to (A.fresh hp) (Ext.fresh hp) (rep_newTup A hp r)
theorem post_newLst {K : PySem.W.Frag} {as : List Addr} {H : Hp} {st : Sto} {p : Addr} {xs : List V} {ts : List T} {Q : V → Hp → Prop} {W : XK} (A : Ab K ad as st H) (hp : H p = none) (r : Reps K ad as H xs ts)
    (q : Post K ad (Rep K ad) as H Q W (.ok (.lst ts) st)) : Q (.ref p) (upd H p (.lst xs)) := q.to (A.fresh hp) (Ext.fresh hp) (rep_newLst A hp r)
theorem om_add : OpM X (binaryOp .Add) opAdd := by
  refine ⟨_, OpR.alt (OpR.rI0 op_add) (OpR.alt op_add_str (OpR.alt op_add_byt (OpR.alt op_catA op_cat))), fun ad as st H x y tx ty Q W A rx ry q => ?_⟩
  unfold opAdd at q
  split at q
  · exact .inl ⟨_, _, rx.intI, ry.intI, trivial, Post.at A (.int _) q⟩
  · split at q
    · exact .inr (.inl ⟨_, _, rx.strI, ry.strI, by assumption, Post.at A (.str _) q⟩)
    · exact q.elim
  · split at q
    · exact .inr (.inr (.inl ⟨_, _, rx.bytI, ry.bytI, by assumption, Post.at A (.byt _) q⟩))
    · exact q.elim
  · split at q
    · rename_i ts us hz
      obtain ⟨a, xs, e1, h1, r1⟩ := rx.tupI
      obtain ⟨b, ys, e2, h2, r2⟩ := ry.tupI
      refine .inr (.inr (.inr (.inl ⟨a, b, xs, ys, e1, e2, h1, h2, by rw [r1.length, r2.length]; exact hz, fun ex => ?_, fun _ ey => ?_, fun _ _ p hp => post_newTup A hp (r1.append r2) q⟩)))
      · subst ex
        cases r1
        rw [← e2]
        exact Post.at A ry q
      · subst ey
        cases r2
        rw [← e1]
        rw [List.append_nil] at q
        exact Post.at A rx q
    · exact q.elim
  · split at q
    · rename_i h1 h2
      split at q
      · rename_i hz
        obtain ⟨a, xs, e1, h1, r1⟩ := rx.lstD A h1
        obtain ⟨b, ys, e2, h2, r2⟩ := ry.lstD A h2
        exact .inr (.inr (.inr (.inr ⟨a, b, xs, ys, e1, e2, h1, h2, by rw [r1.length, r2.length]; exact hz, fun p hp => post_newLst A hp (r1.append r2) q⟩)))
      · exact q.elim
    · exact q.elim

/-! ### * -/
def opMul (x y : T) (st : Sto) : R T := match x, y with
  | .int i, .int j => if i.natAbs.log2 + j.natAbs.log2 < 1000000 then .ok (.int (i * j)) st else .bad
  | .tup a, .int k => if a.length ≠ 0 ∧ a.length ≤ 1000 ∧ 2 ≤ k ∧ k ≤ 1000 then .ok (.tup (List.replicate k.toNat a).flatten) st else .bad
  | x, .int k => match lstD st x with
    | some a => if -(2 ^ 63) ≤ k ∧ k < 2 ^ 63 ∧ a.length * k.toNat ≤ sizeLine then .ok (.lst (List.replicate k.toNat a).flatten) st else .bad
    | none => .bad
  | _, _ => .bad
theorem Reps.rep {K : PySem.W.Frag} {as : List Addr} {H : Hp} {xs : List V} {ts : List T} (r : Reps K ad as H xs ts) : ∀ n : Nat, Reps K ad as H (List.replicate n xs).flatten (List.replicate n ts).flatten
  | 0 => .nil
  | n + 1 => by
    rw [List.replicate_succ, List.flatten_cons, List.replicate_succ, List.flatten_cons]
    exact r.append (Reps.rep r n)
theorem om_mul : OpM X (binaryOp .Mult) opMul := by
  refine ⟨_, OpR.alt op_mulW (OpR.alt op_repT op_rep), fun ad as st H x y tx ty Q W A rx ry q => ?_⟩
  unfold opMul at q
  split at q
  · split at q
    · exact .inl ⟨_, _, rx.intI, ry.intI, by assumption, Post.at A (.int _) q⟩
    · exact q.elim
  · split at q
    · rename_i hz
      obtain ⟨a, xs, e1, h1, r1⟩ := rx.tupI
      refine .inr (.inl ⟨a, _, xs, e1, ry.intI, h1, fun e => ?_, hz.2.2.1, hz.2.2.2, by rw [r1.length]; exact hz.2.1, fun p hp => post_newTup A hp (r1.rep _) q⟩)
      subst e
      exact hz.1 r1.length.symm
    · exact q.elim
  · split at q
    · rename_i h1
      split at q
      · rename_i hz
        obtain ⟨a, xs, e1, h1, r1⟩ := rx.lstD A h1
        exact .inr (.inr ⟨a, _, xs, e1, ry.intI, h1, hz.1, hz.2.1, by rw [r1.length]; exact hz.2.2, fun p hp => post_newLst A hp (r1.rep _) q⟩)
      · exact q.elim
    · exact q.elim
  · exact q.elim

/-! ### ==, != -/
def shaped (t : T) : Bool := match t.pd with
  | some d => SeqAt.shaped d
  | none => false
def opEqB (neg : Bool) (x y : T) (st : Sto) : R T := match now st x, now st y with
  | .str a, .str b => .ok (.bl (if neg then !(a == b) else a == b)) st
  | .byt a, .byt b => .ok (.bl (if neg then !(a.toList == b.toList) else a.toList == b.toList)) st
  | x, y => if shaped x && shaped y then .ok (.bl (if neg then !T.eqv x y else T.eqv x y)) st else .bad
theorem now_str {K : PySem.W.Frag} {as : List Addr} {H : Hp} {st : Sto} {v : V} {t : T} {a : Str} (r : Rep K ad as H v t) (h : now st t = .str a) : v = .str a := by
  unfold now at h
  split at h
  · split at h <;> cases h
  · subst h; exact r.strI
theorem now_byt {K : PySem.W.Frag} {as : List Addr} {H : Hp} {st : Sto} {v : V} {t : T} {a : Array UInt8} (r : Rep K ad as H v t) (h : now st t = .byt a) : v = .byt a := by
  unfold now at h
  split at h
  · split at h <;> cases h
  · subst h; exact r.bytI
theorem shaped_pd {t : T} (h : shaped t = true) : ∃ d, t.pd = some d ∧ SeqAt.shaped d = true := by
  unfold shaped at h
  split at h
  · exact ⟨_, by assumption, h⟩
  · cases h
theorem om_eq (hu : X.A.units + 64 < cLine) : OpM X (compareOp .Eq) (opEqB false) := by
  refine ⟨_, OpR.alt op_eq (op_eqD hu), fun ad as st H x y tx ty Q W A rx ry q => ?_⟩
  unfold opEqB at q
  split at q
  · rename_i a b h1 h2
    obtain rfl := now_str rx h1
    obtain rfl := now_str ry h2
    refine .inl ⟨rfl, ?_⟩
    have e : decide (V.str a = V.str b) = (a == b) := by
      by_cases h : a = b
      · subst h; simp
      · have h' : ¬ V.str a = V.str b := fun z => h (by injection z)
        simp [h, h']
    rw [e]
    exact Post.at A (.bl _) q
  · rename_i a b h1 h2
    obtain rfl := now_byt rx h1
    obtain rfl := now_byt ry h2
    refine .inl ⟨rfl, ?_⟩
    rw [dec_byt]
    exact Post.at A (.bl _) q
  · split at q
    · rename_i h
      rw [Bool.and_eq_true] at h
      obtain ⟨d, h1, s1⟩ := shaped_pd h.1
      obtain ⟨e, h2, s2⟩ := shaped_pd h.2
      refine .inr ⟨d, e, rx.now_dp A h1 (SeqAt.canLay_of_shaped s1), ry.now_dp A h2 (SeqAt.canLay_of_shaped s2), s1, s2, ?_⟩
      rw [T.eqv_pd _ _ h1 h2]
      exact Post.at A (.bl _) q
    · exact q.elim
theorem om_ne (hu : X.A.units + 64 < cLine) : OpM X (compareOp .NotEq) (opEqB true) := by
  refine ⟨_, OpR.alt op_ne (op_neD hu), fun ad as st H x y tx ty Q W A rx ry q => ?_⟩
  unfold opEqB at q
  split at q
  · rename_i a b h1 h2
    obtain rfl := now_str rx h1
    obtain rfl := now_str ry h2
    refine .inl ⟨rfl, ?_⟩
    have e : decide (V.str a = V.str b) = (a == b) := by
      by_cases h : a = b
      · subst h; simp
      · have h' : ¬ V.str a = V.str b := fun z => h (by injection z)
        simp [h, h']
    rw [e]
    exact Post.at A (.bl _) q
  · rename_i a b h1 h2
    obtain rfl := now_byt rx h1
    obtain rfl := now_byt ry h2
    refine .inl ⟨rfl, ?_⟩
    rw [dec_byt]
    exact Post.at A (.bl _) q
  · split at q
    · rename_i h
      rw [Bool.and_eq_true] at h
      obtain ⟨d, h1, s1⟩ := shaped_pd h.1
      obtain ⟨e, h2, s2⟩ := shaped_pd h.2
      refine .inr ⟨d, e, rx.now_dp A h1 (SeqAt.canLay_of_shaped s1), ry.now_dp A h2 (SeqAt.canLay_of_shaped s2), s1, s2, ?_⟩
      rw [T.eqv_pd _ _ h1 h2]
      exact Post.at A (.bl _) q
    · exact q.elim

/-! ### is None, is True -/
def isNon : T → Bool
  | .non => true
  | _ => false
def opIs (neg : Bool) (x y : T) (st : Sto) : R T := match y with
  | .non => .ok (.bl (if neg then !isNon x else isNon x)) st
  | .bl b => match x with
    | .bl a => .ok (.bl (if neg then !decide (a = b) else decide (a = b))) st
    | _ => .bad
  | _ => .bad
theorem rep_isNon {K : PySem.W.Frag} {as : List Addr} {H : Hp} {v : V} {t : T} (r : Rep K ad as H v t) : decide (v = .non) = isNon t := by
  cases r <;> rfl
theorem om_is : OpM X (compareOp .Is) (opIs false) := by
  refine ⟨_, OpR.alt op_isN op_is_bl, fun ad as st H x y tx ty Q W A rx ry q => ?_⟩
  unfold opIs at q
  split at q
  · refine .inl ⟨ry.nonI, ?_⟩
    rw [rep_isNon rx]
    exact Post.at A (.bl _) q
  · split at q
    · exact .inr ⟨_, _, rx.blI, ry.blI, Post.at A (.bl _) q⟩
    · exact q.elim
  · exact q.elim
theorem om_isnot : OpM X (compareOp .IsNot) (opIs true) := by
  refine ⟨_, OpR.alt op_notN op_isnot_bl, fun ad as st H x y tx ty Q W A rx ry q => ?_⟩
  unfold opIs at q
  split at q
  · refine .inl ⟨ry.nonI, ?_⟩
    rw [rep_isNon rx]
    exact Post.at A (.bl _) q
  · split at q
    · exact .inr ⟨_, _, rx.blI, ry.blI, Post.at A (.bl _) q⟩
    · exact q.elim
  · exact q.elim

/-! ### in, not in -/
def inD (x : T) (ts : List T) : Bool := ts.any fun z => T.eqv z x
def opInB (neg : Bool) (x y : T) (st : Sto) : R T :=
  match (match y with | .tup ts => some ts | _ => lstR st y) with
  | some ts => if shaped x && shaped (.lst ts) then .ok (.bl (if neg then !inD x ts else inD x ts)) st else .bad
  | none => .bad
def rInS (K : PySem.W.Frag) (neg : Bool) : R2 := fun x y H Q => ∃ d ds, Dp K H x d ∧ (Dp K H y (.list ds) ∨ Dp K H y (.tuple ds)) ∧ SeqAt.shaped d = true ∧ SeqAt.shaped (.list ds) = true ∧ Q (.bl (if neg then !ds.any fun z => PyData.eqv z d else ds.any fun z => PyData.eqv z d)) H
theorem in_room {A : PySem.Around} {d : PyData} {ds : List PyData} (h : SeqAt.shaped d = true) (hu : A.units + 65 < cLine) : A.units + 1 + min (PyData.depthAll ds) d.depth < cLine := by
  have h1 := SeqAt.depth_of_shaped h
  have h2 : min (PyData.depthAll ds) d.depth ≤ d.depth := Nat.min_le_right _ _
  omega
theorem op_inS (hu : X.A.units + 65 < cLine) : OpR X (compareOp .In) (rInS X.K false) := by
  intro pins s σ H x y v u Q I rx ry h
  obtain ⟨d, ds, hd, he, sd, se, q⟩ := h
  obtain ⟨as, r1⟩ := Dp.reads I d x v hd rx
  rcases he with he | he
  · obtain ⟨bs, r2⟩ := Dp.reads I _ y u he ry
    exact SeqAt.in_list_reads r2 r1 (SeqAt.canLay_of_shaped se) (SeqAt.canLay_of_shaped sd) (in_room sd hu) ⟨.bl _, H, I, rfl, q⟩
  · obtain ⟨bs, r2⟩ := Dp.reads I _ y u he ry
    exact SeqAt.in_tuple_reads r2 r1 (SeqAt.canLay_of_shaped se) (SeqAt.canLay_of_shaped sd) (in_room sd hu) ⟨.bl _, H, I, rfl, q⟩
theorem op_notInS (hu : X.A.units + 65 < cLine) : OpR X (compareOp .NotIn) (rInS X.K true) := by
  intro pins s σ H x y v u Q I rx ry h
  obtain ⟨d, ds, hd, he, sd, se, q⟩ := h
  obtain ⟨as, r1⟩ := Dp.reads I d x v hd rx
  rcases he with he | he
  · obtain ⟨bs, r2⟩ := Dp.reads I _ y u he ry
    exact SeqAt.notIn_list_reads r2 r1 (SeqAt.canLay_of_shaped se) (SeqAt.canLay_of_shaped sd) (in_room sd hu) ⟨.bl _, H, I, rfl, q⟩
  · obtain ⟨bs, r2⟩ := Dp.reads I _ y u he ry
    exact SeqAt.notIn_tuple_reads r2 r1 (SeqAt.canLay_of_shaped se) (SeqAt.canLay_of_shaped sd) (in_room sd hu) ⟨.bl _, H, I, rfl, q⟩
theorem any_pd {x : T} {d : PyData} (h : x.pd = some d) : ∀ (ts : List T) {ds : List PyData}, T.pds ts = some ds → (ds.any fun z => PyData.eqv z d) = inD x ts
  | [], _, e => by simp only [T.pds, Option.some.injEq] at e; subst e; rfl
  | t :: ts, _, e => by
    obtain ⟨a, b, h1, h2, rfl⟩ := T.pds_cons e
    unfold inD
    rw [List.any_cons, List.any_cons, T.eqv_pd _ _ h1 h, any_pd h ts h2]
    rfl
theorem in_ok {neg : Bool} : ∀ ad as st H x y tx ty Q W, Ab X.K ad as st H → Rep X.K ad as H x tx → Rep X.K ad as H y ty → Post X.K ad (Rep X.K ad) as H Q W (opInB neg tx ty st) → rInS X.K neg x y H Q := by
  intro ad as st H x y tx ty Q W A rx ry q
  unfold opInB at q
  split at q
  · rename_i ts e
    split at q
    · rename_i h
      rw [Bool.and_eq_true] at h
      obtain ⟨d, h1, s1⟩ := shaped_pd h.1
      obtain ⟨l, h2, s2⟩ := shaped_pd h.2
      simp only [T.pd, Option.map_eq_some_iff] at h2
      obtain ⟨ds, h3, rfl⟩ := h2
      have hc := SeqAt.canLay_of_shaped s2
      simp only [PyData.canLay0] at hc
      refine ⟨d, ds, rx.dp h1 (SeqAt.canLay_of_shaped s1), ?_, s1, s2, ?_⟩
      · split at e
        · cases e
          obtain ⟨a, xs, rfl, g1, g2⟩ := ry.tupI
          exact .inr (.tup g1 (g2.dps h3 hc))
        · obtain ⟨a, xs, rfl, g1, g2⟩ := ry.lstR A e
          exact .inl (.lst g1 (g2.dps h3 hc))
      · rw [any_pd h1 ts h3]
        exact Post.at A (.bl _) q
    · exact q.elim
  · exact q.elim
theorem om_in (hu : X.A.units + 65 < cLine) : OpM X (compareOp .In) (opInB false) := ⟨_, op_inS hu, in_ok⟩
theorem om_notin (hu : X.A.units + 65 < cLine) : OpM X (compareOp .NotIn) (opInB true) := ⟨_, op_notInS hu, in_ok⟩

/-! ### items, slices -/
def atT (ts : List T) (i : Int) (st : Sto) : R T := match atI ts i with
  | some t => .ok t st
  | none => .bad
def opIx (x y : T) (st : Sto) : R T := match y with
  | .int i => match x with
    | .tup ts => atT ts i st
    | .str s => if s.length ≤ sizeLine then (match atI s.cps.toList i with
      | some c => .ok (.str ⟨#[c]⟩) st
      | none => .bad) else .bad
    | .byt b => if b.size ≤ sizeLine then (match atI b.toList i with
      | some c => .ok (.int ((c.toNat : Nat) : Int)) st
      | none => .bad) else .bad
    | x => match lstR st x with
      | some ts => atT ts i st
      | none => .bad
  | _ => .bad
theorem Reps.atI {K : PySem.W.Frag} {as : List Addr} {H : Hp} {xs : List V} {ts : List T} {i : Int} {t : T} (r : Reps K ad as H xs ts) (h : L2.atI ts i = some t) : ∃ v, L2.atI xs i = some v ∧ Rep K ad as H v t := by
  unfold L2.atI at h ⊢
  rw [r.length]
  cases e : ixN ts.length i with
  | none => rw [e] at h; cases h
  | some j => rw [e] at h; exact r.get h
def rIxBy : R2 := fun x y H Q => ∃ (z : Array UInt8) (i : Int) (c : UInt8), x = .byt z ∧ y = .int i ∧ z.size ≤ sizeLine ∧ atI z.toList i = some c ∧ Q (.int ((c.toNat : Nat) : Int)) H
theorem ix_byt {X : Cx} : IxR X rIxBy := by
  intro value slice pins s σ H x y v u Q I rx ry h hs
  obtain ⟨z, i, c, rfl, rfl, hz, he, q⟩ := h
  obtain ⟨t, rfl⟩ := rx
  obtain ⟨t', rfl⟩ := ry
  have hl : sizeLine = 16777216 := sizeLine_eq
  obtain ⟨j, h1, h2, h3, h4, h5⟩ := atI_get he
  rw [Array.length_toList] at h1 h3 h4 h5
  exact PyProof.Rows.tail_any (PySem.W.typeIs_bytes s z t) PySem.W.FB.slot_bytes_getitem.lookup (getItem_gives (PySem.W.typeIs_bytes s _ t) (by decide) PySem.W.FB.slot_bytes_getitem PySem.W.FB.entry_bytes_getitem (PySem.W.FB.args_bytes_getitem_2 _ _)
    (PySem.W.gives_bytes_getitem _ i t t' c (by simp only [Builtin.Bytes.fitsIndex, Bool.and_eq_true, decide_eq_true_eq]; omega) (by rw [h1]; simpa using h2)) ⟨.int _, H, I.tok _, ⟨_, rfl⟩, q⟩) hs
theorem pm_ix {W : WX} {pos : Pos} {a b : Expr} {ma mb : M T} (ha : PM X ad W a ma) (hb : PM X ad W b mb) (hs : PlainIx b) : PM X ad W (.Subscript a b pos) (mBin opIx ma mb) := by
  refine peW (pe_ix (ix_seq.or ix_byt) ha hb hs) (tBin fun ad as st H x y tx ty Q W A rx ry q => ?_)
  unfold opIx at q
  split at q
  · obtain rfl := ry.intI
    split at q
    · rename_i ts
      obtain ⟨a, xs, e1, h1, r1⟩ := rx.tupI
      unfold atT at q
      split at q
      · rename_i e
        obtain ⟨v, g1, g2⟩ := r1.atI e
        exact .inl (.inr (.inl ⟨a, xs, _, v, e1, rfl, h1, g1, Post.at A g2 q⟩))
      · exact q.elim
    · split at q
      · split at q
        · exact .inl (.inr (.inr ⟨_, _, _, rx.strI, rfl, by assumption, by assumption, Post.at A (.str _) q⟩))
        · exact q.elim
      · exact q.elim
    · split at q
      · split at q
        · exact .inr ⟨_, _, _, rx.bytI, rfl, by assumption, by assumption, Post.at A (.int _) q⟩
        · exact q.elim
      · exact q.elim
    · split at q
      · rename_i e0
        obtain ⟨a, xs, e1, h1, r1⟩ := rx.lstR A e0
        unfold atT at q
        split at q
        · rename_i e
          obtain ⟨v, g1, g2⟩ := r1.atI e
          exact .inl (.inl ⟨a, xs, _, v, e1, rfl, h1, g1, Post.at A g2 q⟩)
        · exact q.elim
      · exact q.elim
  · exact q.elim
end
end Mi

/-! MiCalls: argument lists, displays, built-in functions, tests. -/
namespace Mi
open PySem L2

section
variable {X : Cx} {ad : Ad} {W : WX} {pos p : Pos} {e : Expr} {es : List Expr}

/-! ### argument lists -/
def mNil : M (List T) := fun _ st => .ok [] st
def mCons (a : M T) (r : M (List T)) : M (List T) := fun ρ st => (a ρ st).bind fun x st1 => (r ρ st1).bind fun xs st2 => .ok (x :: xs) st2
theorem pma_nil : PMA X ad W [] mNil := paW pa_nil fun _ _ _ ⟨_, _, _, _, A, _, q⟩ => Post.at A .nil q
theorem pma_cons {a : M T} {r : M (List T)} (ha : PM X ad W e a) (hr : PMA X ad W es r) (hs : starEach (e :: es) X.env = (false, eval e X.env) :: starEach es X.env := by rfl) : PMA X ad W (e :: es) (mCons a r) :=
  paW (pa_cons ha hr hs) fun σ H Q ⟨hd, ρ, as, st, A, E, q⟩ => ⟨hd, ρ, as, st, A, E, Post.step q fun x st1 as1 H1 vx A1 e1 r1 q1 =>
    ⟨hd, ρ, as1, st1, A1, E.ext e1, Post.step q1 fun y st2 as2 H2 vy A2 e2 r2 q2 => Post.at A2 (.cons (r1.ext e2) r2) q2⟩⟩
/-- the items of a list or a tuple -/
def seqR (st : Sto) (t : T) : Option (List T) := match t with
  | .tup ts => some ts
  | t => lstR st t
theorem Rep.seqR {K : PySem.W.Frag} {as : List Addr} {H : Hp} {st : Sto} {v : V} {t : T} {ts : List T} (A : Ab K ad as st H) (r : Rep K ad as H v t) (h : seqR st t = some ts) :
    ∃ a xs, v = .ref a ∧ (SqL K H a xs ∨ SqT K H a xs) ∧ Reps K ad as H xs ts := by
  unfold Mi.seqR at h
  split at h
  · cases h
    obtain ⟨a, xs, e, h1, h2⟩ := r.tupI
    exact ⟨a, xs, e, .inr h1, h2⟩
  · obtain ⟨a, xs, e, h1, h2⟩ := r.lstR A h
    exact ⟨a, xs, e, .inl h1, h2⟩
def mStar (a : M T) (r : M (List T)) : M (List T) := fun ρ st => (a ρ st).bind fun x st1 => match seqR st1 x with
  | some xs => (r ρ st1).bind fun ys st2 => .ok (xs ++ ys) st2
  | none => .bad
theorem pma_star {a : M T} {r : M (List T)} (ha : PE X e (tM X.K ad (Rep X.K) W a)) (hr : PMA X ad W es r)
    (ps : ∀ {te : TE} {t : TA}, PE X e te → PA X es t → PA X (.Starred e p :: es) (StX.tStar X.K te t)) : PMA X ad W (.Starred e p :: es) (mStar a r) :=
  paW (ps ha hr) fun σ H Q ⟨hd, ρ, as, st, A, E, q⟩ => ⟨hd, ρ, as, st, A, E, Post.step q fun x st1 as1 H1 vx A1 e1 r1 q1 => by
    split at q1
    · rename_i xs ex
      obtain ⟨a, vs, rfl, h1, h2⟩ := r1.seqR A1 ex
      exact ⟨a, vs, rfl, h1.symm, hd, ρ, as1, st1, A1, E.ext e1, Post.step q1 fun y st2 as2 H2 vy A2 e2 r2 q2 => Post.at A2 ((h2.ext e2).append r2) q2⟩
    · exact q1.elim⟩

/-! ### displays -/
def mTup (m : M (List T)) : M T := fun ρ st => (m ρ st).bind fun ts st1 => if ts.length ≤ sizeLine then .ok (.tup ts) st1 else .bad
def mLst (m : M (List T)) : M T := fun ρ st => (m ρ st).bind fun ts st1 => if ts.length ≤ sizeLine then .ok (.lst ts) st1 else .bad
/-- a list that the store keeps -/
def mLstS (m : M (List T)) : M T := fun ρ st => (m ρ st).bind fun ts st1 => if ts.length ≤ sizeLine then .ok (.ref st1.length) (st1 ++ [.lst ts]) else .bad
theorem pm_tup {k : Nat} {m : M (List T)} (h : PMA X ad W es m) : PM X ad W (.Tuple es k pos) (mTup m) :=
  peW (pe_tup h) fun σ H Q ⟨hd, ρ, as, st, A, E, q⟩ => ⟨hd, ρ, as, st, A, E, Post.step q fun x st1 as1 H1 vx A1 e1 r1 q1 => by
    split at q1
    · exact ⟨by rw [r1.length]; assumption, fun p hp => post_newTup A1 hp r1 q1⟩
    · exact q1.elim⟩
theorem pm_lst {m : M (List T)} (h : PMA X ad W es m) : PM X ad W (.List es pos) (mLst m) :=
  peW (pe_lst h) fun σ H Q ⟨hd, ρ, as, st, A, E, q⟩ => ⟨hd, ρ, as, st, A, E, Post.step q fun x st1 as1 H1 vx A1 e1 r1 q1 => by
    split at q1
    · exact ⟨by rw [r1.length]; assumption, fun p hp => post_newLst A1 hp r1 q1⟩
    · exact q1.elim⟩
theorem pm_lstS {m : M (List T)} (h : PMA X ad W es m) : PM X ad W (.List es pos) (mLstS m) :=
  peW (pe_lst h) fun σ H Q ⟨hd, ρ, as, st, A, E, q⟩ => ⟨hd, ρ, as, st, A, E, Post.step q fun x st1 as1 H1 vx A1 e1 r1 q1 => by
    split at q1
    · refine ⟨by rw [r1.length]; assumption, fun p hp => ?_⟩
      obtain ⟨B, ex, r⟩ := A1.newLst hp r1
      exact q1.to B ex r
    · exact q1.elim⟩

/-! ### built-in functions -/
def CallM (X : Cx) (f : Value) (op : List T → Sto → R T) : Prop :=
  ∃ r, CallR X f r ∧ ∀ ad as st H xs ts Q W, Ab X.K ad as st H → Reps X.K ad as H xs ts → Post X.K ad (Rep X.K ad) as H Q W (op ts st) → r xs H Q
def mApp (op : List T → Sto → R T) (m : M (List T)) : M T := fun ρ st => (m ρ st).bind op
theorem CallR.alt {f : Value} {r r' : List V → Hp → VK → Prop} (h : CallR X f r) (h' : CallR X f r') : CallR X f (fun xs H Q => r xs H Q ∨ r' xs H Q) :=
  fun pins s σ H xs us Q I rx q => q.elim (h pins s σ H xs us Q I rx) (h' pins s σ H xs us Q I rx)
theorem tApp {r : List V → Hp → VK → Prop} {op : List T → Sto → R T} {m : M (List T)} (hop : ∀ ad as st H xs ts Q W, Ab X.K ad as st H → Reps X.K ad as H xs ts → Post X.K ad (Rep X.K ad) as H Q W (op ts st) → r xs H Q) :
    ∀ σ H Q, tM X.K ad (Rep X.K) W (mApp op m) σ H Q → tCB r (tM X.K ad (Reps X.K) W m) σ H Q := fun σ H Q ⟨hd, ρ, as, st, A, E, q⟩ =>
  ⟨hd, ρ, as, st, A, E, Post.step q fun x st1 as1 H1 vx A1 e1 r1 q1 => hop _ as1 st1 H1 vx x Q _ A1 r1 q1⟩
theorem pm_callB {x : Str} {id : String} {op : List T → Sto → R T} {m : M (List T)} (hc : CallM X (.builtin id) op) (hg : Gl X x) (hm : X.mg x = none) (hv : bootBuiltins x = some (.builtin id)) (ha : PMA X ad W (e :: es) m) (hn : x ≠ "__name__" := by decide)
    (hdb : (x == ("__debug__" : Str)) = false := by decide) (he : starEach (e :: es) X.env = (false, eval e X.env) :: starEach es X.env := by rfl) (hpl : (backTo pos (starEach es X.env)).any (·.1) = false := by rfl) :
    PM X ad W (.Call (.Name x p) (e :: es) [] pos) (mApp op m) := by
  obtain ⟨r, h1, h2⟩ := hc
  exact peW (pe_callB h1 hg hm hv ha hn hdb he hpl) (tApp h2)
theorem pm_callTy {x : Str} {id : String} {op : List T → Sto → R T} {m : M (List T)} (hc : CallM X (.type id) op) (hg : Gl X x) (hm : X.mg x = none) (hv : bootBuiltins x = some (.type id)) (ha : PMA X ad W (e :: es) m) (hn : x ≠ "__name__" := by decide)
    (hdb : (x == ("__debug__" : Str)) = false := by decide) (he : starEach (e :: es) X.env = (false, eval e X.env) :: starEach es X.env := by rfl) (hpl : (backTo pos (starEach es X.env)).any (·.1) = false := by rfl) :
    PM X ad W (.Call (.Name x p) (e :: es) [] pos) (mApp op m) := by
  obtain ⟨r, h1, h2⟩ := hc
  exact peW (pe_callTy h1 hg hm hv ha hn hdb he hpl) (tApp h2)
theorem Reps.one {K : PySem.W.Frag} {as : List Addr} {H : Hp} {xs : List V} {t : T} (r : Reps K ad as H xs [t]) : ∃ v, xs = [v] ∧ Rep K ad as H v t := by
  cases r with
  | cons a b => cases b; exact ⟨_, rfl, a⟩
theorem Reps.two {K : PySem.W.Frag} {as : List Addr} {H : Hp} {xs : List V} {t u : T} (r : Reps K ad as H xs [t, u]) : ∃ v w, xs = [v, w] ∧ Rep K ad as H v t ∧ Rep K ad as H w u := by
  cases r with
  | cons a b => cases b with
    | cons c d => cases d; exact ⟨_, _, rfl, a, c⟩

/-- len -/
def fLen (xs : List T) (st : Sto) : R T := match xs with
  | [.str s] => if s.length ≤ sizeLine then .ok (.int s.length) st else .bad
  | [.byt b] => if b.size ≤ sizeLine then .ok (.int b.size) st else .bad
  | [t] => match seqR st t with
    | some ts => .ok (.int ts.length) st
    | none => .bad
  | _ => .bad
theorem cm_len : CallM X (.builtin "len") fLen := by
  refine ⟨_, CallR.alt call_len call_len_seq, fun ad as st H xs ts Q W A r q => ?_⟩
  unfold fLen at q
  split at q
  · obtain ⟨v, rfl, rv⟩ := r.one
    obtain rfl := rv.strI
    split at q
    · exact .inl ⟨_, _, rfl, ⟨by assumption, rfl⟩, Post.at A (.int _) q⟩
    · exact q.elim
  · obtain ⟨v, rfl, rv⟩ := r.one
    obtain rfl := rv.bytI
    split at q
    · exact .inl ⟨_, _, rfl, ⟨by assumption, rfl⟩, Post.at A (.int _) q⟩
    · exact q.elim
  · obtain ⟨v, rfl, rv⟩ := r.one
    split at q
    · rename_i ts e
      obtain ⟨a, vs, rfl, h1, h2⟩ := rv.seqR A e
      refine .inr ⟨a, vs, rfl, h1, ?_⟩
      rw [h2.length]
      exact Post.at A (.int _) q
    · exact q.elim
  · exact q.elim
/-- int of an int or a bool -/
def fInt (xs : List T) (st : Sto) : R T := match xs with
  | [.int i] => .ok (.int i) st
  | [.bl b] => .ok (.int (if b then 1 else 0)) st
  | _ => .bad
theorem cm_int : CallM X (.type "int") fInt := by
  refine ⟨_, call_int1, fun ad as st H xs ts Q W A r q => ?_⟩
  unfold fInt at q
  split at q
  · obtain ⟨v, rfl, rv⟩ := r.one
    obtain rfl := rv.intI
    exact .inl ⟨_, rfl, Post.at A (.int _) q⟩
  · obtain ⟨v, rfl, rv⟩ := r.one
    obtain rfl := rv.blI
    exact .inr ⟨_, rfl, Post.at A (.int _) q⟩
  · exact q.elim
def fMax2 (xs : List T) (st : Sto) : R T := match xs with
  | [.int i, .int j] => .ok (.int (if j > i then j else i)) st
  | _ => .bad
theorem cm_max2 (hc : X.calm = true) : CallM X (.builtin "max") fMax2 := by
  refine ⟨_, call_max2 hc, fun ad as st H xs ts Q W A r q => ?_⟩
  unfold fMax2 at q
  split at q
  · obtain ⟨v, w, rfl, rv, rw⟩ := r.two
    obtain rfl := rv.intI
    obtain rfl := rw.intI
    exact ⟨_, _, rfl, Post.at A (.int _) q⟩
  · exact q.elim
def fMin2 (xs : List T) (st : Sto) : R T := match xs with
  | [.int i, .int j] => .ok (.int (if j < i then j else i)) st
  | _ => .bad
theorem cm_min2 (hc : X.calm = true) : CallM X (.builtin "min") fMin2 := by
  refine ⟨_, call_min2 hc, fun ad as st H xs ts Q W A r q => ?_⟩
  unfold fMin2 at q
  split at q
  · obtain ⟨v, w, rfl, rv, rw⟩ := r.two
    obtain rfl := rv.intI
    obtain rfl := rw.intI
    exact ⟨_, _, rfl, Post.at A (.int _) q⟩
  · exact q.elim
/-- tuple -/
def fTuple (xs : List T) (st : Sto) : R T := match xs with
  | [.tup ts] => .ok (.tup ts) st
  | [t] => match lstR st t with
    | some ts => .ok (.tup ts) st
    | none => .bad
  | _ => .bad
theorem cm_tuple : CallM X (.type "tuple") fTuple := by
  refine ⟨_, call_tuple_of, fun ad as st H xs ts Q W A r q => ?_⟩
  unfold fTuple at q
  split at q
  · obtain ⟨v, rfl, rv⟩ := r.one
    obtain ⟨a, vs, rfl, h1, h2⟩ := rv.tupI
    exact ⟨a, vs, rfl, .inr ⟨h1, Post.at A rv q⟩⟩
  · obtain ⟨v, rfl, rv⟩ := r.one
    split at q
    · rename_i ts e
      obtain ⟨a, vs, rfl, h1, h2⟩ := rv.lstR A e
      exact ⟨a, vs, rfl, .inl ⟨h1, fun l hl => post_newTup A hl h2 q⟩⟩
    · exact q.elim
  · exact q.elim
/-- list, as a tree; as an object of the store -/
def fList (xs : List T) (st : Sto) : R T := match xs with
  | [t] => match seqR st t with
    | some ts => .ok (.lst ts) st
    | none => .bad
  | _ => .bad
def fListS (xs : List T) (st : Sto) : R T := match xs with
  | [t] => match seqR st t with
    | some ts => .ok (.ref st.length) (st ++ [.lst ts])
    | none => .bad
  | _ => .bad
theorem cm_list : CallM X (.type "list") fList := by
  refine ⟨_, call_list_of, fun ad as st H xs ts Q W A r q => ?_⟩
  unfold fList at q
  split at q
  · obtain ⟨v, rfl, rv⟩ := r.one
    split at q
    · rename_i ts e
      obtain ⟨a, vs, rfl, h1, h2⟩ := rv.seqR A e
      exact ⟨a, vs, rfl, h1, fun l hl => post_newLst A hl h2 q⟩
    · exact q.elim
  · exact q.elim
theorem cm_listS : CallM X (.type "list") fListS := by
  refine ⟨_, call_list_of, fun ad as st H xs ts Q W A r q => ?_⟩
  unfold fListS at q
  split at q
  · obtain ⟨v, rfl, rv⟩ := r.one
    split at q
    · rename_i ts e
      obtain ⟨a, vs, rfl, h1, h2⟩ := rv.seqR A e
      refine ⟨a, vs, rfl, h1, fun l hl => ?_⟩
      obtain ⟨B, ex, r⟩ := A.newLst hl h2
      exact q.to B ex r
    · exact q.elim
  · exact q.elim
/-- a list of truth values -/
def blsOf : List T → Option (List Bool)
  | [] => some []
  | .bl b :: ts => (blsOf ts).map (b :: ·)
  | _ => none
theorem Reps.bls {K : PySem.W.Frag} {as : List Addr} {H : Hp} : ∀ {xs : List V} {ts : List T} {bs : List Bool}, Reps K ad as H xs ts → blsOf ts = some bs → xs = bs.map V.bl
  | _, _, _, .nil, h => by simp only [blsOf, Option.some.injEq] at h; subst h; rfl
  | _, _, _, .cons (.bl b) s, h => by
    simp only [blsOf, Option.map_eq_some_iff] at h
    obtain ⟨bs, h1, rfl⟩ := h
    rw [Reps.bls s h1]; rfl
  | _, _, _, .cons .non _, h | _, _, _, .cons (.int _) _, h | _, _, _, .cons (.str _) _, h | _, _, _, .cons (.byt _) _, h | _, _, _, .cons (.ty _) _, h
  | _, _, _, .cons (.tup _ _) _, h | _, _, _, .cons (.lst _ _) _, h | _, _, _, .cons (.frz _ _) _, h | _, _, _, .cons (.dct _ _ _ _) _, h | _, _, _, .cons (.ref _) _, h | _, _, _, .cons (.adr _) _, h => by simp [blsOf] at h
def fAll (xs : List T) (st : Sto) : R T := match xs with
  | [t] => match (lstR st t).bind blsOf with
    | some bs => .ok (.bl (bs.all id)) st
    | none => .bad
  | _ => .bad
def fAny (xs : List T) (st : Sto) : R T := match xs with
  | [t] => match (lstR st t).bind blsOf with
    | some bs => .ok (.bl (bs.any id)) st
    | none => .bad
  | _ => .bad
end
end Mi

/-! MiMore: all, any, sum, repr, isinstance, slices, and, or, not, conditional expressions, own defs. -/
namespace Mi
open PySem L2

section
variable {X : Cx} {ad : Ad} {W : WX} {pos p : Pos} {e a b c : Expr} {es rest : List Expr}

theorem cm_all (hc : X.calm = true) : CallM X (.builtin "all") fAll := by
  refine ⟨_, cr_all hc, fun ad as st H xs ts Q W A r q => ?_⟩
  unfold fAll at q
  split at q
  · obtain ⟨v, rfl, rv⟩ := r.one
    split at q
    · rename_i bs e
      obtain ⟨ts, e1, e2⟩ := Option.bind_eq_some_iff.mp e
      obtain ⟨a, vs, rfl, h1, h2⟩ := rv.lstR A e1
      obtain rfl := h2.bls e2
      exact ⟨a, bs, rfl, h1, Post.at A (.bl _) q⟩
    · exact q.elim
  · exact q.elim
theorem cm_any (hc : X.calm = true) : CallM X (.builtin "any") fAny := by
  refine ⟨_, cr_any hc, fun ad as st H xs ts Q W A r q => ?_⟩
  unfold fAny at q
  split at q
  · obtain ⟨v, rfl, rv⟩ := r.one
    split at q
    · rename_i bs e
      obtain ⟨ts, e1, e2⟩ := Option.bind_eq_some_iff.mp e
      obtain ⟨a, vs, rfl, h1, h2⟩ := rv.lstR A e1
      obtain rfl := h2.bls e2
      exact ⟨a, bs, rfl, h1, Post.at A (.bl _) q⟩
    · exact q.elim
  · exact q.elim
/-- a list of ints -/
def intsOf : List T → Option (List Int)
  | [] => some []
  | .int b :: ts => (intsOf ts).map (b :: ·)
  | _ => none
theorem Reps.ints {K : PySem.W.Frag} {as : List Addr} {H : Hp} : ∀ {xs : List V} {ts : List T} {bs : List Int}, Reps K ad as H xs ts → intsOf ts = some bs → xs = bs.map V.int
  | _, _, _, .nil, h => by simp only [intsOf, Option.some.injEq] at h; subst h; rfl
  | _, _, _, .cons (.int b) s, h => by
    simp only [intsOf, Option.map_eq_some_iff] at h
    obtain ⟨bs, h1, rfl⟩ := h
    rw [Reps.ints s h1]; rfl
  | _, _, _, .cons .non _, h | _, _, _, .cons (.bl _) _, h | _, _, _, .cons (.str _) _, h | _, _, _, .cons (.byt _) _, h | _, _, _, .cons (.ty _) _, h
  | _, _, _, .cons (.tup _ _) _, h | _, _, _, .cons (.lst _ _) _, h | _, _, _, .cons (.frz _ _) _, h | _, _, _, .cons (.dct _ _ _ _) _, h | _, _, _, .cons (.ref _) _, h | _, _, _, .cons (.adr _) _, h => by simp [intsOf] at h
def fSum (xs : List T) (st : Sto) : R T := match xs with
  | [t] => match (lstR st t).bind intsOf with
    | some bs => .ok (.int bs.sum) st
    | none => .bad
  | _ => .bad
theorem cm_sum (hc : X.calm = true) : CallM X (.builtin "sum") fSum := by
  refine ⟨_, cr_sum hc, fun ad as st H xs ts Q W A r q => ?_⟩
  unfold fSum at q
  split at q
  · obtain ⟨v, rfl, rv⟩ := r.one
    split at q
    · rename_i bs e
      obtain ⟨ts, e1, e2⟩ := Option.bind_eq_some_iff.mp e
      obtain ⟨a, vs, rfl, h1, h2⟩ := rv.lstR A e1
      obtain rfl := h2.ints e2
      exact ⟨a, bs, rfl, h1, Post.at A (.int _) q⟩
    · exact q.elim
  · exact q.elim

/-! ### isinstance, a built-in class -/
def tyName (st : Sto) : T → Option String
  | .non => some "NoneType"
  | .bl _ => some "bool"
  | .int _ => some "int"
  | .str _ => some "str"
  | .byt _ => some "bytes"
  | .tup _ => some "tuple"
  | .lst _ => some "list"
  | .frz _ => some "list"
  | .dct _ _ => some "dict"
  | .ref i => match st[i]? with
    | some (.lst _) => some "list"
    | _ => none
  | _ => none
def isTy (a b : String) : Option Bool := if ["NoneType", "bool", "int", "str", "bytes", "tuple", "list", "dict"].contains a && ["int", "bool", "str", "bytes", "tuple", "list", "dict"].contains b then some (a == b || (a == "bool" && b == "int")) else none
def fIsi (xs : List T) (st : Sto) : R T := match xs with
  | [t, .ty n] => match (tyName st t).bind fun a => isTy a n with
    | some r => .ok (.bl r) st
    | none => .bad
  | _ => .bad
theorem isTy_kit {K : PySem.W.Frag} {a b : String} {r : Bool} (h : isTy a b = some r) : PySem.W.kitOne K (.type a) (.type b) = some r := by
  unfold isTy at h
  split at h
  · rename_i c
    simp only [List.contains_cons, List.contains_nil, Bool.or_false, Bool.and_eq_true, Bool.or_eq_true, beq_iff_eq] at c
    obtain ⟨c1, c2⟩ := c
    cases h
    rcases c1 with rfl | rfl | rfl | rfl | rfl | rfl | rfl | rfl <;> rcases c2 with rfl | rfl | rfl | rfl | rfl | rfl | rfl <;> exact kit_ty (by decide +kernel)
  · cases h
theorem Rep.tyX {K : PySem.W.Frag} {as : List Addr} {H : Hp} {st : Sto} {v : V} {t : T} {n : String} (A : Ab K ad as st H) (r : Rep K ad as H v t) (h : tyName st t = some n) : TyX K H v (.type n) := by
  cases r with
  | non => cases h; exact .base .non
  | bl b => cases h; exact .base (.bl b)
  | int b => cases h; exact .base (.int b)
  | str b => cases h; exact .base (.str b)
  | byt b => cases h; exact .byt b
  | ty b => cases h
  | adr b => cases h
  | tup q s =>
    cases h
    rcases q with ⟨_, q | ⟨o, q⟩⟩ | q
    · exact .base (.tup q)
    · exact .fTuple q
    · rcases q with (q | ⟨o, q⟩) | ⟨o, its, m, q, q2, _⟩
      · cases q
      · cases q
      · exact .kTuple q q2
  | lst q s => cases h; exact .base (.lst q.2)
  | frz q s =>
    cases h
    rcases q with ⟨_, o, q⟩ | q
    · exact .base (.frz q)
    · rcases q with (q | ⟨o, q⟩) | ⟨o, its, m, q, q2, _⟩
      · cases q
      · cases q
      · exact .kList q q2
  | dct _ q _ _ => cases h; exact .base (.dK q)
  | ref q =>
    simp only [tyName] at h
    split at h
    · rename_i e
      cases h
      obtain ⟨a, h2, xs, h3, h4⟩ := A.get e
      rw [q] at h2; cases h2
      exact .base (.lst h3)
    · cases h
theorem cm_isi : CallM X (.builtin "isinstance") fIsi := by
  refine ⟨_, call_isi, fun ad as st H xs ts Q W A r q => ?_⟩
  unfold fIsi at q
  split at q
  · obtain ⟨v, w, rfl, rv, rw⟩ := r.two
    cases rw
    split at q
    · rename_i e
      obtain ⟨a, e1, e2⟩ := Option.bind_eq_some_iff.mp e
      exact ⟨_, _, _, _, _, rfl, .ty _, rv.tyX A e1, isTy_kit e2, Post.at A (.bl _) q⟩
    · exact q.elim
  · exact q.elim

/-! ### repr -/
section
variable {pins : List (Addr × Obj)} {σ : St} {H : Hp} {s : Shared} {as : List Addr}
theorem keys_read {h : Heap} {P : Program} {w : World} : ∀ {kvs : List (Key × V)} {vs : List (Key × Value)} {es : List DictEntry}, KV kvs vs → Pairs (mixKind P w) es vs →
    ReadsAll h (es.map (·.key)) ((kvs.map (·.1)).map keyPd) [] ∧ Vals (kvs.map (·.2)) (es.map (·.val))
  | _, _, _, .nil, .nil => ⟨.nil, .nil⟩
  | (k, x) :: _, (k', u) :: _, e :: _, .cons ⟨h1, h2⟩ t, .cons q1 q2 q3 => by
    obtain ⟨a1, a2⟩ := keys_read t q3
    have h1 : k = k' := h1
    subst h1
    have q1 : keyIs k e.key = true := q1
    have q2 : e.val = u := q2
    have h2 : RelV x u := h2
    refine ⟨?_, .cons (show RelV x e.val by rw [q2]; exact h2) a2⟩
    have hk : Reads h e.key (keyPd k) [] := by
      rcases keyIs_shape q1 with ⟨i, t, rfl, e⟩ | ⟨y, t, rfl, e⟩
      · rw [e]; exact Reads.int i t
      · rw [e]; exact Reads.str y t
    exact ReadsAll.cons hk a1
mutual
theorem Rep.reads (I : Inv X pins σ H s) (hn : H sysModules = none) : ∀ {v : V} {t : T} {d : PyData} {u : Value}, Rep X.K ad as H v t → t.pd = some d → RelV v u → ∃ bs, Reads s.heap u d bs ∧ sysModules ∉ bs
  | _, _, _, _, .non, h, r => by simp only [T.pd, Option.some.injEq] at h; subst h; cases r; exact ⟨_, Reads.none, by simp⟩
  | _, _, _, _, .bl b, h, r => by simp only [T.pd, Option.some.injEq] at h; subst h; cases r; exact ⟨_, Reads.bool b, by simp⟩
  | _, _, _, _, .int i, h, r => by simp only [T.pd, Option.some.injEq] at h; subst h; obtain ⟨t, rfl⟩ := r; exact ⟨_, Reads.int i t, by simp⟩
  | _, _, _, _, .str i, h, r => by simp only [T.pd, Option.some.injEq] at h; subst h; obtain ⟨t, rfl⟩ := r; exact ⟨_, Reads.str i t, by simp⟩
  | _, _, _, _, .byt _, h, _ | _, _, _, _, .ty _, h, _ | _, _, _, _, .frz _ _, h, _ | _, _, _, _, .ref _, h, _ | _, _, _, _, .adr _, h, _ => by simp only [T.pd, reduceCtorEq] at h
  | _, _, _, _, .tup q rs, h, r => by
    simp only [T.pd, Option.map_eq_some_iff] at h
    obtain ⟨ds, h1, rfl⟩ := h
    cases r
    obtain ⟨its, rv, ⟨o, ho, hc, n, hd⟩, _⟩ := I.tuple q.sq
    obtain ⟨bs, hr, hz⟩ := Reps.reads I hn rs h1 rv
    exact ⟨_, Reads.tuple ho hc hd hr, hz⟩
  | _, _, _, _, .lst (a := a) q rs, h, r => by
    simp only [T.pd, Option.map_eq_some_iff] at h
    obtain ⟨ds, h1, rfl⟩ := h
    cases r
    obtain ⟨its, rv, ⟨o, n, ho, hc, _, hd⟩, _⟩ := I.list (SqL.of q.2)
    obtain ⟨bs, hr, hz⟩ := Reps.reads I hn rs h1 rv
    exact ⟨_, Reads.list ho hc hd hr, fun hm => by
      rcases List.mem_cons.mp hm with e | hm
      · have q2 := q.2
        rw [← e, hn] at q2; cases q2
      · exact hz hm⟩
  | _, _, _, _, .dct (a := a) (kvs := kvs) nn q hk rs, h, r => by
    simp only [T.pd, Option.map_eq_some_iff] at h
    obtain ⟨ds, h1, rfl⟩ := h
    cases r
    obtain ⟨_, _, vs, hv, o, es, ep, ho, hx, hd, _, hp, _⟩ := (show ObjOk X.prog X.w H s.heap a (.dK kvs) from I.hok a _ q)
    obtain ⟨a1, a2⟩ := keys_read (h := s.heap) hv hp
    obtain ⟨bs, hr, hz⟩ := Reps.reads I hn rs h1 a2
    subst hk
    have hl : ds.length = kvs.length := by
      have e1 := SeqAt.ReadsAll.length _ _ _ hr
      have e2 := a2.length
      simp only [List.length_map] at e1 e2
      omega
    have z1 : ((((kvs.map (·.1)).map keyPd).zip ds).map (·.1)) = (kvs.map (·.1)).map keyPd := by
      rw [List.map_fst_zip]
      simp [hl]
    have z2 : ((((kvs.map (·.1)).map keyPd).zip ds).map (·.2)) = ds := by
      rw [List.map_snd_zip]
      simp [hl]
    refine ⟨_, Reads.dict (as := []) (bs := bs) ho hx.1 hd (by rw [z1]; exact a1) (by rw [z2]; exact hr), fun hm => ?_⟩
    rcases List.mem_append.mp hm with hm | hm
    · have e : sysModules = a := by simpa using hm
      rw [← e, hn] at q; cases q
    · exact hz hm
theorem Reps.reads (I : Inv X pins σ H s) (hn : H sysModules = none) : ∀ {v : List V} {t : List T} {d : List PyData} {u : List Value}, Reps X.K ad as H v t → T.pds t = some d → Vals v u → ∃ bs, ReadsAll s.heap u d bs ∧ sysModules ∉ bs
  | _, _, _, _, .nil, h, r => by
    simp only [T.pds, Option.some.injEq] at h; subst h; cases r; exact ⟨_, ReadsAll.nil, by simp⟩
  | _, _, _, _, .cons r1 r2, h, r => by
    obtain ⟨d1, d2, h1, h2, rfl⟩ := T.pds_cons h
    cases r with
    | cons q1 q2 =>
      obtain ⟨bs, a1, z1⟩ := Rep.reads I hn r1 h1 q1
      obtain ⟨cs, a2, z2⟩ := Reps.reads I hn r2 h2 q2
      exact ⟨_, ReadsAll.cons a1 a2, fun hm => (List.mem_append.mp hm).elim z1 z2⟩
end
/-- sys.modules is not tracked -/
theorem Inv.noMods (I : Inv X pins σ H s) (hm : ∃ o, X.base.get? sysModules = some o) : H sysModules = none := by
  obtain ⟨o, e⟩ := hm
  exact (I.bs _ _ e).2
/-- a store's list read at its place -/
theorem Rep.readsNow {st : Sto} {v : V} {t : T} {d : PyData} {u : Value} (I : Inv X pins σ H s) (hn : H sysModules = none) (A : Ab X.K ad as st H) (r : Rep X.K ad as H v t) (h : (now st t).pd = some d) (rv : RelV v u) :
    ∃ bs, Reads s.heap u d bs ∧ sysModules ∉ bs := by
  unfold now at h
  split at h
  · rename_i i
    split at h
    · rename_i ts e
      simp only [T.pd, Option.map_eq_some_iff] at h
      obtain ⟨ds, h1, rfl⟩ := h
      obtain ⟨a, h2, xs, h3, h4⟩ := A.get e
      cases r with
      | ref h5 =>
        rw [h2] at h5; cases h5
        cases rv
        obtain ⟨its, rv, ⟨o, n, ho, hc, _, hd⟩, _⟩ := I.list (SqL.of h3)
        obtain ⟨bs, hr, hz⟩ := Reps.reads I hn h4 h1 rv
        exact ⟨_, Reads.list ho hc hd hr, fun hm => by
          rcases List.mem_cons.mp hm with e | hm
          · rw [← e, hn] at h3; cases h3
          · exact hz hm⟩
    · simp only [T.pd, reduceCtorEq] at h
  · exact Rep.reads I hn r h rv
end
/-- the text of a value -/
def reprOf (st : Sto) (t : T) : Option Str := match (now st t).pd with
  | some d => if d.showable && decide (d.shown.length ≤ sizeLine) && decide (d.depth ≤ 64) then some d.shown else none
  | none => none
def fRepr (xs : List T) (st : Sto) : R T := match xs with
  | [t] => match reprOf st t with
    | some z => .ok (.str z) st
    | none => .bad
  | _ => .bad
theorem cm_repr {k : Nat} (S : Sit X W k) : CallM X (.builtin "repr") fRepr := by
  refine ⟨fun xs H Q => ∃ ad as st v t z, xs = [v] ∧ Ab X.K ad as st H ∧ Rep X.K ad as H v t ∧ reprOf st t = some z ∧ Q (.str z) H, ?_, fun ad as st H xs ts Q W A r q => ?_⟩
  · intro pins s σ H xs us Q I r h
    obtain ⟨ad, as, st, v, t, z, rfl, A, rv, e, q⟩ := h
    obtain ⟨u, rfl, ru⟩ := vals1 r
    unfold reprOf at e
    split at e
    · rename_i d hd
      split at e
      · rename_i hc
        cases e
        simp only [Bool.and_eq_true, decide_eq_true_eq] at hc
        obtain ⟨⟨h1, h2⟩, h3⟩ := hc
        obtain ⟨bs, hr, hz⟩ := Rep.readsNow I (Inv.noMods I S.sm) A rv hd ru
        have hu := S.rm.un
        have fin : ∀ tk tk', EP X pins σ Q (.str d.shown tk') { s with toks := tk } := fun tk tk' => ⟨.str d.shown, H, I.tok _, ⟨_, rfl⟩, q⟩
        have isref : ∀ {a : Addr}, u = .ref a → wpAny (model X.prog X.w) X.A (call (.builtin "repr") [u]) (EP X pins σ Q) X.xe s := fun {a} ea => by
          subst ea
          exact repr_of_reads' hr h1 (fun _ => hz) S.gd (by omega) (fun b o e => e) (fun h' u tk hk => ⟨.str d.shown, H, I.kept (t' := tk) hk, ⟨_, rfl⟩, q⟩) h2
        cases hr with
        | none => exact PySem.P.repr_of_none (fin _ _)
        | bool b => exact PySem.P.repr_of_bool (fin _ _)
        | int i t => exact PySem.P.repr_of_int (by simpa only [PyData.showable, decide_eq_true_eq] using h1) (fin _ _)
        | str x t => exact PySem.P.repr_of_str (fin _ _) h2
        | list _ _ _ _ => exact isref rfl
        | tuple _ _ _ _ => exact isref rfl
        | dict _ _ _ _ _ => exact isref rfl
      · cases e
    · cases e
  · unfold fRepr at q
    split at q
    · obtain ⟨v, rfl, rv⟩ := r.one
      split at q
      · exact ⟨ad, as, st, v, _, _, rfl, A, rv, by assumption, Post.at A (.str _) q⟩
      · exact q.elim
    · exact q.elim
end
end Mi

/-! MiCtl: slices, and, or, not, conditional expressions, chains, own defs called. -/
namespace Mi
open PySem L2

section
variable {X : Cx} {ad : Ad} {W : WX} {pos p p2 : Pos} {e a b c : Expr} {es rest : List Expr}

/-! ### slices -/
def cutT (xs : List T) (lo hi : Option Int) : List T := (xs.drop (HT.sIx xs.length 0 lo)).take (HT.sIx xs.length xs.length hi - HT.sIx xs.length 0 lo)
theorem Reps.cut {K : PySem.W.Frag} {as : List Addr} {H : Hp} {xs : List V} {ts : List T} (r : Reps K ad as H xs ts) (lo hi : Option Int) : Reps K ad as H (cutV xs lo hi) (cutT ts lo hi) := by
  unfold cutV cutT
  rw [r.length]
  exact (r.drop _).take _
def opSl (x : T) (lo hi : Option Int) (st : Sto) : R T := match x with
  | .tup ts => .ok (.tup (cutT ts lo hi)) st
  | .str z => if z.length ≤ sizeLine then .ok (.str (cutS z lo hi)) st else .bad
  | .byt b => if b.size ≤ 16777216 then .ok (.byt (PySem.W.KBy.picked b lo hi)) st else .bad
  | x => match lstR st x with
    | some ts => .ok (.lst (cutT ts lo hi)) st
    | none => .bad
def mNoPart : M (Option Int) := fun _ st => .ok none st
def mPart (m : M T) : M (Option Int) := fun ρ st => (m ρ st).bind fun x st1 => match x with
  | .int i => .ok (some i) st1
  | _ => .bad
theorem pmo_none : PMO X ad W none mNoPart := poW po_none fun _ _ _ ⟨_, _, _, _, A, _, q⟩ => Post.at A rfl q
theorem pmo_some {m : M T} (h : PM X ad W e m) : PMO X ad W (some e) (mPart m) :=
  poW (po_some h) fun σ H Q ⟨hd, ρ, as, st, A, E, q⟩ => ⟨hd, ρ, as, st, A, E, Post.step q fun x st1 as1 H1 vx A1 e1 r1 q1 => by
    cases r1 with
    | int i => exact ⟨i, rfl, Post.at A1 rfl q1⟩
    | _ => exact q1.elim⟩
def mSl (m : M T) (l u : M (Option Int)) : M T := fun ρ st => (m ρ st).bind fun x st1 => (l ρ st1).bind fun lo st2 => (u ρ st2).bind fun hi st3 => opSl x lo hi st3
theorem pm_sl {m : M T} {l u : M (Option Int)} {lo hi : Option Expr} (he : PM X ad W e m) (hl : PMO X ad W lo l) (hu : PMO X ad W hi u) : PM X ad W (.Subscript e (.Slice lo hi none p2) pos) (mSl m l u) := by
  refine peW (pe_slice (sl_tupA.or (sl_str.or (sl_list.or sl_byt))) he hl hu) fun σ H Q ⟨hd, ρ, as, st, A, E, q⟩ =>
    ⟨hd, ρ, as, st, A, E, Post.step q fun x st1 as1 H1 vx A1 e1 r1 q1 => ⟨hd, ρ, as1, st1, A1, E.ext e1, Post.step q1 fun lo st2 as2 H2 vl A2 e2 r2 q2 =>
      ⟨hd, ρ, as2, st2, A2, (E.ext e1).ext e2, Post.step q2 fun hi st3 as3 H3 vh A3 e3 r3 q3 => ?_⟩⟩⟩
  obtain rfl := r2
  obtain rfl := r3
  replace r1 := (r1.ext e2).ext e3
  unfold opSl at q3
  split at q3
  · rename_i ts
    obtain ⟨a, xs, rfl, h1, h2⟩ := r1.tupI
    refine .inl ⟨a, xs, rfl, h1, fun hw => ?_, fun _ p hp => post_newTup A3 hp (h2.cut _ _) q3⟩
    have : cutT ts vl vh = ts := by
      unfold cutT
      rw [h2.length] at hw
      rw [hw.1, hw.2]
      simp
    rw [this] at q3
    exact Post.at A3 r1 q3
  · split at q3
    · exact .inr (.inl ⟨_, r1.strI, by assumption, Post.at A3 (.str _) q3⟩)
    · exact q3.elim
  · split at q3
    · exact .inr (.inr (.inr ⟨_, r1.bytI, by assumption, Post.at A3 (.byt _) q3⟩))
    · exact q3.elim
  · split at q3
    · rename_i ts e
      obtain ⟨a, xs, rfl, h1, h2⟩ := r1.lstR A3 e
      exact .inr (.inr (.inl ⟨a, xs, rfl, h1, fun p hp => post_newLst A3 hp (h2.cut _ _) q3⟩))
    · exact q3.elim

/-! ### -x -/
def opNeg (x : T) (st : Sto) : R T := match x with
  | .int i => .ok (.int (-i)) st
  | _ => .bad
def mUn (op : T → Sto → R T) (m : M T) : M T := fun ρ st => (m ρ st).bind op
theorem pm_neg {m : M T} (h : PM X ad W a m) : PM X ad W (.UnaryOp .USub a pos) (mUn opNeg m) :=
  peW (pe_un un_neg h) fun σ H Q ⟨hd, ρ, as, st, A, E, q⟩ => ⟨hd, ρ, as, st, A, E, Post.step q fun x st1 as1 H1 vx A1 e1 r1 q1 => by
    cases r1 with
    | int i => exact ⟨i, rfl, Post.at A1 (.int _) q1⟩
    | _ => exact q1.elim⟩

/-! ### and, or, not: values -/
def mAnd (a b : M T) : M T := fun ρ st => (a ρ st).bind fun x st1 => match x with
  | .bl true => b ρ st1
  | .bl false => .ok (.bl false) st1
  | _ => .bad
def mOr (a b : M T) : M T := fun ρ st => (a ρ st).bind fun x st1 => match x with
  | .bl true => .ok (.bl true) st1
  | .bl false => b ρ st1
  | _ => .bad
def mNot (a : M T) : M T := fun ρ st => (a ρ st).bind fun x st1 => match x with
  | .bl b => .ok (.bl (!b)) st1
  | _ => .bad
theorem pm_one {o : BoolOp} {m : M T} (h : PM X ad W a m) : PM X ad W (.BoolOp o [a] pos) m := pe_one h
theorem pm_and {ma mb : M T} (ha : PM X ad W a ma) (hb : PM X ad W (.BoolOp .And (b :: rest) pos) mb) : PM X ad W (.BoolOp .And (a :: b :: rest) pos) (mAnd ma mb) :=
  peW (pe_and ha hb) fun σ H Q ⟨hd, ρ, as, st, A, E, q⟩ => ⟨hd, ρ, as, st, A, E, Post.step q fun x st1 as1 H1 vx A1 e1 r1 q1 => by
    cases r1 with
    | bl c =>
      refine ⟨c, rfl, ?_⟩
      cases c with
      | true => exact iteT ⟨hd, ρ, as1, st1, A1, E.ext e1, q1⟩
      | false => exact iteF (Post.at A1 (.bl _) q1)
    | _ => exact q1.elim⟩
theorem pm_or {ma mb : M T} (ha : PM X ad W a ma) (hb : PM X ad W (.BoolOp .Or (b :: rest) pos) mb) : PM X ad W (.BoolOp .Or (a :: b :: rest) pos) (mOr ma mb) :=
  peW (pe_or ha hb) fun σ H Q ⟨hd, ρ, as, st, A, E, q⟩ => ⟨hd, ρ, as, st, A, E, Post.step q fun x st1 as1 H1 vx A1 e1 r1 q1 => by
    cases r1 with
    | bl c =>
      refine ⟨c, rfl, ?_⟩
      cases c with
      | false => exact iteF ⟨hd, ρ, as1, st1, A1, E.ext e1, q1⟩
      | true => exact iteT (Post.at A1 (.bl _) q1)
    | _ => exact q1.elim⟩
theorem pm_not {ma : M T} (ha : PM X ad W a ma) : PM X ad W (.UnaryOp .Not a pos) (mNot ma) :=
  peW (pe_not ha) fun σ H Q ⟨hd, ρ, as, st, A, E, q⟩ => ⟨hd, ρ, as, st, A, E, Post.step q fun x st1 as1 H1 vx A1 e1 r1 q1 => by
    cases r1 with
    | bl c => exact ⟨c, rfl, Post.at A1 (.bl _) q1⟩
    | _ => exact q1.elim⟩
/-! ### tests -/
def mTAnd (a b : M Bool) : M Bool := fun ρ st => (a ρ st).bind fun x st1 => match x with
  | true => b ρ st1
  | false => .ok false st1
def mTOr (a b : M Bool) : M Bool := fun ρ st => (a ρ st).bind fun x st1 => match x with
  | true => .ok true st1
  | false => b ρ st1
def mTNot (a : M Bool) : M Bool := fun ρ st => (a ρ st).bind fun x st1 => .ok (!x) st1
theorem pmw_and1 {m : M Bool} (h : PMT X ad W a m) : PMW X ad W (.BoolOp .And [a] pos) m := pw_and1 h
theorem pmw_or1 {m : M Bool} (h : PMT X ad W a m) : PMW X ad W (.BoolOp .Or [a] pos) m := pw_or1 h
theorem pmw_and {ma mb : M Bool} (ha : PMT X ad W a ma) (hb : PMW X ad W (.BoolOp .And (b :: rest) pos) mb) : PMW X ad W (.BoolOp .And (a :: b :: rest) pos) (mTAnd ma mb) :=
  pwW (pw_and ha hb) fun σ H Q ⟨hd, ρ, as, st, A, E, q⟩ => ⟨hd, ρ, as, st, A, E, Post.step q fun x st1 as1 H1 vx A1 e1 r1 q1 => by
    obtain rfl := r1
    cases vx with
    | true => exact iteT ⟨hd, ρ, as1, st1, A1, E.ext e1, q1⟩
    | false => exact iteF (Post.at A1 rfl q1)⟩
theorem pmw_or {ma mb : M Bool} (ha : PMT X ad W a ma) (hb : PMW X ad W (.BoolOp .Or (b :: rest) pos) mb) : PMW X ad W (.BoolOp .Or (a :: b :: rest) pos) (mTOr ma mb) :=
  pwW (pw_or ha hb) fun σ H Q ⟨hd, ρ, as, st, A, E, q⟩ => ⟨hd, ρ, as, st, A, E, Post.step q fun x st1 as1 H1 vx A1 e1 r1 q1 => by
    obtain rfl := r1
    cases vx with
    | false => exact iteF ⟨hd, ρ, as1, st1, A1, E.ext e1, q1⟩
    | true => exact iteT (Post.at A1 rfl q1)⟩
theorem pmt_bool {m : M Bool} {o : BoolOp} (h : PMW X ad W (.BoolOp o es pos) m) : PMT X ad W (.BoolOp o es pos) m := h.pt
theorem pmt_not {m : M Bool} (h : PMT X ad W a m) : PMT X ad W (.UnaryOp .Not a pos) (mTNot m) :=
  ptW (pt_not h) fun σ H Q ⟨hd, ρ, as, st, A, E, q⟩ => ⟨hd, ρ, as, st, A, E, Post.step q fun x st1 as1 H1 vx A1 e1 r1 q1 => by
    obtain rfl := r1
    exact Post.at A1 rfl q1⟩
/-! ### a if c else b -/
def mIte (c : M Bool) (a b : M T) : M T := fun ρ st => (c ρ st).bind fun x st1 => match x with
  | true => a ρ st1
  | false => b ρ st1
theorem pm_ite {mc : M Bool} {ma mb : M T} (hc : PMT X ad W c mc) (ha : PM X ad W a ma) (hb : PM X ad W b mb) : PM X ad W (.IfExp c a b pos) (mIte mc ma mb) :=
  peW (pe_ifExp hc ha hb) fun σ H Q ⟨hd, ρ, as, st, A, E, q⟩ => ⟨hd, ρ, as, st, A, E, Post.step q fun x st1 as1 H1 vx A1 e1 r1 q1 => by
    obtain rfl := r1
    cases vx with
    | true => exact iteT ⟨hd, ρ, as1, st1, A1, E.ext e1, q1⟩
    | false => exact iteF ⟨hd, ρ, as1, st1, A1, E.ext e1, q1⟩⟩
/-! ### x < y < z -/
def mChain (op op' : T → T → Sto → R T) (a b c : M T) : M T := fun ρ st => (a ρ st).bind fun x st1 => (b ρ st1).bind fun y st2 => (op x y st2).bind fun r st3 => match r with
  | .bl true => (c ρ st3).bind fun z st4 => op' y z st4
  | .bl false => .ok (.bl false) st3
  | _ => .bad
theorem pure_op {op : T → T → Sto → R T} {x y : T} {st st' : Sto} {t : T} (h : op x y st = .ok t st') : op x y st = .ok t st' := h
/-- an operator's answer, and what goes on from it -/
theorem op_then {K : PySem.W.Frag} {ad : Ad} {f : Value → Value → Sem Value} {r : R2} {op : T → T → Sto → R T} (h2 : ∀ ad as st H x y tx ty Q W, Ab K ad as st H → Rep K ad as H x tx → Rep K ad as H y ty → Post K ad (Rep K ad) as H Q W (op tx ty st) → r x y H Q)
    {as : List Addr} {st : Sto} {H : Hp} {x y : V} {tx ty : T} {W' : XK} {g : T → Sto → R T} {Q Q' : V → Hp → Prop} (A : Ab K ad as st H) (rx : Rep K ad as H x tx) (ry : Rep K ad as H y ty) (q : Post K ad (Rep K ad) as H Q' W' ((op tx ty st).bind g))
    (k : ∀ t st1 as1 H1 v, Ab K ad as1 st1 H1 → Ext as H as1 H1 → Rep K ad as1 H1 v t → Post K ad (Rep K ad) as1 H1 Q' W' (g t st1) → Q v H1) : r x y H Q := h2 ad as st H x y tx ty Q W' A rx ry (Post.step q k)
theorem pm_chain {o o' : CmpOp} {op op' : T → T → Sto → R T} {ma mb mc : M T} (ho : OpM X (compareOp o) op) (ho' : OpM X (compareOp o') op') (ha : PM X ad W a ma) (hb : PM X ad W b mb) (hc : PM X ad W c mc)
    (hm : lastMarks [o, o'] [b, c] = false := by with_unfolding_all rfl) : PM X ad W (.Compare a [o, o'] [b, c] pos) (mChain op op' ma mb mc) := by
  obtain ⟨r, h1, h2⟩ := ho
  obtain ⟨r', h1', h2'⟩ := ho'
  refine peW (pe_chain h1 h1' ha hb hc hm) fun σ H Q ⟨hd, ρ, as, st, A, E, q⟩ => ⟨hd, ρ, as, st, A, E, Post.step q fun x st1 as1 H1 vx A1 e1 r1 q1 => ⟨hd, ρ, as1, st1, A1, E.ext e1, Post.step q1 fun y st2 as2 H2 vy A2 e2 r2 q2 => ?_⟩⟩
  refine op_then (f := compareOp o) h2 A2 (r1.ext e2) r2 q2 fun t st3 as3 H3 v A3 e3 r3 q3 => ?_
  cases r3 with
  | bl k =>
    refine ⟨k, rfl, ?_⟩
    cases k with
    | true => exact iteT ⟨hd, ρ, as3, st3, A3, ((E.ext e1).ext e2).ext e3, Post.step q3 fun z st4 as4 H4 vz A4 e4 r4 q4 => h2' _ as4 st4 H4 _ _ _ _ Q _ A4 ((r2.ext e3).ext e4) r4 q4⟩
    | false => exact iteF (Post.at A3 (.bl _) q3)
  | _ => exact q3.elim
theorem ptM_chain {o o' : CmpOp} {op op' : T → T → Sto → R T} {ma mb mc : M T} (ho : OpM X (compareOp o) op) (ho' : OpM X (compareOp o') op') (ha : PM X ad W a ma) (hb : PM X ad W b mb) (hc : PM X ad W c mc)
    (hm : lastMarks [o, o'] [b, c] = false := by with_unfolding_all rfl) : PMT X ad W (.Compare a [o, o'] [b, c] pos) (mTest (mChain op op' ma mb mc)) := by
  obtain ⟨r, h1, h2⟩ := ho
  obtain ⟨r', h1', h2'⟩ := ho'
  refine ptW (pt_chain h1 h1' ha hb hc hm) fun σ H Q h => ?_
  obtain ⟨hd, ρ, as, st, A, E, q⟩ := tTest_ σ H Q h
  refine ⟨hd, ρ, as, st, A, E, Post.step q fun x st1 as1 H1 vx A1 e1 r1 q1 => ⟨hd, ρ, as1, st1, A1, E.ext e1, Post.step q1 fun y st2 as2 H2 vy A2 e2 r2 q2 => ?_⟩⟩
  refine op_then (f := compareOp o) h2 A2 (r1.ext e2) r2 q2 fun t st3 as3 H3 v A3 e3 r3 q3 => ?_
  cases r3 with
  | bl k =>
    refine ⟨k, rfl, ?_⟩
    cases k with
    | true => exact iteT ⟨hd, ρ, as3, st3, A3, ((E.ext e1).ext e2).ext e3, Post.step q3 fun z st4 as4 H4 vz A4 e4 r4 q4 => h2' _ as4 st4 H4 _ _ _ _ _ _ A4 ((r2.ext e3).ext e4) r4 q4⟩
    | false => exact iteF (Post.at A3 (.bl _) q3)
  | _ => exact q3.elim
end

/-! ### own defs -/
section
variable {X : Cx} {ad : Ad} {W : WX} {k n : Nat} {f : Addr} {fd : FuncData} {ps : List Str} {F : List T → Sto → R T} {x : Str} {p pos : Pos} {e : Expr} {es : List Expr}
theorem run_gn {sp : Sp} {pins : List (Addr × Obj)} {σ : St} {H : Hp} {s : Shared} {Q : VK} {us : List Value} {vs : List V} (G : GnOk X.prog X.w X.K X.mg X.base k f fd ps sp) (S : Sit X W k) (hb : Binds X.K fd ps [])
    (I : Inv X pins σ H s) (r : Vals vs us) (h : sp vs H Q fun u d H' => W u d σ H') : wpAny (model X.prog X.w) X.A (call (.ref f) us) (EP X pins σ Q) X.xe s := by
  have hl : us.length = ps.length := by rw [← r.length]; exact G.len _ _ _ _ h
  have bb := hb s us I.kIn (by simpa using hl)
  rw [List.append_nil] at bb
  refine wpAny_call (codeAny_mono (G.run X.A X.stack s H ⟨us, []⟩ us vs Q _ S.rm S.gd I.env0 bb r h) fun q s' hq => ?_)
  cases q with
  | error e => exact S.tk e s' (XE.of_call I (fun _ _ _ z => z) hq)
  | ok fl =>
    cases fl with
    | ret u => exact I.after hq
    | next => exact False.elim hq
    | brk => exact False.elim hq
    | cont => exact False.elim hq
theorem pm_call {m : M (List T)} (G : GnOk X.prog X.w X.K X.mg X.base k f fd ps (spF X.K ad n F)) (S : Sit X W k) (hg : Gl X x) (hm : X.mg x = some (.ref f)) (hk : PySem.W.keepIn X.K (.ref f) = true) (hb : Binds X.K fd ps [])
    (ha : PMA X ad W (e :: es) m) (hdb : (x == ("__debug__" : Str)) = false := by decide) (he : starEach (e :: es) X.env = (false, eval e X.env) :: starEach es X.env := by rfl) (hpl : (backTo pos (starEach es X.env)).any (·.1) = false := by rfl) :
    PM X ad W (.Call (.Name x p) (e :: es) [] pos) (mApp (fun ts st => if ts.length = n then F ts st else .bad) m) := by
  refine ⟨fun pins s σ H Q I ⟨hd, ρ, as, st, A, E, q⟩ => wpAny_Call_Name_kw (ld_glob I hg hm ?_ hdb)⟩
  refine PySem.W.callWith_K (h₀ := X.base) I.ok.mod.kin hk (thn (ha.run pos pins s σ H _ I ⟨hd, ρ, as, st, A, E, Post.step (Q := fun vs H1 => spF X.K ad n F vs H1 Q fun u d H' => W u d σ H') q fun ts st1 as1 H1 vs A1 e1 r1 q1 => ?_⟩) fun us s1 ⟨vs, H1, I1, r, q⟩ => ⟨I1.kIn, ?_⟩) he hpl
  · split at q1
    · exact ⟨by rw [r1.length]; assumption, hd, as1, st1, ts, A1, r1, q1⟩
    · exact q1.elim
  · exact run_gn G S hb I1 r q
theorem pm_call0 (G : GnOk X.prog X.w X.K X.mg X.base k f fd ps (spF X.K ad 0 F)) (S : Sit X W k) (hg : Gl X x) (hm : X.mg x = some (.ref f)) (hk : PySem.W.keepIn X.K (.ref f) = true) (hb : Binds X.K fd ps [])
    (hdb : (x == ("__debug__" : Str)) = false := by decide) : PM X ad W (.Call (.Name x p) [] [] pos) (mApp (fun ts st => if ts.length = 0 then F ts st else .bad) mNil) := by
  refine ⟨fun pins s σ H Q I ⟨hd, ρ, as, st, A, E, q⟩ => wpAny_Call_Name_kw (ld_glob I hg hm ?_ hdb)⟩
  exact PySem.W.callWith_K0 I.kIn hk (run_gn (us := []) (vs := []) G S hb I .nil ⟨rfl, hd, as, st, [], A, .nil, q⟩)
end
end Mi

/-! MiStmt: statements, targets, loops. -/
namespace Mi
open PySem L2

/-- a statement's end -/
inductive RS where
  | nx (ρ : Sl) (st : Sto)
  | rt (t : T) (st : Sto)
  | bk (ρ : Sl) (st : Sto)
  | ct (ρ : Sl) (st : Sto)
  | ex (e : Exn) (ρ : Sl) (st : Sto)
  | bad
abbrev SM := Sl → Sto → RS

section
variable (K : PySem.W.Frag) (ad : Ad)
def PostS (as : List Addr) (H : Hp) (D : Ends) (W : WX) : RS → Prop
  | .nx ρ st => ∀ as' H' σ', Ab K ad as' st H' → Ext as H as' H' → En K ad as' H' σ' ρ → D.nx σ' H'
  | .rt t st => ∀ as' H' v, Ab K ad as' st H' → Ext as H as' H' → Rep K ad as' H' v t → D.rt v H'
  | .bk ρ st => ∀ as' H' σ', Ab K ad as' st H' → Ext as H as' H' → En K ad as' H' σ' ρ → D.bk σ' H'
  | .ct ρ st => ∀ as' H' σ', Ab K ad as' st H' → Ext as H as' H' → En K ad as' H' σ' ρ → D.ct σ' H'
  | .ex e ρ st => ∀ as' H' σ' u d, Ab K ad as' st H' → Ext as H as' H' → En K ad as' H' σ' ρ → ExRep K ad as' H' e u d → W u d σ' H'
  | .bad => False
def tS (W : WX) (m : SM) : TS := fun D σ H => ∃ hd ρ as st, Ab K (ad.hide hd) as st H ∧ En K (ad.hide hd) as H σ ρ ∧ PostS K (ad.hide hd) as H D W (m ρ st)
end
abbrev PMS (X : Cx) (ad : Ad) (W : WX) (s : Stmt) (m : SM) : Prop := PS X s (tS X.K ad W m)
abbrev PMSs (X : Cx) (ad : Ad) (W : WX) (s : List Stmt) (m : SM) : Prop := PSs X s (tS X.K ad W m)

/-- an expression, then the rest of a statement -/
def RS.of {α : Type} (r : R α) (ρ : Sl) (f : α → Sto → RS) : RS := match r with
  | .ok a st => f a st
  | .exc e st => .ex e ρ st
  | .bad => .bad
@[simp] theorem RS.of_ok {α : Type} (a : α) (st : Sto) (ρ : Sl) (f : α → Sto → RS) : RS.of (.ok a st) ρ f = f a st := rfl

section
variable {K : PySem.W.Frag} {ad : Ad} {as as' : List Addr} {H H' : Hp} {st : Sto} {σ : St} {ρ : Sl} {D D' : Ends} {W : WX}
theorem PostS.ext (e : Ext as H as' H') {r : RS} (h : PostS K ad as H D W r) : PostS K ad as' H' D W r := by
  cases r with
  | nx ρ st => exact fun a b c A e2 E => h a b c A (e.trans e2) E
  | rt t st => exact fun a b c A e2 E => h a b c A (e.trans e2) E
  | bk ρ st => exact fun a b c A e2 E => h a b c A (e.trans e2) E
  | ct ρ st => exact fun a b c A e2 E => h a b c A (e.trans e2) E
  | ex x ρ st => exact fun a b c u d A e2 E => h a b c u d A (e.trans e2) E
  | bad => exact h
theorem PostS.nxAt (A : Ab K ad as st H) (E : En K ad as H σ ρ) (h : PostS K ad as H D W (.nx ρ st)) : D.nx σ H := h as H σ A Ext.refl E
/-- an expression's end, from the statement's -/
theorem PostS.expr {α β : Type} {Rl : List Addr → Hp → β → α → Prop} {r : R α} {f : α → Sto → RS} {Q : β → Hp → Prop} (E : En K ad as H σ ρ) (h : PostS K ad as H D W (RS.of r ρ f))
    (k : ∀ t st1 as1 H1 v, Ab K ad as1 st1 H1 → Ext as H as1 H1 → Rl as1 H1 v t → PostS K ad as1 H1 D W (f t st1) → Q v H1) : Post K ad Rl as H Q (fun u d H' => W u d σ H') r := by
  cases r with
  | ok t st' => exact fun as1 H1 v A e r => k t st' as1 H1 v A e r (PostS.ext e h)
  | exc x st' => exact fun as1 H1 u d A e r => h as1 H1 σ u d A e (E.ext e) r
  | bad => exact h
/-- the first statement's end, from the block's -/
def RS.seq (r : RS) (f : Sl → Sto → RS) : RS := match r with
  | .nx ρ st => f ρ st
  | r => r
theorem PostS.seq {r : RS} {f : Sl → Sto → RS} {N : St → Hp → Prop} (h : PostS K ad as H D W (r.seq f))
    (k : ∀ ρ st1 as1 H1 σ1, Ab K ad as1 st1 H1 → Ext as H as1 H1 → En K ad as1 H1 σ1 ρ → PostS K ad as1 H1 D W (f ρ st1) → N σ1 H1) : PostS K ad as H { D with nx := N } W r := by
  cases r with
  | nx ρ st => exact fun as1 H1 σ1 A e E => k ρ st as1 H1 σ1 A e E (PostS.ext e h)
  | rt t st => exact h
  | bk ρ st => exact h
  | ct ρ st => exact h
  | ex x ρ st => exact h
  | bad => exact h
end

section
variable {X : Cx} {ad : Ad} {W : WX} {pos p p2 : Pos} {e c : Expr} {s : Stmt} {ss a b : List Stmt}

def sNil : SM := fun ρ st => .nx ρ st
def sCons (m r : SM) : SM := fun ρ st => (m ρ st).seq r
theorem pms_nil : PMSs X ad W [] sNil := pssW pss_nil fun _ _ _ ⟨_, _, _, _, A, E, q⟩ => PostS.nxAt A E q
theorem pms_cons {m r : SM} (h1 : PMS X ad W s m) (h2 : PMSs X ad W ss r) : PMSs X ad W (s :: ss) (sCons m r) :=
  pssW (pss_cons h1 h2) fun D σ H ⟨hd, ρ, as, st, A, E, q⟩ => ⟨hd, ρ, as, st, A, E, PostS.seq q fun ρ1 st1 as1 H1 σ1 A1 e1 E1 q1 => ⟨hd, ρ1, as1, st1, A1, E1, q1⟩⟩
theorem pms_pass : PMS X ad W (.Pass pos) sNil := psW ps_pass fun _ _ _ ⟨_, _, _, _, A, E, q⟩ => PostS.nxAt A E q
def sBreak : SM := fun ρ st => .bk ρ st
def sCont : SM := fun ρ st => .ct ρ st
theorem pms_break : PMS X ad W (.Break pos) sBreak := psW ps_break fun _ _ _ ⟨_, _, as, _, A, E, q⟩ => q as _ _ A Ext.refl E
theorem pms_cont : PMS X ad W (.Continue pos) sCont := psW ps_continue fun _ _ _ ⟨_, _, as, _, A, E, q⟩ => q as _ _ A Ext.refl E
def sRet (m : M T) : SM := fun ρ st => RS.of (m ρ st) ρ fun t st1 => .rt t st1
theorem pms_ret {m : M T} (h : PM X ad W e m) : PMS X ad W (.Return (some e) pos) (sRet m) :=
  psW (ps_ret h) fun D σ H ⟨hd, ρ, as, st, A, E, q⟩ => ⟨hd, ρ, as, st, A, E, PostS.expr E q fun t st1 as1 H1 v A1 e1 r1 q1 => q1 as1 H1 v A1 Ext.refl r1⟩
def sRetN : SM := fun ρ st => .rt .non st
theorem pms_retN : PMS X ad W (.Return none pos) sRetN := psW ps_retN fun D σ H ⟨hd, ρ, as, st, A, E, q⟩ => q as H .non A Ext.refl .non
def sExpr (m : M T) : SM := fun ρ st => RS.of (m ρ st) ρ fun _ st1 => .nx ρ st1
theorem pms_expr {m : M T} (h : PM X ad W e m) (hs : swapsWith e none pos.line X.env = pure false := by rfl) : PMS X ad W (.Expr e pos) (sExpr m) :=
  psW (ps_expr h hs) fun D σ H ⟨hd, ρ, as, st, A, E, q⟩ => ⟨hd, ρ, as, st, A, E, PostS.expr E q fun t st1 as1 H1 v A1 e1 r1 q1 => PostS.nxAt A1 (E.ext e1) q1⟩
def sIf (c : M Bool) (a b : SM) : SM := fun ρ st => RS.of (c ρ st) ρ fun x st1 => match x with
  | true => a ρ st1
  | false => b ρ st1
theorem pms_if {mc : M Bool} {ma mb : SM} (hc : PMT X ad W c mc) (ha : PMSs X ad W a ma) (hb : PMSs X ad W b mb) : PMS X ad W (.If c a b pos) (sIf mc ma mb) :=
  psW (ps_if hc ha hb) fun D σ H ⟨hd, ρ, as, st, A, E, q⟩ => ⟨hd, ρ, as, st, A, E, PostS.expr E q fun t st1 as1 H1 v A1 e1 r1 q1 => by
    obtain rfl := r1
    cases v with
    | true => exact iteT ⟨hd, ρ, as1, st1, A1, E.ext e1, q1⟩
    | false => exact iteF ⟨hd, ρ, as1, st1, A1, E.ext e1, q1⟩⟩
/-- a statement that no way comes to -/
def sNever : SM := fun _ _ => .bad
theorem pms_never : PMS X ad W s sNever := psW ps_never fun _ _ _ ⟨_, _, _, _, _, _, q⟩ => q

/-! ### targets -/
abbrev GM := T → Sl → Sto → R Sl
def tG (K : PySem.W.Frag) (ad : Ad) (g : GM) : TG := fun v σ H Q => ∃ hd ρ as st t, Ab K (ad.hide hd) as st H ∧ En K (ad.hide hd) as H σ ρ ∧ Rep K (ad.hide hd) as H v t ∧
  Post K (ad.hide hd) (En K (ad.hide hd)) as H (fun σ' H' => Q σ' H') (fun _ _ _ => False) (g t ρ st)
abbrev PMG (X : Cx) (ad : Ad) (e : Expr) (g : GM) : Prop := PG X e (tG X.K ad g)
def gSet (i : Nat) : GM := fun t ρ st => .ok (ρ.set i (some t)) st
theorem pmg_name {i : Nat} {x : Str} (h : PG X (.Name x pos) (gName i)) : PMG X ad (.Name x pos) (gSet i) :=
  pgW h fun v σ H Q ⟨hd, ρ, as, st, t, A, E, r, q⟩ => q as H _ A Ext.refl (E.set r)
/-- several targets, the items of a tuple -/
abbrev GsM := List T → Sl → Sto → R Sl
def tGs (K : PySem.W.Frag) (ad : Ad) (g : GsM) : TGs := fun vs σ H Q => ∃ hd ρ as st ts, Ab K (ad.hide hd) as st H ∧ En K (ad.hide hd) as H σ ρ ∧ Reps K (ad.hide hd) as H vs ts ∧
  Post K (ad.hide hd) (En K (ad.hide hd)) as H (fun σ' H' => Q σ' H') (fun _ _ _ => False) (g ts ρ st)
theorem pgsW {es : List Expr} {t t' : TGs} (h : PGs X es t) (w : ∀ v σ H Q, t' v σ H Q → t v σ H Q) : PGs X es t' := ⟨fun pins s σ H v u Q I r q => h.run pins s σ H v u Q I r (w _ _ _ _ q)⟩
def gsNil : GsM := fun ts ρ st => match ts with
  | [] => .ok ρ st
  | _ => .bad
def gsCons (g : GM) (r : GsM) : GsM := fun ts ρ st => match ts with
  | t :: ts => (g t ρ st).bind fun ρ1 st1 => r ts ρ1 st1
  | [] => .bad
theorem pmgs_nil : PGs X [] (tGs X.K ad gsNil) := pgsW pgs_nil fun v σ H Q ⟨hd, ρ, as, st, ts, A, E, r, q⟩ => by
  cases r with
  | nil => exact ⟨rfl, q as H _ A Ext.refl E⟩
  | cons _ _ => exact q.elim
theorem pmgs_cons {es : List Expr} {g : GM} {r : GsM} (h1 : PMG X ad e g) (h2 : PGs X es (tGs X.K ad r)) (hs : (assignEach (e :: es) X.env).map (·.2) = assign e X.env :: (assignEach es X.env).map (·.2) := by rfl) : PGs X (e :: es) (tGs X.K ad (gsCons g r)) :=
  pgsW (pgs_cons h1 h2 hs) fun v σ H Q ⟨hd, ρ, as, st, ts, A, E, r, q⟩ => by
    cases r with
    | nil => exact q.elim
    | cons r1 r2 => exact ⟨_, _, rfl, hd, ρ, as, st, _, A, E, r1, Post.step q fun ρ1 st1 as1 H1 σ1 A1 e1 E1 q1 => ⟨hd, ρ1, as1, st1, _, A1, E1, r2.ext e1, q1⟩⟩
def gTupM (n : Nat) (g : GsM) : GM := fun t ρ st => match seqR st t with
  | some ts => if ts.length = n then g ts ρ st else .bad
  | none => .bad
theorem pg_alt {t1 t2 : TG} (h1 : PG X e t1) (h2 : PG X e t2) : PG X e (fun v σ H Q => t1 v σ H Q ∨ t2 v σ H Q) :=
  ⟨fun pins s σ H v u Q I r q => q.elim (h1.run pins s σ H v u Q I r) (h2.run pins s σ H v u Q I r)⟩
theorem pmg_tup {es : List Expr} {k n : Nat} {g : GsM} (hc : X.calm = true) (h : PGs X es (tGs X.K ad g)) (hn : (assignEach es X.env).length = n := by rfl) (hst : (assignEach es X.env).findIdx? (·.1) = none := by rfl) :
    PMG X ad (.Tuple es k pos) (gTupM n g) := pgW (pg_alt (pg_tup hc h hn hst) (pg_unl hc h hn hst)) fun v σ H Q ⟨hd, ρ, as, st, t, A, E, r, q⟩ => by
  unfold gTupM at q
  split at q
  · rename_i ts e
    split at q
    · obtain ⟨a, xs, rfl, h1, h2⟩ := r.seqR A e
      rcases h1 with h1 | h1
      · exact .inr ⟨a, xs, rfl, h1, by rw [h2.length]; assumption, hd, ρ, as, st, _, A, E, h2, q⟩
      · exact .inl ⟨a, xs, rfl, h1, by rw [h2.length]; assumption, hd, ρ, as, st, _, A, E, h2, q⟩
    · exact q.elim
  · exact q.elim
/-- target = value -/
def sAsg (m : M T) (g : GM) : SM := fun ρ st => RS.of (m ρ st) ρ fun t st1 => match g t ρ st1 with
  | .ok ρ2 st2 => .nx ρ2 st2
  | _ => .bad
theorem postG {hd : List Addr} {as : List Addr} {H : Hp} {D : Ends} {r : R Sl} (q : PostS X.K (ad.hide hd) as H D W (match r with | .ok ρ2 st2 => .nx ρ2 st2 | _ => .bad)) :
    Post X.K (ad.hide hd) (En X.K (ad.hide hd)) as H (fun σ' H' => D.nx σ' H') (fun _ _ _ => False) r := by
  cases r with
  | ok ρ st => exact q
  | exc _ _ => exact q.elim
  | bad => exact q
theorem pms_set {m : M T} {x : Str} {i : Nat} {pos' : Pos} (hN : X.N.Nodup) (hi : X.N[i]? = some x) (hx : Loc X.env.scope x) (h : PM X ad W e m) (hs : swapsWith e (some (.Name x pos')) pos.line X.env = pure false := by rfl)
    (hf : X.fn x = true ∨ X.env.scope.names.lookup x = some .local := by first | exact .inl rfl | exact .inr rfl | assumption) : PMS X ad W (.Assign [.Name x pos'] e pos) (sAsg m (gSet i)) :=
  psW (ps_set hN hi hx h hs hf) fun D σ H ⟨hd, ρ, as, st, A, E, q⟩ => ⟨hd, ρ, as, st, A, E, PostS.expr E q fun t st1 as1 H1 v A1 e1 r1 q1 => PostS.nxAt A1 ((E.ext e1).set r1) q1⟩
theorem pms_asg {m : M T} {tg : Expr} {g : GM} (h : PM X ad W e m) (hg : PMG X ad tg g) (hs : swapsWithSole [tg] e pos.line X.env = pure false := by rfl) (hw : swappedStores [tg] e X.env = pure none := by rfl)
    (h1 : (assignEach [tg] X.env).map (·.2) = [assign tg X.env] := by rfl) : PMS X ad W (.Assign [tg] e pos) (sAsg m g) :=
  psW (ps_asg h hg hs hw h1) fun D σ H ⟨hd, ρ, as, st, A, E, q⟩ => ⟨hd, ρ, as, st, A, E, PostS.expr E q fun t st1 as1 H1 v A1 e1 r1 q1 => ⟨hd, ρ, as1, st1, t, A1, E.ext e1, r1, postG q1⟩⟩
/-- a, b = x, y: plain local names -/
def sPar (i j : Nat) (m : M (List T)) : SM := fun ρ st => RS.of (m ρ st) ρ fun ts st1 => match ts with
  | [t, u] => .nx ((ρ.set i (some t)).set j (some u)) st1
  | _ => .bad
theorem pms_par {i j : Nat} {x y : Str} {a b : Expr} {m : M (List T)} {px py pt : Pos} {kt k2 : Nat} {pt2 : Pos} (h : PMA X ad W [a, b] m)
    (pp : ∀ {ta : TA}, PA X [a, b] ta → PS X (.Assign [.Tuple [.Name x px, .Name y py] kt pt] (.Tuple [a, b] k2 pt2) pos) (tPar i j ta)) :
    PMS X ad W (.Assign [.Tuple [.Name x px, .Name y py] kt pt] (.Tuple [a, b] k2 pt2) pos) (sPar i j m) :=
  psW (pp h) fun D σ H ⟨hd, ρ, as, st, A, E, q⟩ => ⟨hd, ρ, as, st, A, E, PostS.expr E q fun t st1 as1 H1 v A1 e1 r1 q1 => by
    split at q1
    · obtain ⟨v, w, rfl, rv, rw⟩ := r1.two
      exact ⟨v, w, rfl, PostS.nxAt A1 (((E.ext e1).set rv).set rw) q1⟩
    · exact q1.elim⟩
/-- x op= e -/
def sAug (i : Nat) (op : T → T → Sto → R T) (m : M T) : SM := fun ρ st => match ρ[i]? with
  | some (some x) => RS.of (m ρ st) ρ fun y st1 => match op x y st1 with
    | .ok z st2 => .nx (ρ.set i (some z)) st2
    | _ => .bad
  | _ => .bad
/-- xs[i] = e -/
def gItem (mo mi : M T) : GM := fun t ρ st => (mo ρ st).bind fun o st1 => (mi ρ st1).bind fun i st2 => match o, i with
  | .ref r, .int k => match st2[r]? with
    | some (.lst ts) => match ixN ts.length k with
      | some j => .ok ρ (st2.set r (.lst (ts.set j t)))
      | none => .bad
    | _ => .bad
  | _, _ => .bad
theorem pmg_item {o i : Expr} {mo mi : M T} (ho : PM X ad W o mo) (hi : PM X ad W i mi)
    (ha : ∀ v, assign (.Subscript o i pos) X.env v = (do
      let ov ← holding [v] (eval o X.env)
      let iv ← holding [v, ov] (eval i X.env)
      standAt pos
      holding [v, ov, iv] (setItem ov iv v)
      release [v, ov, iv] []) := by intro _; rfl) : PMG X ad (.Subscript o i pos) (gItem mo mi) :=
  pgW (pg_sub ho hi set_list ha) fun v σ H Q ⟨hd, ρ, as, st, t, A, E, r, q⟩ => ⟨hd, ρ, as, st, A, E, Post.imp (Post.step q fun ot st1 as1 H1 vo A1 e1 r1 q1 =>
    (⟨hd, ρ, as1, st1, A1, E.ext e1, Post.imp (Post.step q1 fun it st2 as2 H2 vi A2 e2 r2 q2 => by
      split at q2
      · split at q2
        · rename_i ts hs
          split at q2
          · rename_i j hj
            obtain rfl := r2.intI
            obtain ⟨a, h2, xs, h3, h4⟩ := A2.get hs
            have r1 := r1.ext e2
            cases r1 with
            | ref h5 =>
              rw [h2] at h5; cases h5
              refine ⟨a, xs, _, j, rfl, rfl, h3, by rw [h4.length]; exact hj, ?_⟩
              obtain ⟨B, ex⟩ := A2.putLst h2 hs h3 (h4.set ((r.ext e1).ext e2) j)
              exact q2.to B ex (((E.ext e1).ext e2).ext ex)
          · exact q2.elim
        · exact q2.elim
      · exact q2.elim) (fun _ _ z => z) (fun _ _ _ z => z.elim)⟩ : tM X.K ad (Rep X.K) W mi σ H1 _)) (fun _ _ z => z) (fun _ _ _ z => z.elim)⟩

/-! ### what is walked -/
inductive Wk where
  | seq (ts : List T)
  | live (r : Nat)
  | dyn (n : Nat) (f : Sto → Nat → Option (Option T))
def liveAt (st : Sto) (r i : Nat) : Option T := match st[r]? with
  | some (.lst ts) => ts[i]?
  | _ => none
def liveLen (st : Sto) (r : Nat) : Nat := match st[r]? with
  | some (.lst ts) => ts.length
  | _ => 0
/-- the iterator J yields these, also where further lists are being made -/
def ItOk (K : PySem.W.Frag) (ad : Ad) (J : It) (as0 : List Addr) (H0 : Hp) : Wk → Prop
  | .seq ts => ∀ (hd : List Addr), (∀ D ∈ hd, D ∈ ad.hid ∨ H0 D = none) → ∀ (i : Nat) as st H, Ab K (ad.hide hd) as st H → Ext as0 H0 as H → match ts[i]? with
    | none => J.stop i H
    | some t => J.go i H ∧ ∀ x H', J.yld i H x H' → Ab K (ad.hide hd) as st H' ∧ Ext as H as H' ∧ Rep K (ad.hide hd) as H' x t
  | .live r => ∀ (hd : List Addr) (i : Nat) as st H, Ab K (ad.hide hd) as st H → Ext as0 H0 as H → (∃ ts, st[r]? = some (.lst ts)) → match liveAt st r i with
    | none => J.stop i H
    | some t => J.go i H ∧ ∀ x H', J.yld i H x H' → Ab K (ad.hide hd) as st H' ∧ Ext as H as H' ∧ Rep K (ad.hide hd) as H' x t
  | .dyn _ f => ∀ (hd : List Addr), (∀ D ∈ hd, D ∈ ad.hid ∨ H0 D = none) → ∀ (i : Nat) as st H, Ab K (ad.hide hd) as st H → Ext as0 H0 as H → ∀ z, f st i = some z → match z with
    | none => J.stop i H
    | some t => J.go i H ∧ ∀ x H', J.yld i H x H' → Ab K (ad.hide hd) as st H' ∧ Ext as H as H' ∧ Rep K (ad.hide hd) as H' x t
section
variable {K : PySem.W.Frag} {ad : Ad} {as as' : List Addr} {H H' : Hp} {hd : List Addr}
mutual
theorem Rep.extH (e : Ext as H as' H') (hh : ∀ D ∈ hd, D ∈ ad.hid ∨ H D = none) : ∀ {v : V} {t : T}, Rep K ad as H v t → Rep K (ad.hide hd) as' H' v t
  | _, _, .non => .non
  | _, _, .bl b => .bl b
  | _, _, .int b => .int b
  | _, _, .str b => .str b
  | _, _, .byt b => .byt b
  | _, _, .ty b => .ty b
  | _, _, .tup h r => .tup (h.ext e) (Reps.extH e hh r)
  | _, _, .lst h r => .lst ⟨⟨(h.ext e).1.1, fun z => (hh _ z).elim h.1.2 fun n => by rw [h.2] at n; cases n⟩, (h.ext e).2⟩ (Reps.extH e hh r)
  | _, _, .frz h r => .frz (h.ext e) (Reps.extH e hh r)
  | _, _, .dct n h k r => .dct ⟨e.nin n.1 h, fun z => (hh _ z).elim n.2 fun q => by rw [h] at q; cases q⟩ (e.kp n.1 h) k (Reps.extH e hh r)
  | _, _, .ref h => .ref (e.get h)
  | _, _, .adr i => .adr (ad := ad.hide hd) i
theorem Reps.extH (e : Ext as H as' H') (hh : ∀ D ∈ hd, D ∈ ad.hid ∨ H D = none) : ∀ {v : List V} {t : List T}, Reps K ad as H v t → Reps K (ad.hide hd) as' H' v t
  | _, _, .nil => .nil
  | _, _, .cons r s => .cons (Rep.extH e hh r) (Reps.extH e hh s)
end
end
def tI (K : PySem.W.Frag) (ad : Ad) (W : WX) (m : M Wk) : TI := fun σ H R => ∃ hd ρ as st, Ab K (ad.hide hd) as st H ∧ En K (ad.hide hd) as H σ ρ ∧
  Post K (ad.hide hd) (fun as1 H1 J it => ItOk K (ad.hide hd) J as1 H1 it) as H R (fun u d H' => W u d σ H') (m ρ st)
abbrev PMI (X : Cx) (ad : Ad) (W : WX) (tg iter : Expr) (m : M Wk) : Prop := PI X tg iter (tI X.K ad W m)
theorem piW {tg iter : Expr} {t t' : TI} (h : PI X tg iter t) (w : ∀ σ H R, t' σ H R → t σ H R) : PI X tg iter t' := ⟨fun pins s σ H R I q => h.run pins s σ H R I (w _ _ _ q)⟩
/-- a list or a tuple -/
def itSeq (x : T) (st : Sto) : R Wk := match x with
  | .tup ts => .ok (.seq ts) st
  | .lst ts => .ok (.seq ts) st
  | .frz ts => .ok (.seq ts) st
  | .byt b => .ok (.seq (b.toList.map fun c => .int ((c.toNat : Nat) : Int))) st
  | .ref r => match st[r]? with
    | some (.lst _) => .ok (.live r) st
    | _ => .bad
  | _ => .bad
def mIt (m : M T) : M Wk := fun ρ st => (m ρ st).bind itSeq
theorem itOk_lst {K : PySem.W.Frag} {ad : Ad} {as : List Addr} {H : Hp} {a : Addr} {xs : List V} {ts : List T} (h : ∀ as' H', Ext as H as' H' → SqL K H' a xs) (r : Reps K ad as H xs ts) :
    ItOk K ad (Itl K a) as H (.seq ts) := fun hd hh i as1 st1 H1 A e => by
  cases et : ts[i]? with
  | none =>
    refine ⟨xs, h _ _ e, ?_⟩
    rw [r.length]
    exact List.getElem?_eq_none_iff.mp et
  | some t =>
    obtain ⟨x, h1, h2⟩ := r.get et
    refine ⟨⟨xs, x, h _ _ e, h1⟩, fun y H' ⟨e1, e2⟩ => ?_⟩
    subst e1
    have := e2 xs (h _ _ e)
    rw [h1] at this; cases this
    exact ⟨A, Ext.refl, h2.extH e hh⟩
theorem itOk_tup {K : PySem.W.Frag} {ad : Ad} {as : List Addr} {H : Hp} {a : Addr} {xs : List V} {ts : List T} (h : ∀ as' H', Ext as H as' H' → SqT K H' a xs) (r : Reps K ad as H xs ts) :
    ItOk K ad (Itt K a) as H (.seq ts) := fun hd hh i as1 st1 H1 A e => by
  cases et : ts[i]? with
  | none =>
    refine ⟨xs, h _ _ e, ?_⟩
    rw [r.length]
    exact List.getElem?_eq_none_iff.mp et
  | some t =>
    obtain ⟨x, h1, h2⟩ := r.get et
    refine ⟨⟨xs, x, h _ _ e, h1⟩, fun y H' ⟨e1, e2⟩ => ?_⟩
    subst e1
    have := e2 xs (h _ _ e)
    rw [h1] at this; cases this
    exact ⟨A, Ext.refl, h2.extH e hh⟩
theorem itOk_live {K : PySem.W.Frag} {ad : Ad} {as : List Addr} {H : Hp} {a : Addr} {r : Nat} (h : as[r]? = some a) : ItOk K ad (Itl K a) as H (.live r) := fun hd i as1 st1 H1 A e ⟨ts, hs⟩ => by
  obtain ⟨b, h2, xs, h3, h4⟩ := A.get hs
  rw [e.get h] at h2; cases h2
  unfold liveAt
  rw [hs]
  show match ts[i]? with | none => _ | some t => _
  cases et : ts[i]? with
  | none =>
    refine ⟨xs, SqL.of h3, ?_⟩
    rw [h4.length]
    exact List.getElem?_eq_none_iff.mp et
  | some t =>
    obtain ⟨x, h5, h6⟩ := h4.get et
    refine ⟨⟨xs, x, SqL.of h3, h5⟩, fun y H' ⟨e1, e2⟩ => ?_⟩
    subst e1
    have := e2 xs (SqL.of h3)
    rw [h5] at this; cases this
    exact ⟨A, Ext.refl, h6⟩
theorem itOk_byt {K : PySem.W.Frag} {ad : Ad} {as : List Addr} {H : Hp} {b : Array UInt8} : ItOk K ad (Itb b) as H (.seq (b.toList.map fun c => .int ((c.toNat : Nat) : Int))) := fun hd hh i as1 st1 H1 A e => by
  cases et : b[i]? with
  | none =>
    rw [List.getElem?_map, Array.getElem?_toList, et]
    exact Array.getElem?_eq_none_iff.mp et
  | some c =>
    rw [List.getElem?_map, Array.getElem?_toList, et]
    refine ⟨(Array.getElem?_eq_some_iff.mp et).1, fun x H' ⟨e1, d, e2, e3⟩ => ?_⟩
    rw [et] at e2; cases e2
    subst e1; subst e3
    exact ⟨A, Ext.refl, .int _⟩
theorem pmi_seq {tg l : Expr} {m : M T} (h : PM X ad W l m) : PMI X ad W tg l (mIt m) := ⟨fun pins s σ H R I ⟨hd, ρ, as, st, A, E, q⟩ => by
  unfold mIt at q
  cases hm : m ρ st with
  | bad => rw [hm] at q; exact q.elim
  | exc x st1 =>
    rw [hm] at q
    exact (pi_list h).run pins s σ H R I ⟨hd, ρ, as, st, A, E, by rw [hm]; exact q⟩
  | ok x st1 =>
    rw [hm] at q
    replace q : Post X.K (ad.hide hd) (fun as1 H1 J it => ItOk X.K (ad.hide hd) J as1 H1 it) as H R (fun u d H' => W u d σ H') (itSeq x st1) := q
    cases x with
    | tup ts =>
      refine (pi_tup h).run pins s σ H R I ⟨hd, ρ, as, st, A, E, ?_⟩
      rw [hm]
      intro as1 H1 v A1 e1 r1
      cases r1 with
      | tup h1 r1 => exact ⟨_, rfl, ⟨_, h1.sq⟩, q as1 H1 _ A1 e1 (itOk_tup (fun as' H' e => (h1.ext e).sq) r1)⟩
    | lst ts =>
      refine (pi_list h).run pins s σ H R I ⟨hd, ρ, as, st, A, E, ?_⟩
      rw [hm]
      intro as1 H1 v A1 e1 r1
      cases r1 with
      | lst h1 r1 => exact ⟨_, rfl, ⟨_, SqL.of h1.2⟩, q as1 H1 _ A1 e1 (itOk_lst (fun as' H' e => SqL.of (h1.ext e).2) r1)⟩
    | frz ts =>
      refine (pi_list h).run pins s σ H R I ⟨hd, ρ, as, st, A, E, ?_⟩
      rw [hm]
      intro as1 H1 v A1 e1 r1
      cases r1 with
      | frz h1 r1 => exact ⟨_, rfl, ⟨_, h1.sq⟩, q as1 H1 _ A1 e1 (itOk_lst (fun as' H' e => (h1.ext e).sq) r1)⟩
    | byt b =>
      refine (pi_byt h).run pins s σ H R I ⟨hd, ρ, as, st, A, E, ?_⟩
      rw [hm]
      intro as1 H1 v A1 e1 r1
      cases r1 with
      | byt b => exact ⟨_, rfl, q as1 H1 _ A1 e1 itOk_byt⟩
    | ref r =>
      replace q : Post X.K (ad.hide hd) (fun as1 H1 J it => ItOk X.K (ad.hide hd) J as1 H1 it) as H R (fun u d H' => W u d σ H') (match st1[r]? with
        | some (.lst _) => .ok (.live r) st1
        | _ => .bad) := q
      split at q
      · rename_i ts hs
        refine (pi_list h).run pins s σ H R I ⟨hd, ρ, as, st, A, E, ?_⟩
        rw [hm]
        intro as1 H1 v A1 e1 r1
        obtain ⟨a, h2, xs, h3, h4⟩ := A1.get hs
        cases r1 with
        | ref h5 =>
          rw [h2] at h5; cases h5
          exact ⟨_, rfl, ⟨_, SqL.of h3⟩, q as1 H1 _ A1 e1 (itOk_live h2)⟩
      · exact q.elim
    | _ => exact q.elim⟩
/-- range(n), range(a, b) -/
def rgT (lo : Int) (n : Nat) : List T := (List.range n).map fun i => .int (lo + (i : Nat))
theorem itOk_rng {K : PySem.W.Frag} {ad : Ad} {as : List Addr} {H : Hp} {lo : Int} {n : Nat} : ItOk K ad (L2.Itr lo n) as H (.seq (rgT lo n)) := fun hd hh i as1 st1 H1 A e => by
  by_cases hi : i < n
  · have : (rgT lo n)[i]? = some (.int (lo + (i : Nat))) := by simp [rgT, hi]
    rw [this]
    exact ⟨hi, fun x H' ⟨e1, e2⟩ => by subst e1; subst e2; exact ⟨A, Ext.refl, .int _⟩⟩
  · have : (rgT lo n)[i]? = none := by simp [rgT]; omega
    rw [this]
    exact Nat.le_of_not_lt hi
def itRng1 (ts : List T) (st : Sto) : R Wk := match ts with
  | [.int j] => if -(2 ^ 62) ≤ j ∧ j < 2 ^ 62 then .ok (.seq (rgT 0 j.toNat)) st else .bad
  | _ => .bad
def itRng2 (ts : List T) (st : Sto) : R Wk := match ts with
  | [.int i, .int j] => if -(2 ^ 62) ≤ i ∧ i < 2 ^ 62 ∧ -(2 ^ 62) ≤ j ∧ j < 2 ^ 62 then .ok (.seq (rgT i (j - i).toNat)) st else .bad
  | _ => .bad
def mRng (f : List T → Sto → R Wk) (m : M (List T)) : M Wk := fun ρ st => (m ρ st).bind f
theorem pmi_rng1 {tg a : Expr} {m : M (List T)} (hg : Gl X "range") (hm : X.mg "range" = none) (ha : PMA X ad W [a] m) (hs : starEach [a] X.env = [(false, eval a X.env)] := by rfl) : PMI X ad W tg (.Call (.Name "range" p) [a] [] pos) (mRng itRng1 m) :=
  piW (pi_range1 hg hm ha hs) fun σ H R ⟨hd, ρ, as, st, A, E, q⟩ => ⟨hd, ρ, as, st, A, E, Post.step q fun t st1 as1 H1 v A1 e1 r1 q1 => by
    unfold itRng1 at q1
    split at q1
    · split at q1
      · rename_i hb
        obtain ⟨v, rfl, rv⟩ := r1.one
        obtain rfl := rv.intI
        exact ⟨_, rfl, hb.1, hb.2, q1 as1 H1 _ A1 Ext.refl itOk_rng⟩
      · exact q1.elim
    · exact q1.elim⟩
theorem pmi_rng2 {tg a b : Expr} {m : M (List T)} (hg : Gl X "range") (hm : X.mg "range" = none) (ha : PMA X ad W [a, b] m) (hs : starEach [a, b] X.env = [(false, eval a X.env), (false, eval b X.env)] := by rfl) (hs2 : starEach [b] X.env = [(false, eval b X.env)] := by rfl) :
    PMI X ad W tg (.Call (.Name "range" p) [a, b] [] pos) (mRng itRng2 m) :=
  piW (pi_range2 hg hm ha hs hs2) fun σ H R ⟨hd, ρ, as, st, A, E, q⟩ => ⟨hd, ρ, as, st, A, E, Post.step q fun t st1 as1 H1 v A1 e1 r1 q1 => by
    unfold itRng2 at q1
    split at q1
    · split at q1
      · rename_i hb
        obtain ⟨v, w, rfl, rv, rw⟩ := r1.two
        obtain rfl := rv.intI
        obtain rfl := rw.intI
        exact ⟨_, _, rfl, ⟨hb.1, hb.2.1, hb.2.2.1, hb.2.2.2⟩, q1 as1 H1 _ A1 Ext.refl itOk_rng⟩
      · exact q1.elim
    · exact q1.elim⟩

/-! ### for -/
/-- a turn's end, then the other turns -/
def RS.turn (r : RS) (f : Sl → Sto → RS) : RS := match r with
  | .nx ρ st => f ρ st
  | .ct ρ st => f ρ st
  | .bk ρ st => .nx ρ st
  | .rt t st => .rt t st
  | .ex e ρ st => .ex e ρ st
  | .bad => .bad
def forL (g : GM) (body : SM) : List T → SM
  | [], ρ, st => .nx ρ st
  | t :: ts, ρ, st => match g t ρ st with
    | .ok ρ1 st1 => (body ρ1 st1).turn (forL g body ts)
    | _ => .bad
def forLive (g : GM) (body : SM) (r : Nat) : Nat → Nat → SM
  | 0, _, _, _ => .bad
  | n + 1, i, ρ, st => match st[r]? with
    | some (.lst ts) => match ts[i]? with
      | none => .nx ρ st
      | some t => match g t ρ st with
        | .ok ρ1 st1 => (body ρ1 st1).turn (forLive g body r n (i + 1))
        | _ => .bad
    | _ => .bad
/-- items that the store tells at each turn -/
def forDyn (g : GM) (body : SM) (f : Sto → Nat → Option (Option T)) : Nat → Nat → SM
  | 0, _, _, _ => .bad
  | n + 1, i, ρ, st => match f st i with
    | none => .bad
    | some none => .nx ρ st
    | some (some t) => match g t ρ st with
      | .ok ρ1 st1 => (body ρ1 st1).turn (forDyn g body f n (i + 1))
      | _ => .bad
def forI (g : GM) (body : SM) (it : Wk) : SM := fun ρ st => match it with
  | .seq ts => forL g body ts ρ st
  | .live r => forLive g body r (liveLen st r + 1) 0 ρ st
  | .dyn n f => forDyn g body f n 0 ρ st
def sFor (m : M Wk) (g : GM) (body : SM) : SM := fun ρ st => RS.of (m ρ st) ρ fun it st1 => forI g body it ρ st1
theorem PostS.turn {K : PySem.W.Frag} {as : List Addr} {H : Hp} {D : Ends} {r : RS} {f : Sl → Sto → RS} {N : St → Hp → Prop} (h : PostS K ad as H D W (r.turn f))
    (k : ∀ ρ st1 as1 H1 σ1, Ab K ad as1 st1 H1 → Ext as H as1 H1 → En K ad as1 H1 σ1 ρ → PostS K ad as1 H1 D W (f ρ st1) → N σ1 H1) : PostS K ad as H { D with nx := N, ct := N, bk := D.nx } W r := by
  cases r with
  | nx ρ st => exact fun as1 H1 σ1 A e E => k ρ st as1 H1 σ1 A e E (PostS.ext e h)
  | rt t st => exact h
  | bk ρ st => exact h
  | ct ρ st => exact fun as1 H1 σ1 A e E => k ρ st as1 H1 σ1 A e E (PostS.ext e h)
  | ex x ρ st => exact h
  | bad => exact h
theorem postGx {hd : List Addr} {as : List Addr} {H : Hp} {D : Ends} {r : R Sl} {f : Sl → Sto → RS} {N : St → Hp → Prop} (q : PostS X.K (ad.hide hd) as H D W (match r with | .ok ρ2 st2 => f ρ2 st2 | _ => .bad))
    (k : ∀ ρ st1 as1 H1 σ1, Ab X.K (ad.hide hd) as1 st1 H1 → Ext as H as1 H1 → En X.K (ad.hide hd) as1 H1 σ1 ρ → PostS X.K (ad.hide hd) as1 H1 D W (f ρ st1) → N σ1 H1) :
    Post X.K (ad.hide hd) (En X.K (ad.hide hd)) as H (fun σ' H' => N σ' H') (fun _ _ _ => False) r := by
  cases r with
  | ok ρ st => exact fun as1 H1 σ1 A e E => k ρ st as1 H1 σ1 A e E (PostS.ext e q)
  | exc _ _ => exact q.elim
  | bad => exact q
theorem pms_for {tg iter : Expr} {body : List Stmt} {m : M Wk} {g : GM} {mb : SM} {k : Nat} (S : Sit X W k) (hi : PMI X ad W tg iter m) (hg : PMG X ad tg g) (hb : PMSs X ad W body mb) (hs : ∀ x, foldedSetIterable iter X.env x = pure x := by intro _; rfl) :
    PMS X ad W (.For tg iter body [] pos) (sFor m g mb) :=
  psW (ps_for S.po S.calm hi hg hb hs) fun D σ H ⟨hd, ρ, as, st, A, E, q⟩ => ⟨hd, ρ, as, st, A, E, PostS.expr E q fun it st1 as1 H1 J A1 e1 r1 q1 => by
    cases it with
    | seq ts =>
      replace q1 : PostS X.K (ad.hide hd) as1 H1 D W (forL g mb ts ρ st1) := q1
      refine ⟨fun i n σ2 H2 => n = ts.length - i ∧ i ≤ ts.length ∧ ∃ ρ2 as2 st2, Ab X.K (ad.hide hd) as2 st2 H2 ∧ En X.K (ad.hide hd) as2 H2 σ2 ρ2 ∧ Ext as1 H1 as2 H2 ∧ PostS X.K (ad.hide hd) as2 H2 D W (forL g mb (ts.drop i) ρ2 st2),
        ⟨ts.length, by simp, Nat.zero_le _, ρ, as1, st1, A1, E.ext e1, Ext.refl, q1⟩, ?_⟩
      rintro i n σ2 H2 ⟨rfl, hi, ρ2, as2, st2, A2, E2, e2, q2⟩
      have := r1 hd (fun _ z => .inl z) i as2 st2 H2 A2 e2
      by_cases hlt : i < ts.length
      · rw [List.getElem?_eq_getElem hlt] at this
        obtain ⟨go, yl⟩ := this
        refine .inr ⟨go, fun σ3 H3 => i + 1 ≤ ts.length ∧ ∃ ρ3 as3 st3, Ab X.K (ad.hide hd) as3 st3 H3 ∧ En X.K (ad.hide hd) as3 H3 σ3 ρ3 ∧ Ext as1 H1 as3 H3 ∧ PostS X.K (ad.hide hd) as3 H3 D W (forL g mb (ts.drop (i + 1)) ρ3 st3),
          fun σ3 H3 ⟨hi3, h3⟩ => ⟨ts.length - (i + 1), by omega, rfl, hi3, h3⟩, fun x H3 y => ?_⟩
        obtain ⟨A3, e3, r3⟩ := yl x H3 y
        rw [List.drop_eq_getElem_cons hlt] at q2
        replace q2 := PostS.ext e3 q2
        refine ⟨hd, ρ2, as2, st2, ts[i], A3, E2.ext e3, r3, postGx q2 fun ρ4 st4 as4 H4 σ4 A4 e4 E4 q4 => ?_⟩
        exact ⟨hd, ρ4, as4, st4, A4, E4, PostS.turn q4 fun ρ5 st5 as5 H5 σ5 A5 e5 E5 q5 => ⟨hlt, ρ5, as5, st5, A5, E5, ((e2.trans e3).trans e4).trans e5, q5⟩⟩
      · have hi' : i = ts.length := by omega
        subst hi'
        rw [List.getElem?_eq_none (Nat.le_refl _)] at this
        rw [List.drop_length] at q2
        exact .inl ⟨this, PostS.nxAt A2 E2 q2⟩
    | live r =>
      replace q1 : PostS X.K (ad.hide hd) as1 H1 D W (forLive g mb r (liveLen st1 r + 1) 0 ρ st1) := q1
      refine ⟨fun i n σ2 H2 => ∃ ρ2 as2 st2, Ab X.K (ad.hide hd) as2 st2 H2 ∧ En X.K (ad.hide hd) as2 H2 σ2 ρ2 ∧ Ext as1 H1 as2 H2 ∧ PostS X.K (ad.hide hd) as2 H2 D W (forLive g mb r n i ρ2 st2),
        ⟨_, ρ, as1, st1, A1, E.ext e1, Ext.refl, q1⟩, ?_⟩
      rintro i n σ2 H2 ⟨ρ2, as2, st2, A2, E2, e2, q2⟩
      cases n with
      | zero => exact q2.elim
      | succ n =>
        unfold forLive at q2
        split at q2
        · rename_i ts hts
          have := r1 hd i as2 st2 H2 A2 e2 ⟨ts, hts⟩
          have hl : liveAt st2 r i = ts[i]? := by unfold liveAt; rw [hts]
          rw [hl] at this
          split at q2
          · rename_i hn
            rw [hn] at this
            exact .inl ⟨this, PostS.nxAt A2 E2 q2⟩
          · rename_i t ht
            rw [ht] at this
            obtain ⟨go, yl⟩ := this
            refine .inr ⟨go, fun σ3 H3 => ∃ ρ3 as3 st3, Ab X.K (ad.hide hd) as3 st3 H3 ∧ En X.K (ad.hide hd) as3 H3 σ3 ρ3 ∧ Ext as1 H1 as3 H3 ∧ PostS X.K (ad.hide hd) as3 H3 D W (forLive g mb r n (i + 1) ρ3 st3),
              fun σ3 H3 h3 => ⟨n, Nat.lt_succ_self _, h3⟩, fun x H3 y => ?_⟩
            obtain ⟨A3, e3, r3⟩ := yl x H3 y
            replace q2 := PostS.ext e3 q2
            refine ⟨hd, ρ2, as2, st2, t, A3, E2.ext e3, r3, postGx q2 fun ρ4 st4 as4 H4 σ4 A4 e4 E4 q4 => ?_⟩
            exact ⟨hd, ρ4, as4, st4, A4, E4, PostS.turn q4 fun ρ5 st5 as5 H5 σ5 A5 e5 E5 q5 => ⟨ρ5, as5, st5, A5, E5, ((e2.trans e3).trans e4).trans e5, q5⟩⟩
        · exact q2.elim
    | dyn n f =>
      replace q1 : PostS X.K (ad.hide hd) as1 H1 D W (forDyn g mb f n 0 ρ st1) := q1
      refine ⟨fun i n σ2 H2 => ∃ ρ2 as2 st2, Ab X.K (ad.hide hd) as2 st2 H2 ∧ En X.K (ad.hide hd) as2 H2 σ2 ρ2 ∧ Ext as1 H1 as2 H2 ∧ PostS X.K (ad.hide hd) as2 H2 D W (forDyn g mb f n i ρ2 st2),
        ⟨_, ρ, as1, st1, A1, E.ext e1, Ext.refl, q1⟩, ?_⟩
      rintro i n σ2 H2 ⟨ρ2, as2, st2, A2, E2, e2, q2⟩
      cases n with
      | zero => exact q2.elim
      | succ n =>
        unfold forDyn at q2
        have this := r1 hd (fun _ z => .inl z) i as2 st2 H2 A2 e2
        split at q2
        · exact q2.elim
        · rename_i hn
          exact .inl ⟨this _ hn, PostS.nxAt A2 E2 q2⟩
        · rename_i t ht
          obtain ⟨go, yl⟩ := this _ ht
          refine .inr ⟨go, fun σ3 H3 => ∃ ρ3 as3 st3, Ab X.K (ad.hide hd) as3 st3 H3 ∧ En X.K (ad.hide hd) as3 H3 σ3 ρ3 ∧ Ext as1 H1 as3 H3 ∧ PostS X.K (ad.hide hd) as3 H3 D W (forDyn g mb f n (i + 1) ρ3 st3),
            fun σ3 H3 h3 => ⟨n, Nat.lt_succ_self _, h3⟩, fun x H3 y => ?_⟩
          obtain ⟨A3, e3, r3⟩ := yl x H3 y
          replace q2 := PostS.ext e3 q2
          refine ⟨hd, ρ2, as2, st2, t, A3, E2.ext e3, r3, postGx q2 fun ρ4 st4 as4 H4 σ4 A4 e4 E4 q4 => ?_⟩
          exact ⟨hd, ρ4, as4, st4, A4, E4, PostS.turn q4 fun ρ5 st5 as5 H5 σ5 A5 e5 E5 q5 => ⟨ρ5, as5, st5, A5, E5, ((e2.trans e3).trans e4).trans e5, q5⟩⟩⟩

/-! ### while -/
def whileN (c : M Bool) (body : SM) : Nat → SM
  | 0, _, _ => .bad
  | n + 1, ρ, st => RS.of (c ρ st) ρ fun b st1 => match b with
    | true => (body ρ st1).turn (whileN c body n)
    | false => .nx ρ st1
/-- at most so many turns -/
def whileFuel : Nat := 1000000
def sWhile (c : M Bool) (body : SM) : SM := fun ρ st => whileN c body whileFuel ρ st
theorem pms_while {c : Expr} {body : List Stmt} {mc : M Bool} {mb : SM} {k : Nat} (S : Sit X W k) (hc : PMT X ad W c mc) (hb : PMSs X ad W body mb) : PMS X ad W (.While c body [] pos) (sWhile mc mb) :=
  psW (ps_while S.po hc hb) fun D σ H ⟨hd, ρ, as, st, A, E, q⟩ => by
    refine ⟨fun n σ2 H2 => ∃ ρ2 as2 st2, Ab X.K (ad.hide hd) as2 st2 H2 ∧ En X.K (ad.hide hd) as2 H2 σ2 ρ2 ∧ PostS X.K (ad.hide hd) as2 H2 D W (whileN mc mb n ρ2 st2), ⟨_, ρ, as, st, A, E, q⟩, ?_⟩
    rintro n σ2 H2 ⟨ρ2, as2, st2, A2, E2, q2⟩
    cases n with
    | zero => exact q2.elim
    | succ n =>
      unfold whileN at q2
      refine ⟨hd, ρ2, as2, st2, A2, E2, PostS.expr E2 q2 fun b st3 as3 H3 v A3 e3 r3 q3 => ?_⟩
      obtain rfl := r3
      cases v with
      | true =>
        refine iteT ⟨fun σ4 H4 => ∃ ρ4 as4 st4, Ab X.K (ad.hide hd) as4 st4 H4 ∧ En X.K (ad.hide hd) as4 H4 σ4 ρ4 ∧ PostS X.K (ad.hide hd) as4 H4 D W (whileN mc mb n ρ4 st4), fun σ4 H4 h4 => ⟨n, Nat.lt_succ_self _, h4⟩, ?_⟩
        exact ⟨hd, ρ2, as3, st3, A3, E2.ext e3, PostS.turn q3 fun ρ5 st5 as5 H5 σ5 A5 e5 E5 q5 => ⟨ρ5, as5, st5, A5, E5, q5⟩⟩
      | false => exact iteF (PostS.nxAt A3 (E2.ext e3) q3)
end
end Mi

/-! MiComp: list comprehensions of one clause. -/
namespace Mi
open PySem L2

/-- the slots of a comprehension's own names are forgotten -/
def wipeT (ρ : Sl) : List Nat → Sl
  | [] => ρ
  | v :: vs => (wipeT ρ vs).set v none
/-- a target of a comprehension: its slots alone change -/
def TgM (K : PySem.W.Frag) (g : TG) (gm : T → Sl → Option Sl) (vs : List Nat) : Prop :=
  ∀ ad ρ ρ' as st t v σ H Q, Ab K ad as st H → En K ad as H σ ρ → Rep K ad as H v t → gm t ρ = some ρ' → (∀ σ', wipe σ' vs = wipe σ vs → En K ad as H σ' ρ' → Q σ' H) → g v σ H Q
def noExc {α : Type} (r : R α) : R α := match r with
  | .ok a st => .ok a st
  | _ => .bad
def lcL (g : T → Sl → Option Sl) (tt : M Bool) (elt : M T) (ρ : Sl) : List T → Sto → R (List T)
  | [], st => .ok [] st
  | t :: ts, st => match g t ρ with
    | some ρ1 => (noExc (tt ρ1 st)).bind fun b st2 => match b with
      | true => (noExc (elt ρ1 st2)).bind fun y st3 => (lcL g tt elt ρ ts st3).bind fun ys st4 => .ok (y :: ys) st4
      | false => lcL g tt elt ρ ts st2
    | none => .bad
/-- over a list of the store, as it is at each turn -/
def lcLv (g : T → Sl → Option Sl) (tt : M Bool) (elt : M T) (ρ : Sl) (r : Nat) : Nat → Nat → Sto → R (List T)
  | 0, _, _ => .bad
  | n + 1, i, st => match st[r]? with
    | some (.lst ts) => if ts.length ≤ sizeLine then (match ts[i]? with
      | none => .ok [] st
      | some t => match g t ρ with
        | some ρ1 => (noExc (tt ρ1 st)).bind fun b st2 => match b with
          | true => (noExc (elt ρ1 st2)).bind fun y st3 => (lcLv g tt elt ρ r n (i + 1) st3).bind fun ys st4 => .ok (y :: ys) st4
          | false => lcLv g tt elt ρ r n (i + 1) st2
        | none => .bad) else .bad
    | _ => .bad
/-- over what the store tells at each turn -/
def lcDyn (g : T → Sl → Option Sl) (tt : M Bool) (elt : M T) (ρ : Sl) (f : Sto → Nat → Option (Option T)) : Nat → Nat → Sto → R (List T)
  | 0, _, _ => .bad
  | n + 1, i, st => match f st i with
    | none => .bad
    | some none => .ok [] st
    | some (some t) => match g t ρ with
      | some ρ1 => (noExc (tt ρ1 st)).bind fun b st2 => match b with
        | true => (noExc (elt ρ1 st2)).bind fun y st3 => (lcDyn g tt elt ρ f n (i + 1) st3).bind fun ys st4 => .ok (y :: ys) st4
        | false => lcDyn g tt elt ρ f n (i + 1) st2
      | none => .bad
def lcW (g : T → Sl → Option Sl) (tt : M Bool) (elt : M T) (ρ : Sl) (it : Wk) (st : Sto) : R (List T) := match it with
  | .seq ts => if ts.length ≤ sizeLine then lcL g tt elt ρ ts st else .bad
  | .live r => lcLv g tt elt ρ r (liveLen st r + 1) 0 st
  | .dyn n f => if n ≤ sizeLine then lcDyn g tt elt ρ f n 0 st else .bad
def mLc (mi : M Wk) (g : T → Sl → Option Sl) (tt : M Bool) (elt : M T) (vs : List Nat) : M T := fun ρ st => (mi ρ st).bind fun it st1 => (lcW g tt elt (wipeT ρ vs) it st1).bind fun ys st2 => .ok (.lst ys) st2

section
variable {K : PySem.W.Frag} {ad : Ad} {as : List Addr} {H : Hp} {st : Sto}
theorem wipeT_len (ρ : Sl) : ∀ vs : List Nat, (wipeT ρ vs).length = ρ.length
  | [] => rfl
  | v :: vs => by unfold wipeT; rw [List.length_set, wipeT_len ρ vs]
theorem En.setNone {σ : St} {ρ : Sl} (E : En K ad as H σ ρ) (i : Nat) : En K ad as H (σ.set i none) (ρ.set i none) := by
  refine ⟨by simp [E.1], fun j t h => ?_⟩
  by_cases hj : i = j
  · subst hj
    by_cases hl : i < ρ.length
    · rw [List.getElem?_set_self hl] at h; cases h
    · rw [List.getElem?_eq_none (by simpa using hl)] at h; cases h
  · rw [List.getElem?_set_ne hj] at h
    rw [List.getElem?_set_ne hj]
    exact E.2 j t h
theorem En.wipe {σ : St} {ρ : Sl} (E : En K ad as H σ ρ) : ∀ vs : List Nat, En K ad as H (L2.wipe σ vs) (wipeT ρ vs)
  | [] => E
  | v :: vs => by
    unfold L2.wipe wipeT
    exact (En.wipe E vs).setNone v
theorem En.hide {D : Addr} {o : HO} {σ : St} {ρ : Sl} (hD : H D = none) (E : En K ad as H σ ρ) : En K (ad.hide (D :: ad.hid)) as (upd H D o) σ ρ := ⟨E.1, fun i t h => by
  obtain ⟨v, h1, h2⟩ := E.2 i t h
  exact ⟨v, h1, h2.hide hD⟩⟩
theorem En.grow {D : Addr} {ys zs : List V} {σ : St} {ρ : Sl} (hh : D ∈ ad.hid) (hD : H D = some (.lst ys)) (E : En K ad as H σ ρ) : En K ad as (upd H D (.lst zs)) σ ρ := ⟨E.1, fun i t h => by
  obtain ⟨v, h1, h2⟩ := E.2 i t h
  exact ⟨v, h1, h2.grow hh hD⟩⟩
end
theorem wipe_set {σ : St} {i : Nat} {x : Option V} : ∀ {vs : List Nat}, i ∈ vs → wipe (σ.set i x) vs = wipe σ vs
  | v :: vs, h => by
    unfold wipe
    by_cases hv : i ∈ vs
    · rw [wipe_set hv]
    · have e : i = v := by rcases List.mem_cons.mp h with e | h; exact e; exact absurd h hv
      subst e
      have key : ∀ (ws : List Nat), i ∉ ws → wipe (σ.set i x) ws = (wipe σ ws).set i x := by
        intro ws
        induction ws with
        | nil => intro _; rfl
        | cons w ws ih =>
          intro hn
          unfold wipe
          rw [ih (fun q => hn (List.mem_cons_of_mem _ q)), List.set_comm]
          intro q
          exact hn (by rw [q]; exact List.mem_cons_self)
      rw [key vs hv, List.set_set]
theorem wipe_wipe (σ : St) (vs : List Nat) : wipe (wipe σ vs) vs = wipe σ vs := by
  have key : ∀ ws : List Nat, (∀ w ∈ ws, w ∈ vs) → wipe (wipe σ ws) vs = wipe σ vs := by
    intro ws
    induction ws with
    | nil => intro _; rfl
    | cons w ws ih =>
      intro h
      have e : wipe σ (w :: ws) = (wipe σ ws).set w none := rfl
      rw [e, wipe_set (h w List.mem_cons_self)]
      exact ih fun x hx => h x (List.mem_cons_of_mem _ hx)
  exact key vs fun _ h => h
section
variable {X : Cx} {ad : Ad} {W : WX} {pos p : Pos}
def tgN (i : Nat) (t : T) (ρ : Sl) : Option Sl := some (ρ.set i (some t))
theorem tg_name {i : Nat} {vs : List Nat} (hi : i ∈ vs) : TgM X.K (gName i) (tgN i) vs := fun ad ρ ρ' as st t v σ H Q A E r h k => by
  cases h
  exact k _ (wipe_set hi) (E.set r)
/-- two names, of a pair -/
def tg2 (i j : Nat) (t : T) (ρ : Sl) : Option Sl := match t with
  | .tup [a, b] => some ((ρ.set i (some a)).set j (some b))
  | _ => none
theorem tg_pair {i j : Nat} {vs : List Nat} (hi : i ∈ vs) (hj : j ∈ vs) : TgM X.K (gTup X.K 2 (gCons (gName i) (gCons (gName j) gNil))) (tg2 i j) vs := fun ad ρ ρ' as st t v σ H Q A E r h k => by
  unfold tg2 at h
  split at h
  · cases h
    obtain ⟨a, xs, rfl, h1, h2⟩ := r.tupI
    obtain ⟨x, y, rfl, rx, ry⟩ := h2.two
    exact ⟨a, _, rfl, h1, rfl, _, _, rfl, _, _, rfl, rfl, k _ (by rw [wipe_set hj, wipe_set hi]) ((E.set rx).set ry)⟩
  · cases h
def mYes : M Bool := fun _ st => .ok true st
abbrev PMTs (X : Cx) (ad : Ad) (W : WX) (es : List Expr) (m : M Bool) : Prop := PTs X es (tM X.K ad RlB W m)
theorem pmts_nil : PMTs X ad W [] mYes := ⟨fun pins s σ H Q I ⟨_, _, as, _, A, _, q⟩ => pts_nil.run pins s σ H Q I (Post.at A rfl q)⟩
theorem pmts_one {e : Expr} {m : M Bool} (h : PMT X ad W e m) : PMTs X ad W [e] m := pts_one h
abbrev W0 : WX := fun _ _ _ _ => False
theorem tLc_of {K : PySem.W.Frag} {g : TG} {gm : T → Sl → Option Sl} {vs : List Nat} {mi : M Wk} {tt : M Bool} {elt : M T} (hg : TgM K g gm vs) :
    ∀ σ H Q, tM K ad (Rep K) W (mLc mi gm tt elt vs) σ H Q → tLc (tI K ad W mi) g (tM K ad RlB W0 tt) (tM K ad (Rep K) W0 elt) vs σ H Q := fun σ H Q ⟨hd, ρ, as, st, A, E, q⟩ =>
  ⟨hd, ρ, as, st, A, E, Post.step q fun it st1 as1 H1 J A1 e1 r1 q1 => by
    intro D hD
    cases it with
    | live r =>
      replace q1 : Post K (ad.hide hd) (Rep K (ad.hide hd)) as1 H1 Q (fun u d H' => W u d σ H') (R.bind (lcLv gm tt elt (wipeT ρ vs) r (liveLen st1 r + 1) 0 st1) fun ys st2 => .ok (.lst ys) st2) := q1
      refine ⟨fun i n H2 => ∃ acc xs as2 st2, acc.length ≤ i ∧ Ab K (ad.hide (D :: hd)) as2 st2 H2 ∧ Ext as1 H1 as2 H2 ∧ (D ∈ as2 → False) ∧ H2 D = some (.lst xs) ∧ Reps K (ad.hide (D :: hd)) as2 H2 xs acc ∧
          En K (ad.hide (D :: hd)) as2 H2 σ ρ ∧ Post K (ad.hide hd) (Rep K (ad.hide hd)) as1 H1 Q (fun u d H' => W u d σ H') ((lcLv gm tt elt (wipeT ρ vs) r n i st2).bind fun ys st3 => .ok (.lst (acc ++ ys)) st3),
        ⟨_, [], [], as1, st1, Nat.le_refl _, A1.hide hD, Ext.fresh hD, A1.nin hD, upd_same, .nil, (E.ext e1).hide hD, q1⟩, ?_⟩
      rintro i n H2 ⟨acc, xs, as2, st2, hacc, A2, e2, nD, hD2, r2, E2, q2⟩
      cases n with
      | zero => exact q2.elim
      | succ n =>
      unfold lcLv at q2
      split at q2
      case h_2 => exact q2.elim
      case h_1 ts hts =>
      split at q2
      case isFalse => exact q2.elim
      case isTrue hsz =>
      have it := r1 (D :: hd) i as2 st2 H2 A2 e2 ⟨ts, hts⟩
      have hl : liveAt st2 r i = ts[i]? := by unfold liveAt; rw [hts]
      rw [hl] at it
      split at q2
      case h_1 hn =>
        rw [hn] at it
        refine .inl ⟨it, ?_⟩
        have q3 : Post K (ad.hide hd) (Rep K (ad.hide hd)) as1 H1 Q (fun u d H' => W u d σ H') (.ok (.lst (acc ++ [])) st2) := q2
        rw [List.append_nil] at q3
        exact q3.to (A2.show_ (ad := ad.hide hd)) e2 (.lst ⟨⟨nD, fun z => by
          obtain ⟨_, u, e, _⟩ := A1.hid D z
          rw [hD] at e; cases e⟩, hD2⟩ (Reps.show_ (ad := ad.hide hd) r2))
      case h_2 t ht =>
        rw [ht] at it
        have hlt : i < ts.length := (List.getElem?_eq_some_iff.mp ht).1
        obtain ⟨go, yl⟩ := it
        refine .inr ⟨go, fun H3 => ∃ acc xs as2 st2, acc.length ≤ (i + 1) ∧ Ab K (ad.hide (D :: hd)) as2 st2 H3 ∧ Ext as1 H1 as2 H3 ∧ (D ∈ as2 → False) ∧ H3 D = some (.lst xs) ∧ Reps K (ad.hide (D :: hd)) as2 H3 xs acc ∧
          En K (ad.hide (D :: hd)) as2 H3 σ ρ ∧ Post K (ad.hide hd) (Rep K (ad.hide hd)) as1 H1 Q (fun u d H' => W u d σ H') ((lcLv gm tt elt (wipeT ρ vs) r n (i + 1) st2).bind fun ys st3 => .ok (.lst (acc ++ ys)) st3),
          fun H3 h2 => ⟨n, Nat.lt_succ_self _, h2⟩, fun x H3 y => ?_⟩
        obtain ⟨A3, e3, r3⟩ := yl x H3 y
        have hD3 : H3 D = some (.lst xs) := e3.kp nD hD2
        split at q2
        case h_2 => exact q2.elim
        case h_1 ρ1 hρ1 =>
        refine hg _ _ _ as2 st2 _ _ _ H3 _ A3 ((E2.ext e3).wipe vs) r3 hρ1 fun σ4 hw E4 => ⟨hw.trans (wipe_wipe σ vs), D :: hd, ρ1, as2, st2, A3, E4, ?_⟩
        cases h1 : tt ρ1 st2 with
        | bad => rw [h1] at q2; exact q2.elim
        | exc _ _ => rw [h1] at q2; exact q2.elim
        | ok b st3 =>
          rw [h1] at q2
          intro as4 H4 c A4 e4 rc
          obtain rfl := rc
          have hD4 : H4 D = some (.lst xs) := e4.kp nD hD3
          have nD4 := e4.nin nD hD3
          cases c with
          | false =>
            exact iteF ⟨acc, xs, as4, st3, Nat.le_succ_of_le hacc, A4, (e2.trans e3).trans e4, nD4, hD4, (r2.ext e3).ext e4, (E2.ext e3).ext e4, q2⟩
          | true =>
            refine iteT ⟨D :: hd, ρ1, as4, st3, A4, E4.ext e4, ?_⟩
            replace q2 : Post K (ad.hide hd) (Rep K (ad.hide hd)) as1 H1 Q (fun u d H' => W u d σ H') (R.bind (R.bind (noExc (elt ρ1 st3)) fun y st3 => (lcLv gm tt elt (wipeT ρ vs) r n (i + 1) st3).bind fun ys st4 => .ok (y :: ys) st4) fun ys st3 => .ok (.lst (acc ++ ys)) st3) := q2
            cases h2 : elt ρ1 st3 with
            | bad => rw [h2] at q2; exact q2.elim
            | exc _ _ => rw [h2] at q2; exact q2.elim
            | ok z st5 =>
              rw [h2] at q2
              intro as5 H5 vz A5 e5 rz
              have hD5 : H5 D = some (.lst xs) := e5.kp nD4 hD4
              have nD5 := e5.nin nD4 hD4
              have memD : D ∈ (ad.hide (D :: hd)).hid := List.mem_cons_self
              have r5 := ((r2.ext e3).ext e4).ext e5
              refine ⟨xs, hD5, by rw [r5.length]; omega, acc ++ [z], xs ++ [vz], as5, st5, by simp; omega, A5.grow memD hD5, ?_, nD5, upd_same, (r5.append (.cons rz .nil)).grow memD hD5, (((E2.ext e3).ext e4).ext e5).grow memD hD5, ?_⟩
              · have ee := ((e2.trans e3).trans e4).trans e5
                refine ⟨ee.more, fun a o na q nt => ?_, fun a q => ?_⟩
                · have na' : a ≠ D := ne_of_none q hD
                  rw [upd_ne na']
                  exact ee.keep a o na q nt
                · refine ee.dom a ?_
                  by_cases ea : a = D
                  · subst ea
                    exact (q.no upd_same (fun _ w => by cases w)).elim
                  · intro o w
                    exact q o (by rw [upd_ne ea]; exact w)
              · replace q2 : Post K (ad.hide hd) (Rep K (ad.hide hd)) as1 H1 Q (fun u d H' => W u d σ H') (R.bind (R.bind (lcLv gm tt elt (wipeT ρ vs) r n (i + 1) st5) fun ys st4 => .ok (z :: ys) st4) fun ys st3 => .ok (.lst (acc ++ ys)) st3) := q2
                show Post K (ad.hide hd) (Rep K (ad.hide hd)) as1 H1 Q (fun u d H' => W u d σ H') (R.bind (lcLv gm tt elt (wipeT ρ vs) r n (i + 1) st5) fun ys st3 => .ok (.lst (acc ++ [z] ++ ys)) st3)
                cases h3 : (lcLv gm tt elt (wipeT ρ vs) r n (i + 1) st5) with
                | bad => rw [h3] at q2; exact q2.elim
                | exc _ _ => rw [h3] at q2; exact q2
                | ok ys st6 =>
                  rw [h3] at q2
                  have e : acc ++ [z] ++ ys = acc ++ z :: ys := by simp
                  show Post K (ad.hide hd) (Rep K (ad.hide hd)) as1 H1 Q (fun u d H' => W u d σ H') (.ok (.lst (acc ++ [z] ++ ys)) st6)
                  rw [e]
                  exact q2
    | dyn N f =>
      replace q1 : Post K (ad.hide hd) (Rep K (ad.hide hd)) as1 H1 Q (fun u d H' => W u d σ H') (R.bind (if N ≤ sizeLine then lcDyn gm tt elt (wipeT ρ vs) f N 0 st1 else .bad) fun ys st2 => .ok (.lst ys) st2) := q1
      split at q1
      case isFalse => exact q1.elim
      case isTrue hsz =>
      refine ⟨fun i n H2 => i + n = N ∧ ∃ acc xs as2 st2, acc.length ≤ i ∧ Ab K (ad.hide (D :: hd)) as2 st2 H2 ∧ Ext as1 H1 as2 H2 ∧ (D ∈ as2 → False) ∧ H2 D = some (.lst xs) ∧ Reps K (ad.hide (D :: hd)) as2 H2 xs acc ∧
          En K (ad.hide (D :: hd)) as2 H2 σ ρ ∧ Post K (ad.hide hd) (Rep K (ad.hide hd)) as1 H1 Q (fun u d H' => W u d σ H') ((lcDyn gm tt elt (wipeT ρ vs) f n i st2).bind fun ys st3 => .ok (.lst (acc ++ ys)) st3),
        ⟨_, Nat.zero_add _, [], [], as1, st1, Nat.le_refl _, A1.hide hD, Ext.fresh hD, A1.nin hD, upd_same, .nil, (E.ext e1).hide hD, q1⟩, ?_⟩
      rintro i n H2 ⟨hin, acc, xs, as2, st2, hacc, A2, e2, nD, hD2, r2, E2, q2⟩
      cases n with
      | zero => exact q2.elim
      | succ n =>
      unfold lcDyn at q2
      have it := r1 (D :: hd) (fun z hz => (List.mem_cons.mp hz).elim (fun e => .inr (by rw [e]; exact hD)) .inl) i as2 st2 H2 A2 e2
      split at q2
      case h_1 => exact q2.elim
      case h_2 hn =>
        refine .inl ⟨it _ hn, ?_⟩
        have q3 : Post K (ad.hide hd) (Rep K (ad.hide hd)) as1 H1 Q (fun u d H' => W u d σ H') (.ok (.lst (acc ++ [])) st2) := q2
        rw [List.append_nil] at q3
        exact q3.to (A2.show_ (ad := ad.hide hd)) e2 (.lst ⟨⟨nD, fun z => by
          obtain ⟨_, u, e, _⟩ := A1.hid D z
          rw [hD] at e; cases e⟩, hD2⟩ (Reps.show_ (ad := ad.hide hd) r2))
      case h_3 t ht =>
        obtain ⟨go, yl⟩ := it _ ht
        refine .inr ⟨go, fun H3 => ∃ acc xs as2 st2, acc.length ≤ (i + 1) ∧ Ab K (ad.hide (D :: hd)) as2 st2 H3 ∧ Ext as1 H1 as2 H3 ∧ (D ∈ as2 → False) ∧ H3 D = some (.lst xs) ∧ Reps K (ad.hide (D :: hd)) as2 H3 xs acc ∧
          En K (ad.hide (D :: hd)) as2 H3 σ ρ ∧ Post K (ad.hide hd) (Rep K (ad.hide hd)) as1 H1 Q (fun u d H' => W u d σ H') ((lcDyn gm tt elt (wipeT ρ vs) f n (i + 1) st2).bind fun ys st3 => .ok (.lst (acc ++ ys)) st3),
          fun H3 h2 => ⟨n, Nat.lt_succ_self _, by omega, h2⟩, fun x H3 y => ?_⟩
        obtain ⟨A3, e3, r3⟩ := yl x H3 y
        have hD3 : H3 D = some (.lst xs) := e3.kp nD hD2
        split at q2
        case h_2 => exact q2.elim
        case h_1 ρ1 hρ1 =>
        refine hg _ _ _ as2 st2 _ _ _ H3 _ A3 ((E2.ext e3).wipe vs) r3 hρ1 fun σ4 hw E4 => ⟨hw.trans (wipe_wipe σ vs), D :: hd, ρ1, as2, st2, A3, E4, ?_⟩
        cases h1 : tt ρ1 st2 with
        | bad => rw [h1] at q2; exact q2.elim
        | exc _ _ => rw [h1] at q2; exact q2.elim
        | ok b st3 =>
          rw [h1] at q2
          intro as4 H4 c A4 e4 rc
          obtain rfl := rc
          have hD4 : H4 D = some (.lst xs) := e4.kp nD hD3
          have nD4 := e4.nin nD hD3
          cases c with
          | false =>
            exact iteF ⟨acc, xs, as4, st3, Nat.le_succ_of_le hacc, A4, (e2.trans e3).trans e4, nD4, hD4, (r2.ext e3).ext e4, (E2.ext e3).ext e4, q2⟩
          | true =>
            refine iteT ⟨D :: hd, ρ1, as4, st3, A4, E4.ext e4, ?_⟩
            replace q2 : Post K (ad.hide hd) (Rep K (ad.hide hd)) as1 H1 Q (fun u d H' => W u d σ H') (R.bind (R.bind (noExc (elt ρ1 st3)) fun y st3 => (lcDyn gm tt elt (wipeT ρ vs) f n (i + 1) st3).bind fun ys st4 => .ok (y :: ys) st4) fun ys st3 => .ok (.lst (acc ++ ys)) st3) := q2
            cases h2 : elt ρ1 st3 with
            | bad => rw [h2] at q2; exact q2.elim
            | exc _ _ => rw [h2] at q2; exact q2.elim
            | ok z st5 =>
              rw [h2] at q2
              intro as5 H5 vz A5 e5 rz
              have hD5 : H5 D = some (.lst xs) := e5.kp nD4 hD4
              have nD5 := e5.nin nD4 hD4
              have memD : D ∈ (ad.hide (D :: hd)).hid := List.mem_cons_self
              have r5 := ((r2.ext e3).ext e4).ext e5
              refine ⟨xs, hD5, by rw [r5.length]; omega, acc ++ [z], xs ++ [vz], as5, st5, by simp; omega, A5.grow memD hD5, ?_, nD5, upd_same, (r5.append (.cons rz .nil)).grow memD hD5, (((E2.ext e3).ext e4).ext e5).grow memD hD5, ?_⟩
              · have ee := ((e2.trans e3).trans e4).trans e5
                refine ⟨ee.more, fun a o na q nt => ?_, fun a q => ?_⟩
                · have na' : a ≠ D := ne_of_none q hD
                  rw [upd_ne na']
                  exact ee.keep a o na q nt
                · refine ee.dom a ?_
                  by_cases ea : a = D
                  · subst ea
                    exact (q.no upd_same (fun _ w => by cases w)).elim
                  · intro o w
                    exact q o (by rw [upd_ne ea]; exact w)
              · replace q2 : Post K (ad.hide hd) (Rep K (ad.hide hd)) as1 H1 Q (fun u d H' => W u d σ H') (R.bind (R.bind (lcDyn gm tt elt (wipeT ρ vs) f n (i + 1) st5) fun ys st4 => .ok (z :: ys) st4) fun ys st3 => .ok (.lst (acc ++ ys)) st3) := q2
                show Post K (ad.hide hd) (Rep K (ad.hide hd)) as1 H1 Q (fun u d H' => W u d σ H') (R.bind (lcDyn gm tt elt (wipeT ρ vs) f n (i + 1) st5) fun ys st3 => .ok (.lst (acc ++ [z] ++ ys)) st3)
                cases h3 : (lcDyn gm tt elt (wipeT ρ vs) f n (i + 1) st5) with
                | bad => rw [h3] at q2; exact q2.elim
                | exc _ _ => rw [h3] at q2; exact q2
                | ok ys st6 =>
                  rw [h3] at q2
                  have e : acc ++ [z] ++ ys = acc ++ z :: ys := by simp
                  show Post K (ad.hide hd) (Rep K (ad.hide hd)) as1 H1 Q (fun u d H' => W u d σ H') (.ok (.lst (acc ++ [z] ++ ys)) st6)
                  rw [e]
                  exact q2
    | seq ts =>
      replace q1 : Post K (ad.hide hd) (Rep K (ad.hide hd)) as1 H1 Q (fun u d H' => W u d σ H') (R.bind (if ts.length ≤ sizeLine then lcL gm tt elt (wipeT ρ vs) ts st1 else .bad) fun ys st2 => .ok (.lst ys) st2) := q1
      split at q1
      case isFalse => exact q1.elim
      case isTrue hsz =>
      -- hd2: D hidden besides
      refine ⟨fun i n H2 => n = ts.length - i ∧ i ≤ ts.length ∧ ∃ acc xs as2 st2, acc.length ≤ i ∧ Ab K (ad.hide (D :: hd)) as2 st2 H2 ∧ Ext as1 H1 as2 H2 ∧ (D ∈ as2 → False) ∧ H2 D = some (.lst xs) ∧ Reps K (ad.hide (D :: hd)) as2 H2 xs acc ∧
          En K (ad.hide (D :: hd)) as2 H2 σ ρ ∧ Post K (ad.hide hd) (Rep K (ad.hide hd)) as1 H1 Q (fun u d H' => W u d σ H') ((lcL gm tt elt (wipeT ρ vs) (ts.drop i) st2).bind fun ys st3 => .ok (.lst (acc ++ ys)) st3),
        ⟨ts.length, by simp, Nat.zero_le _, [], [], as1, st1, Nat.le_refl _, A1.hide hD, Ext.fresh hD, A1.nin hD, upd_same, .nil, (E.ext e1).hide hD, q1⟩, ?_⟩
      rintro i n H2 ⟨rfl, hi, acc, xs, as2, st2, hacc, A2, e2, nD, hD2, r2, E2, q2⟩
      have it := r1 (D :: hd) (fun z hz => (List.mem_cons.mp hz).elim (fun e => .inr (by rw [e]; exact hD)) .inl) i as2 st2 H2 A2 e2
      by_cases hlt : i < ts.length
      · rw [List.getElem?_eq_getElem hlt] at it
        obtain ⟨go, yl⟩ := it
        rw [List.drop_eq_getElem_cons hlt] at q2
        refine .inr ⟨go, fun H3 => i + 1 ≤ ts.length ∧ ∃ acc xs as2 st2, acc.length ≤ i + 1 ∧ Ab K (ad.hide (D :: hd)) as2 st2 H3 ∧ Ext as1 H1 as2 H3 ∧ (D ∈ as2 → False) ∧ H3 D = some (.lst xs) ∧ Reps K (ad.hide (D :: hd)) as2 H3 xs acc ∧
          En K (ad.hide (D :: hd)) as2 H3 σ ρ ∧ Post K (ad.hide hd) (Rep K (ad.hide hd)) as1 H1 Q (fun u d H' => W u d σ H') ((lcL gm tt elt (wipeT ρ vs) (ts.drop (i + 1)) st2).bind fun ys st3 => .ok (.lst (acc ++ ys)) st3),
          fun H3 ⟨h1, h2⟩ => ⟨ts.length - (i + 1), by omega, rfl, h1, h2⟩, fun x H3 y => ?_⟩
        obtain ⟨A3, e3, r3⟩ := yl x H3 y
        have hD3 : H3 D = some (.lst xs) := e3.kp nD hD2
        unfold lcL at q2
        split at q2
        case h_2 => exact q2.elim
        case h_1 ρ1 hρ1 =>
        refine hg _ _ _ as2 st2 _ _ _ H3 _ A3 ((E2.ext e3).wipe vs) r3 hρ1 fun σ4 hw E4 => ⟨hw.trans (wipe_wipe σ vs), D :: hd, ρ1, as2, st2, A3, E4, ?_⟩
        cases h1 : tt ρ1 st2 with
        | bad => rw [h1] at q2; exact q2.elim
        | exc _ _ => rw [h1] at q2; exact q2.elim
        | ok b st3 =>
          rw [h1] at q2
          intro as4 H4 c A4 e4 rc
          obtain rfl := rc
          have hD4 : H4 D = some (.lst xs) := e4.kp nD hD3
          have nD4 := e4.nin nD hD3
          cases c with
          | false =>
            refine iteF ⟨hlt, acc, xs, as4, st3, Nat.le_succ_of_le hacc, A4, (e2.trans e3).trans e4, nD4, hD4, (r2.ext e3).ext e4, (E2.ext e3).ext e4, q2⟩
          | true =>
            refine iteT ⟨D :: hd, ρ1, as4, st3, A4, E4.ext e4, ?_⟩
            replace q2 : Post K (ad.hide hd) (Rep K (ad.hide hd)) as1 H1 Q (fun u d H' => W u d σ H') (R.bind (R.bind (noExc (elt ρ1 st3)) fun y st3 => (lcL gm tt elt (wipeT ρ vs) (ts.drop (i + 1)) st3).bind fun ys st4 => .ok (y :: ys) st4) fun ys st3 => .ok (.lst (acc ++ ys)) st3) := q2
            cases h2 : elt ρ1 st3 with
            | bad => rw [h2] at q2; exact q2.elim
            | exc _ _ => rw [h2] at q2; exact q2.elim
            | ok z st5 =>
              rw [h2] at q2
              intro as5 H5 vz A5 e5 rz
              have hD5 : H5 D = some (.lst xs) := e5.kp nD4 hD4
              have nD5 := e5.nin nD4 hD4
              have memD : D ∈ (ad.hide (D :: hd)).hid := List.mem_cons_self
              have r5 := ((r2.ext e3).ext e4).ext e5
              refine ⟨xs, hD5, by rw [r5.length]; omega, hlt, acc ++ [z], xs ++ [vz], as5, st5, by simp; omega, A5.grow memD hD5, ?_, nD5, upd_same, (r5.append (.cons rz .nil)).grow memD hD5, (((E2.ext e3).ext e4).ext e5).grow memD hD5, ?_⟩
              · have ee := ((e2.trans e3).trans e4).trans e5
                refine ⟨ee.more, fun a o na q nt => ?_, fun a q => ?_⟩
                · have na' : a ≠ D := ne_of_none q hD
                  rw [upd_ne na']
                  exact ee.keep a o na q nt
                · refine ee.dom a ?_
                  by_cases ea : a = D
                  · subst ea
                    exact (q.no upd_same (fun _ w => by cases w)).elim
                  · intro o w
                    exact q o (by rw [upd_ne ea]; exact w)
              · replace q2 : Post K (ad.hide hd) (Rep K (ad.hide hd)) as1 H1 Q (fun u d H' => W u d σ H') (R.bind (R.bind (lcL gm tt elt (wipeT ρ vs) (ts.drop (i + 1)) st5) fun ys st4 => .ok (z :: ys) st4) fun ys st3 => .ok (.lst (acc ++ ys)) st3) := q2
                show Post K (ad.hide hd) (Rep K (ad.hide hd)) as1 H1 Q (fun u d H' => W u d σ H') (R.bind (lcL gm tt elt (wipeT ρ vs) (ts.drop (i + 1)) st5) fun ys st3 => .ok (.lst (acc ++ [z] ++ ys)) st3)
                have q3 : Post K (ad.hide hd) (Rep K (ad.hide hd)) as1 H1 Q (fun u d H' => W u d σ H') (R.bind (lcL gm tt elt (wipeT ρ vs) (ts.drop (i + 1)) st5) fun ys st3 => .ok (.lst (acc ++ [z] ++ ys)) st3) := by
                  cases h3 : lcL gm tt elt (wipeT ρ vs) (ts.drop (i + 1)) st5 with
                  | bad => rw [h3] at q2; exact q2.elim
                  | exc _ _ => rw [h3] at q2; exact q2
                  | ok ys st6 =>
                    rw [h3] at q2
                    have e : acc ++ [z] ++ ys = acc ++ z :: ys := by simp
                    show Post K (ad.hide hd) (Rep K (ad.hide hd)) as1 H1 Q (fun u d H' => W u d σ H') (.ok (.lst (acc ++ [z] ++ ys)) st6)
                    rw [e]
                    exact q2
                exact q3
      · have hi' : i = ts.length := by omega
        subst hi'
        rw [List.getElem?_eq_none (Nat.le_refl _)] at it
        rw [List.drop_length] at q2
        refine .inl ⟨it, ?_⟩
        have q3 : Post K (ad.hide hd) (Rep K (ad.hide hd)) as1 H1 Q (fun u d H' => W u d σ H') (.ok (.lst (acc ++ [])) st2) := q2
        rw [List.append_nil] at q3
        exact q3.to (A2.show_ (ad := ad.hide hd)) e2 (.lst ⟨⟨nD, fun z => by
          obtain ⟨_, u, e, _⟩ := A1.hid D z
          rw [hD] at e; cases e⟩, hD2⟩ (Reps.show_ (ad := ad.hide hd) r2))⟩

theorem pm_lc {elt tg iter : Expr} {ifs : List Expr} {scope : Scope} {own : List (Str × Nat)} {mi : M Wk} {g : TG} {gm : T → Sl → Option Sl} {tt : M Bool} {me : M T} {k : Nat} (S : Sit X W k) (hN : X.N.Nodup) (hgm : TgM X.K g gm (own.map (·.2)))
    (hi : PMI X ad W tg iter mi) (ok : BlkOk X.N X.env.scope scope own)
    (hg : ∀ (s : Shared) (H : Hp) (C : Addr) (cl : List (Str × Addr)) (fp : List Addr), PG (X.blk s H scope (compEnvC scope cl C X.env) fp) tg g)
    (ht : ∀ (s : Shared) (H : Hp) (C : Addr) (cl : List (Str × Addr)) (fp : List Addr), PMTs (X.blk s H scope (compEnvC scope cl C X.env) fp) ad W0 ifs tt)
    (he : ∀ (s : Shared) (H : Hp) (C : Addr) (cl : List (Str × Addr)) (fp : List Addr), PM (X.blk s H scope (compEnvC scope cl C X.env) fp) ad W0 elt me) (hs : ∀ x, foldedSetIterable iter X.env x = pure x := by intro _; rfl) :
    PM X ad W (.ListComp elt [⟨tg, iter, ifs, 0⟩] scope pos) (mLc mi gm tt me (own.map (·.2))) := peW (pe_lc S.calm hN hi ok hg ht he hs) (tLc_of hgm)
theorem pms_setLc {i : Nat} {y : Str} {py spos : Pos} {elt tg iter : Expr} {ifs : List Expr} {scope : Scope} {own : List (Str × Nat)} {mi : M Wk} {g : TG} {gm : T → Sl → Option Sl} {tt : M Bool} {me : M T} {k : Nat} (S : Sit X W k) (hN : X.N.Nodup) (hy : X.N[i]? = some y)
    (hyl : X.env.scope.names.lookup y = some .local) (hsw : swapsWith (.ListComp elt [⟨tg, iter, ifs, 0⟩] scope pos) (some (.Name y py)) spos.line X.env = pure true) (hgm : TgM X.K g gm (own.map (·.2)))
    (hi : PMI X ad W tg iter mi) (ok : BlkOk X.N X.env.scope scope own)
    (hg : ∀ (s : Shared) (H : Hp) (C : Addr) (cl : List (Str × Addr)) (fp : List Addr), PG (X.blk s H scope (compEnvC scope cl C X.env) fp) tg g)
    (ht : ∀ (s : Shared) (H : Hp) (C : Addr) (cl : List (Str × Addr)) (fp : List Addr), PMTs (X.blk s H scope (compEnvC scope cl C X.env) fp) ad W0 ifs tt)
    (he : ∀ (s : Shared) (H : Hp) (C : Addr) (cl : List (Str × Addr)) (fp : List Addr), PM (X.blk s H scope (compEnvC scope cl C X.env) fp) ad W0 elt me) (hs : ∀ x, foldedSetIterable iter X.env x = pure x := by intro _; rfl) :
    PMS X ad W (.Assign [.Name y py] (.ListComp elt [⟨tg, iter, ifs, 0⟩] scope pos) spos) (sAsg (mLc mi gm tt me (own.map (·.2))) (gSet i)) :=
  psW (ps_setLc S.calm hN hy hyl hsw hi ok hg ht he hs) fun D σ H ⟨hd, ρ, as, st, A, E, q⟩ => tLc_of hgm σ H _ ⟨hd, ρ, as, st, A, E, PostS.expr E q fun t st1 as1 H1 v A1 e1 r1 q1 => PostS.nxAt A1 ((E.ext e1).set r1) q1⟩
/-- within a comprehension's block -/
theorem Sit.blk {k : Nat} (S : Sit X W k) (s : Shared) (H : Hp) (scope : Scope) (cenv : PySem.Env) (fp : List Addr) : Sit (X.blk s H scope cenv fp) W0 k := ⟨S.calm, S.gd, S.rm, takes0, PassesOwn.never, S.sm⟩
end
end Mi

/-! MiFun: a def by its body; the law's end. -/
namespace Mi
open PySem L2 PySem.Spec PyProof.Rows

/-- a def's run: the slots at its entry, the body, its end -/
def runF (n : Nat) (body : SM) (ts : List T) (st : Sto) : R T := match body (ts.map some ++ List.replicate (n - ts.length) none) st with
  | .nx _ st' => .ok .non st'
  | .rt t st' => .ok t st'
  | .ex e _ st' => .exc e st'
  | _ => .bad

section
variable {P : Program} {w : World} {K : PySem.W.Frag} {mg : Str → Option Value} {base : Heap} {ad : Ad}
theorem start_en {K : PySem.W.Frag} {ad : Ad} {as : List Addr} {H : Hp} {N : List Str} {vs : List V} {ts : List T} (r : Reps K ad as H vs ts) : En K ad as H (L2.start N vs) (ts.map some ++ List.replicate (N.length - ts.length) none) := by
  have hl := r.length
  refine ⟨by simp [L2.start, hl], fun i t h => ?_⟩
  unfold L2.start
  by_cases hi : i < ts.length
  · rw [List.getElem?_append_left (by simpa using hi), List.getElem?_map] at h
    cases e : ts[i]? with
    | none => rw [e] at h; cases h
    | some u =>
      rw [e] at h
      cases h
      obtain ⟨v, h1, h2⟩ := r.get e
      exact ⟨v, by rw [List.getElem?_append_left (by simpa [hl] using hi), List.getElem?_map, h1]; rfl, h2⟩
  · rw [List.getElem?_append_right (by simpa using hi), List.getElem?_replicate] at h
    split at h <;> cases h
/-- a def as it stands, its defaults whatever they are -/
structure FunA (K : PySem.W.Frag) (x qual : Str) (st : Stmt) (f : Addr) (fd : FuncData) : Prop where
  ex : ∃ (oc : Value) (od : Option Addr) (dV kV doc pm : Value) (an : Option Addr) (cdv ct : Value) (osl : Array (Option Value)),
    fd = PySem.W.fnOf x qual (defArgs st) (defBody st) (defScope st) dV kV doc pm an cdv ct ∧ K.lookup f = some ⟨oc, od, .func fd, osl⟩ ∧ PySem.W.codeIn K cdv qual = true
  kp : PySem.W.keepIn K (.ref f) = true
theorem funA_mk {K : PySem.W.Frag} {x qual : Str} {st : Stmt} {f : Addr} {oc : Value} {od an : Option Addr} {osl : Array (Option Value)} {dV kV doc pm cdv ct : Value} (l : K.lookup f = some ⟨oc, od, .func (PySem.W.fnOf x qual (defArgs st) (defBody st) (defScope st) dV kV doc pm an cdv ct), osl⟩)
    (c : PySem.W.codeIn K cdv qual = true) (k : PySem.W.keepIn K (.ref f) = true) : FunA K x qual st f (PySem.W.fnOf x qual (defArgs st) (defBody st) (defScope st) dV kV doc pm an cdv ct) := ⟨⟨oc, od, dV, kV, doc, pm, an, cdv, ct, osl, rfl, l, c⟩, k⟩
/-- THE RULE for a def -/
theorem gn_okC {x qual : Str} {st : Stmt} {f : Addr} {fd : FuncData} {N ps : List Str} {k n : Nat} {body : SM} (F : FunA K x qual st f fd) (S : FnScope N ps (defScope st)) (hsm : ∃ o, base.get? sysModules = some o) (hn : ps.length = n)
    (hbody : ∀ (cdv : Value) (A : Around) (outer : List PySem.Env) (s : Shared) (H : Hp) (E : XK), fd.code = cdv → Sit (cxOf (MCX P w) P w K mg base N qual (defScope st) f cdv A outer s H E) (fun c d _ H => E c d H) k →
      PMSs (cxOf (MCX P w) P w K mg base N qual (defScope st) f cdv A outer s H E) ad (fun c d _ H => E c d H) (defBody st) body) :
    GnOk P w K mg base (k + 1) f fd ps (spF K ad n (runF N.length body)) := by
  obtain ⟨oc, od, dV, kV, doc, pm, an, cdv, ct, osl, rfl, lk, hcd⟩ := F.ex
  refine ⟨fun vs H Q E h => h.1.trans hn.symm, fun A outer s H args us vs Q E hr hg e0 hb r hsp => ?_⟩
  obtain ⟨hl, hd, as, sto, ts, Ab0, rts, hq⟩ := hsp
  rw [← hn] at hl
  have KX : K.In s.heap := e0.mod.kin.keeps fun b o e => (e0.bs b o e).1
  have lim : s.heap.NoLimit := e0.mod.nolimit.keeps fun b o e => (e0.bs b o e).1
  have hkind : ∀ y ∈ ps.zip us, (defScope st).names.lookup y.1 = some .local ∨
      ((defScope st).names.lookup y.1 = some .cell ∧ ((cellsFrom (s.heap.objs.size + 1) (defScope st).names []).lookup y.1).isSome = true) := by
    rintro ⟨n, v⟩ hy
    rcases S.par n (List.of_mem_zip hy).1 with q | q
    · exact .inl q
    · exact .inr ⟨q, PySem.W.cellsFrom_some _ _ _ (.inl q)⟩
  refine codeAny_call_function hr.depth (KX _ _ lk) rfl S.co S.gen rfl (PySem.W.codeRec_of KX hcd) (hb _ _ _ _ (wpAny_newFunctionEnv_cells S.kind hkind fun env he s1 x => ?_))
  subst he
  refine ⟨lim.keeps x.toInCall.keep, codeAny_func ?_⟩
  have sit : Sit (cxOf (MCX P w) P w K mg base N qual (defScope st) f cdv A outer s H E) (fun c d _ H => E c d H) k :=
    ⟨rfl, hg, hr.deeper _, takes_of rfl rfl rfl rfl, passes_of rfl, hsm⟩
  have I : Inv (cxOf (MCX P w) P w K mg base N qual (defScope st) f cdv A outer s H E) [] (L2.start N vs) H s1 := inv_start S hr.hd e0 hl r x
  have fin : ∀ {σ' : L2.St} {H' : Hp} {v : V} {u : Value} {s' : Shared}, Inv (cxOf (MCX P w) P w K mg base N qual (defScope st) f cdv A outer s H E) [] σ' H' s' → RelV v u → Q v H' → CE outer P w H s Q u s' :=
    fun {σ' H' v u s'} J rv q => ⟨v, H', J.os, J.bare, J.base, J.hok, rv, q⟩
  have start_ok : tS K ad (fun c d _ H => E c d H) body { nx := fun _ H' => Q .non H', rt := Q } (L2.start N vs) H := by
    refine ⟨hd, _, as, sto, Ab0, start_en rts, ?_⟩
    unfold runF at hq
    revert hq
    generalize body (ts.map some ++ List.replicate (N.length - ts.length) none) sto = r
    intro hq
    cases r with
    | nx ρ st => exact fun as' H' σ' A e E => hq as' H' .non A e .non
    | rt t st => exact fun as' H' v A e r => hq as' H' v A e r
    | bk ρ st => exact hq.elim
    | ct ρ st => exact hq.elim
    | ex x ρ st => exact fun as' H' σ' u d A e _ r => hq as' H' u d A e r
    | bad => exact hq.elim
  refine wpAny_mono ((hbody cdv A outer s H E rfl sit).run [] s1 (L2.start N vs) H _ I start_ok) (fun fl s' hs => ?_) fun e s' hs => hs
  cases fl with
  | ret u =>
    obtain ⟨v, σ', H', J, rv, q⟩ := hs
    exact fin J rv q
  | next =>
    obtain ⟨σ', H', J, q⟩ := hs
    exact fin (v := V.non) (u := Value.none) J rfl q
  | brk => exact False.elim (let ⟨_, _, _, q⟩ := hs; q)
  | cont => exact False.elim (let ⟨_, _, _, q⟩ := hs; q)
theorem gn_ok {x qual : Str} {st : Stmt} {f : Addr} {fd : FuncData} {N ps : List Str} {k n : Nat} {body : SM} (F : FunA K x qual st f fd) (S : FnScope N ps (defScope st)) (hsm : ∃ o, base.get? sysModules = some o) (hn : ps.length = n)
    (hbody : ∀ (cdv : Value) (A : Around) (outer : List PySem.Env) (s : Shared) (H : Hp) (E : XK), Sit (cxOf (MCX P w) P w K mg base N qual (defScope st) f cdv A outer s H E) (fun c d _ H => E c d H) k →
      PMSs (cxOf (MCX P w) P w K mg base N qual (defScope st) f cdv A outer s H E) ad (fun c d _ H => E c d H) (defBody st) body) :
    GnOk P w K mg base (k + 1) f fd ps (spF K ad n (runF N.length body)) := gn_okC F S hsm hn fun cdv A outer s H E _ sit => hbody cdv A outer s H E sit
/-- nothing can be asked with no level left -/
theorem gn_none {f : Addr} {fd : FuncData} {ps : List Str} {n : Nat} (hn : ps.length = n) {k : Nat} : GnOk P w K mg base k f fd ps (spF K ad n fun _ _ => .bad) :=
  ⟨fun vs H Q E h => h.1.trans hn.symm, fun A outer s H args us vs Q E _ _ _ _ _ h => by
    obtain ⟨_, _, _, _, _, _, _, q⟩ := h
    exact q.elim⟩
theorem GnOk.mono {f : Addr} {fd : FuncData} {ps : List Str} {sp : Sp} {j k : Nat} (F : GnOk P w K mg base j f fd ps sp) (h : j ≤ k) : GnOk P w K mg base k f fd ps sp :=
  ⟨F.len, fun A outer s H args us vs Q E hr => F.run A outer s H args us vs Q E (hr.mono h)⟩
end

/-! ### the law's end -/
/-- law(script) is called, the script alone tracked -/
theorem law_run {P : Program} {w : World} {K : PySem.W.Frag} {ad : Ad} {mg mb : Str → Option Value} {k : Nat} {fa a : Addr} {fd : FuncData} {x : Str} {F : List T → Sto → R T} {s₁ : Shared} {vs : List Value} {ns : List Int}
    (KX : K.In s₁.heap) (hns : s₁.heap.Ns mainGlobals mg) (hb : s₁.heap.Ns builtinsNs mb) (hbb : ∀ x : Str, x ≠ "__name__" → mb x = bootBuiltins x) (hlim : s₁.heap.NoLimit) (hmod : ∃ mm, s₁.heap.Ns sysModules mm) (hg : s₁.gens = #[])
    (ha : s₁.heap.get? a = some { cls := .type "list", data := .seq vs.toArray }) (hi : IntsAre vs ns) (hl : ns.length ≤ sizeLine) (hr : Room k callerA) (had : ad.hid = []) (hat : ad.tabs = [])
    (hF : ∀ base : Heap, K.In base → base.Ns mainGlobals mg → (∃ o, base.get? sysModules = some o) → GnOk P w K mg base k fa fd [x] (spF K ad 1 F)) (hbind : ∀ (s : Shared) (u : Value), BindsTo s fd ⟨[u], []⟩ [(x, u)])
    (hlaw : ∃ st, F [.frz (ns.map T.int)] [] = .ok (.bl true) st) :
    codeAny (model P w) callerA (.call (.ref fa) ⟨[.ref a], []⟩) (fun r s' => r = .ok (.ret (.bool true)) ∧ OldK s₁.heap s'.heap ∧ s'.os = s₁.os ∧ AllBare s'.gens) s₁ := by
  obtain ⟨stE, hlaw⟩ := hlaw
  have rv := vals_ints hi
  have lenV := hi.length
  have repInts : ∀ (as : List Addr) (H : Hp) (l : List Int), Reps K (ad.hide []) as H (l.map V.int) (l.map T.int) := fun as H l => by
    induction l with
    | nil => exact .nil
    | cons i r ih => exact .cons (.int i) ih
  have core : ∀ H : Hp, Only H → SqL K H a (ns.map V.int) → HOk P w H s₁.heap → (∀ b, H b ≠ none → b = a) → (H a ≠ none → K.lookup a = none) →
      codeAny (model P w) callerA (.call (.ref fa) ⟨[.ref a], []⟩) (fun r s' => r = .ok (.ret (.bool true)) ∧ OldK s₁.heap s'.heap ∧ s'.os = s₁.os ∧ AllBare s'.gens) s₁ := by
    intro H hO hS hok hA hK
    have hid : ∀ {b : Addr} {o : Obj}, s₁.heap.get? b = some o → H b = none → (hidT s₁.heap H).get? b = some o := fun e n => hidT_get e n
    have notA : ∀ {b : Addr} {o : Obj}, s₁.heap.get? b = some o → (∀ n, o.data ≠ .seq vs.toArray n) → H b = none := fun {b o} e d => by
      cases q : H b with
      | none => rfl
      | some u =>
        have e' : b = a := hA b (by rw [q]; simp)
        rw [e', ha] at e
        cases e
        exact absurd rfl (d _)
    have nsK : ∀ {b : Addr} {m : Str → Option Value}, s₁.heap.Ns b m → (hidT s₁.heap H).Ns b m := fun {b m} ⟨o, es, ep, e, d, r⟩ => ⟨o, es, ep, hid e (notA e fun n z => by rw [d] at z; cases z), d, r⟩
    have hKb : K.In (hidT s₁.heap H) := fun b o e => by
      refine hid (KX b o e) ?_
      cases q : H b with
      | none => rfl
      | some u =>
        have e' : b = a := hA b (by rw [q]; simp)
        rw [e', hK (by rw [← e', q]; simp)] at e
        cases e
    have hM : Mod K mg (hidT s₁.heap H) := ⟨hKb, nsK hns, ⟨mb, nsK hb, hbb⟩, let ⟨mc, h1, h2⟩ := hlim; ⟨mc, nsK h1, h2⟩⟩
    have e0 : Env0 P w K mg (hidT s₁.heap H) callerA [] s₁ H :=
      ⟨rfl, hM, fun b o e => of_hidT e, Nat.le_of_eq (hidT_size _ _), trivial, fun b hb => absurd (show b ∈ ([] : List Addr) from hb) (by simp), hok, .of_eq hg⟩
    have hsm : ∃ o, (hidT s₁.heap H).get? sysModules = some o := by
      obtain ⟨mm, hm⟩ := hmod
      obtain ⟨o, _, _, e, _⟩ := nsK hm
      exact ⟨o, e⟩
    have frz : FrzAt K [] H a (ns.map V.int) := by
      rcases hS with (h | ⟨o, h⟩) | h
      · rcases hO a with z | ⟨o, xs, z⟩
        · rw [h] at z; cases z
        · rw [h] at z; cases z
      · exact .inl ⟨by simp, o, h⟩
      · exact .inr (.inr h)
    have ab : Ab K (ad.hide []) [] [] H := ⟨rfl, List.nodup_nil, fun i a o h => by simp at h, fun a h => (by cases h), (by show LamX.Tabs ad.tabs H; rw [hat]; exact fun p hp => nomatch hp)⟩
    have sp : spF K ad 1 F [.ref a] H (fun v _ => v = .bl true) (fun _ _ _ => False) := by
      refine ⟨rfl, [], [], [], [.frz (ns.map T.int)], ab, .cons (.frz frz (repInts _ _ _)) .nil, ?_⟩
      rw [hlaw]
      intro as' H' v _ _ r
      exact r.blI
    refine codeAny_mono ((hF _ hKb (nsK hns) hsm).run callerA [] s₁ H ⟨[.ref a], []⟩ [.ref a] [.ref a] _ _ hr rfl e0 (hbind s₁ (.ref a)) (.cons rfl .nil) sp) fun r s' h => ?_
    cases r with
    | error e =>
      obtain ⟨_, _, _, _, _, _, _, _, _, _, _, _, z⟩ := h
      exact z.elim
    | ok fl =>
      cases fl with
      | next => exact False.elim h
      | brk => exact False.elim h
      | cont => exact False.elim h
      | ret u =>
        obtain ⟨v, H', os, bare, un, hok', r', q⟩ := h
        have q' : v = .bl true := q
        subst q'
        obtain rfl : u = Value.bool true := r'
        refine ⟨rfl, OldK.of_keep fun b o e => ?_, os, bare⟩
        cases q : H b with
        | none => exact un.keep b o e q (fun z => absurd (show b ∈ ([] : List Addr) from z) (by simp)) (by simp)
        | some u =>
          rcases hO b with z | ⟨ob, xs, z⟩
          · rw [q] at z; cases z
          · obtain ⟨e1, _⟩ := hok b _ z
            obtain ⟨e2, _⟩ := hok' b _ (un.frzs b ob _ z)
            rw [e] at e1; cases e1
            exact e2
  cases hk : K.lookup a with
  | some o =>
    have e := KX a o hk
    rw [ha] at e
    cases e
    refine core (fun _ => none) (fun _ => .inl rfl) (.inr ⟨_, vs.toArray, _, hk, rfl, rfl, rfl, by rw [List.size_toArray, lenV]; exact hl, by simpa using rv⟩) (fun b u z => ?_) (fun b z => absurd rfl z) fun z => absurd rfl z
    have z' : (none : Option HO) = some u := z
    cases z'
  | none =>
    let H0 : Hp := fun b => if b = a then some (.frz { cls := .type "list", data := .seq vs.toArray } (.lst (ns.map V.int))) else none
    have at_ : H0 a = some (.frz { cls := .type "list", data := .seq vs.toArray } (.lst (ns.map V.int))) := if_pos rfl
    have off : ∀ b, b ≠ a → H0 b = none := fun b h => if_neg h
    refine core H0 (fun b => ?_) (.inl (.inr ⟨_, at_⟩)) (fun b u z => ?_) (fun b z => ?_) fun _ => hk
    · by_cases hb : b = a
      · subst hb; exact .inr ⟨_, _, at_⟩
      · exact .inl (off b hb)
    · by_cases hb : b = a
      · subst hb
        rw [at_] at z; cases z
        exact ⟨ha, by rw [List.length_map]; exact hl, vs, _, rv, ha⟩
      · rw [off b hb] at z; cases z
    · by_cases hb : b = a
      · exact hb
      · exact absurd (off b hb) z
/-- the goal that k_head leaves, from the mirror's answer -/
theorem walkM {l : PySem.W.OpenLaw} {n k : Nat} {q : Program} {loose : List Str} {XP : (Str → Option Value) → Heap → Prop} {YP : World → Heap → Prop} {d : DefRec} {K : Params → PySem.W.Frag} {x : Str} {F : List T → Sto → R T}
    (hn : l.most = some n) (hn2 : n ≤ sizeLine) (hdf : d.params.defaults = []) (hr : Room k callerA) (hi : importsNone q = true)
    (hY : ∀ (w : World) (h : Heap), YP w h → (K w.params).In h)
    (hlaw : ∀ ns : List Int, ns.length ≤ n → ∃ st, F [.frz (ns.map T.int)] [] = .ok (.bl true) st)
    (hF : ∀ (w : World) (mg : Str → Option Value) (fa : Addr) (h : Heap), (K w.params).In h → h.Ns mainGlobals mg → mg d.name = some (.ref fa) →
      ∃ (ad : Ad) (fd : FuncData), ad.hid = [] ∧ ad.tabs = [] ∧ (∀ (s : Shared) (u : Value), BindsTo s fd ⟨[u], []⟩ [(x, u)]) ∧
        ∀ base : Heap, (K w.params).In base → base.Ns mainGlobals mg → (∃ o, base.get? sysModules = some o) → GnOk l.prog w (K w.params) mg base k fa fd [x] (spF (K w.params) ad 1 F)) :
    PySem.W.WalkO q loose XP YP l.row.toRowW d [] (fun f vs => PySem.call f vs) := by
  refine Att.attach_call hn hdf fun w s₀ s₁ mg mb fa o pm cd doc a vs ns G Y ho hd hcd hmg hobj hints hlen hg => ?_
  have KX := hY w _ Y
  obtain ⟨ad, fd, had, hat, hb, hG⟩ := hF w mg fa _ KX G.T.g hmg
  obtain ⟨mm, hm, _⟩ := (G.T.seer hi).mods
  exact law_run KX G.T.g G.T.b G.T.builtins G.T.nolimit ⟨mm, hm⟩ hg hobj hints (Nat.le_trans hlen hn2) hr had hat hG hb (hlaw ns hlen)
end Mi

/-! MiMeth: methods of lists and texts, isinstance of several classes, a tuple turned round. -/
namespace Mi
open PySem L2
section
variable {X : Cx} {ad : Ad} {W : WX} {pos p cpos apos : Pos} {o e : Expr} {es : List Expr}
/-- a built-in type's method, by values -/
def MethM (X : Cx) (id : String) (op : T → List T → Sto → R T) : Prop :=
  ∃ r, MtR X id r ∧ ∀ ad as st H x xs tx ts Q W, Ab X.K ad as st H → Rep X.K ad as H x tx → Reps X.K ad as H xs ts → Post X.K ad (Rep X.K ad) as H Q W (op tx ts st) → r x xs H Q
/-- the class by which a method is looked up -/
def tyM (st : Sto) (t : T) : Option String := match t with
  | .str _ => some "str"
  | .int _ => some "int"
  | .dct _ _ => some "dict"
  | t => match lstR st t with
    | some _ => some "list"
    | none => none
theorem Rep.tyV {K : PySem.W.Frag} {as : List Addr} {H : Hp} {st : Sto} {v : V} {t : T} {n : String} (A : Ab K ad as st H) (r : Rep K ad as H v t) (h : tyM st t = some n) : L2.tyV K n v H := by
  unfold tyM at h
  split at h
  · cases h; obtain rfl := r.strI; exact rfl
  · cases h; obtain rfl := r.intI; exact rfl
  · cases h
    cases r with
    | dct _ h _ _ => exact .inr (.inr (.inl ⟨rfl, .inl ⟨_, h⟩⟩))
  · split at h
    · rename_i ts e
      cases h
      obtain ⟨a, xs, rfl, h1, _⟩ := r.lstR A e
      exact .inl ⟨rfl, _, h1⟩
    · cases h
def mMeth (ty : String) (op : T → List T → Sto → R T) (mo : M T) (ma : M (List T)) : M T := fun ρ st => (mo ρ st).bind fun x st1 => if tyM st1 x = some ty then (ma ρ st1).bind fun ts st2 => op x ts st2 else .bad
def mMeth0 (ty : String) (op : T → List T → Sto → R T) (mo : M T) : M T := fun ρ st => (mo ρ st).bind fun x st1 => if tyM st1 x = some ty then op x [] st1 else .bad
theorem pm_meth {name : Str} {ty id : String} {op : T → List T → Sto → R T} {mo : M T} {ma : M (List T)} (hm : MethM X id op) (pa : PlainAttrs ty) (slot : Slot ty name id) (hty : typeOf (.builtin id) = pure (.type "method_descriptor"))
    (ho : PM X ad W o mo) (ha : PMA X ad W (e :: es) ma)
    (hbase : attributeBase o name X.env (eval o X.env) = eval o X.env := by rfl)
    (hfew : ((backTo cpos (starEach (e :: es) X.env)).all (fun x => !x.1) && (backToKw cpos (keywordEach [] X.env)).all (fun x => x.1.isSome)
      && decide ((e :: es).length + ([] : List Keyword).length + (if ([] : List Keyword).isEmpty then 0 else 1) < 30)) = true := by rfl)
    (hline : (apos.endLine == cpos.line) = true := by rfl) (hs : starEach (e :: es) X.env = (false, eval e X.env) :: starEach es X.env := by rfl) (hplain : (backTo cpos (starEach es X.env)).any (·.1) = false := by rfl) :
    PM X ad W (.Call (.Attribute o name apos) (e :: es) [] cpos) (mMeth ty op mo ma) := by
  obtain ⟨r, h1, h2⟩ := hm
  refine peW (pe_bm pa slot hty h1 ho ha hbase hfew hline hs hplain) fun σ H Q ⟨hd, ρ, as, st, A, E, q⟩ => ⟨hd, ρ, as, st, A, E, Post.step q fun x st1 as1 H1 vx A1 e1 r1 q1 => ?_⟩
  split at q1
  · exact ⟨r1.tyV A1 (by assumption), hd, ρ, as1, st1, A1, E.ext e1, Post.step q1 fun y st2 as2 H2 vy A2 e2 r2 q2 => h2 _ as2 st2 H2 vx vy x y Q _ A2 (r1.ext e2) r2 q2⟩
  · exact q1.elim
theorem pm_meth0 {name : Str} {ty id : String} {op : T → List T → Sto → R T} {mo : M T} (hm : MethM X id op) (pa : PlainAttrs ty) (slot : Slot ty name id) (hty : typeOf (.builtin id) = pure (.type "method_descriptor"))
    (ho : PM X ad W o mo) (hbase : attributeBase o name X.env (eval o X.env) = eval o X.env := by rfl) (hline : (apos.endLine == cpos.line) = true := by rfl) :
    PM X ad W (.Call (.Attribute o name apos) [] [] cpos) (mMeth0 ty op mo) := by
  obtain ⟨r, h1, h2⟩ := hm
  refine peW (pe_bm0 pa slot hty h1 ho hbase hline) fun σ H Q ⟨hd, ρ, as, st, A, E, q⟩ => ⟨hd, ρ, as, st, A, E, Post.step q fun x st1 as1 H1 vx A1 e1 r1 q1 => ?_⟩
  split at q1
  · exact ⟨r1.tyV A1 (by assumption), h2 _ as1 st1 H1 vx [] x [] Q _ A1 r1 .nil q1⟩
  · exact q1.elim

/-! ### lists of the store -/
def atS (st : Sto) (t : T) : Option (Nat × List T) := match t with
  | .ref i => match st[i]? with
    | some (.lst ts) => some (i, ts)
    | _ => none
  | _ => none
theorem Rep.atS {K : PySem.W.Frag} {as : List Addr} {H : Hp} {st : Sto} {v : V} {t : T} {i : Nat} {ts : List T} (A : Ab K ad as st H) (r : Rep K ad as H v t) (h : atS st t = some (i, ts)) :
    ∃ a xs, v = .ref a ∧ as[i]? = some a ∧ st[i]? = some (.lst ts) ∧ H a = some (.lst xs) ∧ Reps K ad as H xs ts := by
  unfold Mi.atS at h
  split at h
  · split at h
    · rename_i e
      cases h
      obtain ⟨a, h2, xs, h3, h4⟩ := A.get e
      cases r with
      | ref h5 =>
        rw [h2] at h5; cases h5
        exact ⟨_, _, rfl, h2, e, h3, h4⟩
    · cases h
  · cases h
def fAppend (x : T) (ys : List T) (st : Sto) : R T := match atS st x, ys with
  | some (i, ts), [y] => if ts.length < sizeLine then .ok .non (st.set i (.lst (ts ++ [y]))) else .bad
  | _, _ => .bad
theorem mm_append : MethM X "list.append" fAppend := by
  refine ⟨_, mt_append, fun ad as st H x xs tx ts Q W A r rs q => ?_⟩
  unfold fAppend at q
  split at q
  · split at q
    · rename_i e hz
      obtain ⟨a, vs, rfl, h1, h2, h3, h4⟩ := r.atS A e
      obtain ⟨v, rfl, rv⟩ := rs.one
      obtain ⟨B, ex⟩ := A.putLst h1 h2 h3 (h4.append (.cons rv .nil))
      exact ⟨a, vs, v, rfl, rfl, h3, by rw [h4.length]; exact hz, q.to B ex .non⟩
    · exact q.elim
  · exact q.elim
def fPop (x : T) (ys : List T) (st : Sto) : R T := match atS st x, ys with
  | some (i, ts), [] => match ts[ts.length - 1]? with
    | some t => .ok t (st.set i (.lst ts.dropLast))
    | none => .bad
  | _, _ => .bad
theorem mm_pop : MethM X "list.pop" fPop := by
  refine ⟨_, mt_pop, fun ad as st H x xs tx ts Q W A r rs q => ?_⟩
  unfold fPop at q
  split at q
  · split at q
    · rename_i e _ t et
      obtain ⟨a, vs, rfl, h1, h2, h3, h4⟩ := r.atS A e
      cases rs
      obtain ⟨y, e1, ry⟩ := h4.get et
      obtain ⟨B, ex⟩ := A.putLst h1 h2 h3 h4.dropLast
      exact ⟨a, vs, y, rfl, rfl, h3, by rw [h4.length]; exact e1, q.to B ex (ry.ext ex)⟩
    · exact q.elim
  · exact q.elim
/-- text.count(text) -/
def fCount (x : T) (ys : List T) (st : Sto) : R T := match x, ys with
  | .str a, [.str b] => .ok (.int (Txt.count a b)) st
  | _, _ => .bad
theorem mm_count : MethM X "str.count" fCount := by
  refine ⟨_, mt_count, fun ad as st H x xs tx ts Q W A r rs q => ?_⟩
  unfold fCount at q
  split at q
  · obtain ⟨v, rfl, rv⟩ := rs.one
    exact ⟨_, _, r.strI, by rw [rv.strI], Post.at A (.int _) q⟩
  · exact q.elim

/-! ### isinstance(x, (A, B)) -/
def rIsiS (K : PySem.W.Frag) : List V → Hp → VK → Prop := fun xs H Q => ∃ (x : V) (tp : Addr) (cs : List V) (t : Value) (us : List Value) (b : Bool), xs = [x, .ref tp] ∧ SqT K H tp cs ∧ Paired ClsV cs us ∧ TyX K H x t ∧ PySem.W.kitAny K t us = some b ∧ Q (.bl b) H
theorem call_isiS : CallR X (.builtin "isinstance") (rIsiS X.K) := by
  intro pins s σ H xs us Q I r h
  obtain ⟨x, tp, cs, t, ws, b, rfl, hT, k, ty, e, q⟩ := h
  obtain ⟨u1, u2, rfl, r1, r2⟩ := vals2 r
  cases (show u2 = Value.ref tp from r2)
  obtain ⟨P, Z, p, hx⟩ := kit_of I r1 ty
  obtain ⟨its, rv, ⟨o, h1, h2, n, h3⟩, _⟩ := I.tuple hT
  have e3 := ClsV.all k rv
  subst e3
  obtain ⟨oc, od, dt, sl⟩ := o
  simp only at h2 h3
  subst h2 h3
  exact PySem.W.kia_tup Z I.kIn p h1 e hx fun tk => ⟨.bl b, H, I.tok tk, rfl, q⟩
/-- the classes of a tuple of built-in ones -/
def tysOf : List T → Option (List String)
  | [] => some []
  | .ty n :: ts => (tysOf ts).map (n :: ·)
  | _ => none
theorem Reps.tys {K : PySem.W.Frag} {as : List Addr} {H : Hp} : ∀ {xs : List V} {ts : List T} {bs : List String}, Reps K ad as H xs ts → tysOf ts = some bs → Paired ClsV xs (bs.map Value.type)
  | _, _, _, .nil, h => by simp only [tysOf, Option.some.injEq] at h; subst h; exact .nil
  | _, _, _, .cons (.ty b) s, h => by
    simp only [tysOf, Option.map_eq_some_iff] at h
    obtain ⟨bs, h1, rfl⟩ := h
    exact .cons (.ty b) (Reps.tys s h1)
  | _, _, _, .cons .non _, h | _, _, _, .cons (.bl _) _, h | _, _, _, .cons (.str _) _, h | _, _, _, .cons (.byt _) _, h | _, _, _, .cons (.int _) _, h
  | _, _, _, .cons (.tup _ _) _, h | _, _, _, .cons (.lst _ _) _, h | _, _, _, .cons (.frz _ _) _, h | _, _, _, .cons (.dct _ _ _ _) _, h | _, _, _, .cons (.ref _) _, h | _, _, _, .cons (.adr _) _, h => by simp [tysOf] at h
def isTys (a : String) : List String → Option Bool
  | [] => some false
  | b :: bs => match isTy a b, isTys a bs with
    | some x, some y => some (x || y)
    | _, _ => none
theorem isTys_kit {K : PySem.W.Frag} {a : String} : ∀ {bs : List String} {r : Bool}, isTys a bs = some r → PySem.W.kitAny K (.type a) (bs.map Value.type) = some r
  | [], r, h => by simp only [isTys, Option.some.injEq] at h; subst h; rfl
  | b :: bs, r, h => by
    unfold isTys at h
    split at h
    · rename_i x y e1 e2
      cases h
      refine kitAny_cons (isTy_kit e1) (fun hb => ?_) fun hb => by rw [hb]; rfl
      subst hb
      rw [Bool.false_or]
      exact isTys_kit e2
    · cases h
def fIsiS (xs : List T) (st : Sto) : R T := match xs with
  | [t, .ty n] => match (tyName st t).bind fun a => isTy a n with
    | some r => .ok (.bl r) st
    | none => .bad
  | [t, .tup ts] => match (tyName st t).bind fun a => (tysOf ts).bind fun bs => isTys a bs with
    | some r => .ok (.bl r) st
    | none => .bad
  | _ => .bad
theorem cm_isiS : CallM X (.builtin "isinstance") fIsiS := by
  refine ⟨_, CallR.alt call_isi call_isiS, fun ad as st H xs ts Q W A r q => ?_⟩
  unfold fIsiS at q
  split at q
  · obtain ⟨v, w, rfl, rv, rw⟩ := r.two
    cases rw
    split at q
    · rename_i e
      obtain ⟨a, e1, e2⟩ := Option.bind_eq_some_iff.mp e
      exact .inl ⟨_, _, _, _, _, rfl, .ty _, rv.tyX A e1, isTy_kit e2, Post.at A (.bl _) q⟩
    · exact q.elim
  · obtain ⟨v, w, rfl, rv, rw⟩ := r.two
    obtain ⟨tp, cs, rfl, h1, h2⟩ := rw.tupI
    split at q
    · rename_i e
      obtain ⟨a, e1, e2⟩ := Option.bind_eq_some_iff.mp e
      obtain ⟨bs, e3, e4⟩ := Option.bind_eq_some_iff.mp e2
      exact .inr ⟨_, tp, cs, _, _, _, rfl, h1, h2.tys e3, rv.tyX A e1, isTys_kit e4, Post.at A (.bl _) q⟩
    · exact q.elim
  · exact q.elim

/-! ### {} -/
def mDict0 : M T := fun _ st => .ok (.dct [] []) st
theorem pm_dict0 : PM X ad W (.Dict [] [] pos) mDict0 :=
  peW pe_dnewK fun σ H Q ⟨hd, ρ, as, st, A, E, q⟩ p hp => q.to (A.fresh hp) (Ext.fresh hp) (.dct ⟨A.nin hp, A.notHid hp⟩ upd_same rfl .nil)
/-! ### a + b, a list of the store -/
def opAddS (x y : T) (st : Sto) : R T := match lstD st x, lstD st y with
  | some a, some b => if a.length + b.length ≤ sizeLine then .ok (.ref st.length) (st ++ [.lst (a ++ b)]) else .bad
  | _, _ => .bad
theorem om_addS : OpM X (binaryOp .Add) opAddS := by
  refine ⟨_, op_cat, fun ad as st H x y tx ty Q W A rx ry q => ?_⟩
  unfold opAddS at q
  split at q
  · rename_i h1 h2
    split at q
    · rename_i hz
      obtain ⟨a, xs, e1, h1, r1⟩ := rx.lstD A h1
      obtain ⟨b, ys, e2, h2, r2⟩ := ry.lstD A h2
      refine ⟨a, b, xs, ys, e1, e2, h1, h2, by rw [r1.length, r2.length]; exact hz, fun p hp => ?_⟩
      obtain ⟨B, ex, r⟩ := A.newLst hp (r1.append r2)
      exact q.to B ex r
    · exact q.elim
  · exact q.elim
end
end Mi

/-! MiRev: t[::-1], of a tuple. -/
namespace Mi
open PySem L2 PySem.Spec PyProof.Rows HT
theorem adjust_rev (n : Nat) : Builtin.Slice.sliceAdjust none none (-1) (n : Int) = ((n : Int) - 1, -1) := by
  unfold Builtin.Slice.sliceAdjust
  simp
theorem places_rev (n : Nat) : Builtin.Slice.slicePlaces ((n : Int) - 1) (-1) (-1) = n := by
  unfold Builtin.Slice.slicePlaces
  have h1 : ¬ ((-1 : Int) > 0) := by omega
  simp only [h1, if_false]
  split
  · have : ((n : Int) - 1 - -1 - 1) / (- -1) = (n : Int) - 1 := by
      rw [show (- -1 : Int) = 1 by decide, Int.ediv_one]; omega
    rw [this]; omega
  · omega
theorem pick_rev (xs : Array Value) : ((List.range xs.size).filterMap fun (k : Nat) => xs[((xs.size : Int) - 1 + (k : Int) * (-1)).toNat]?).toArray = xs.toList.reverse.toArray := by
  have e : ∀ k ∈ List.range xs.size, xs[((xs.size : Int) - 1 + (k : Int) * (-1)).toNat]? = xs.toList.reverse[k]? := fun k hk => by
    have hk := List.mem_range.mp hk
    rw [List.getElem?_reverse (by simpa using hk)]
    have : ((xs.size : Int) - 1 + (k : Int) * (-1)).toNat = xs.size - 1 - k := by omega
    rw [this]
    simp
  have fc : ∀ (l : List Nat) (f g : Nat → Option Value), (∀ k ∈ l, f k = g k) → l.filterMap f = l.filterMap g := fun l f g => by
    induction l with
    | nil => intro _; rfl
    | cons a l ih =>
      intro h
      rw [List.filterMap_cons, List.filterMap_cons, h a (List.mem_cons_self ..), ih fun k hk => h k (List.mem_cons_of_mem _ hk)]
  rw [fc _ _ _ e]
  congr 1
  have : ∀ (l : List Value) (n : Nat), n = l.length → (List.range n).filterMap (fun k => l[k]?) = l := fun l => by
    induction l with
    | nil => rintro _ rfl; rfl
    | cons a l ih =>
      rintro _ rfl
      rw [List.length_cons, List.range_succ_eq_map, List.filterMap_cons]
      simp only [List.getElem?_cons_zero, List.filterMap_map]
      congr 1
      exact ih _ rfl
  exact this _ _ (by simp)
section
variable {prog : Program} {w : World} {A : PySem.Around} {E : Value → Shared → Prop} {s : Shared}
theorem sliceApplied_rev {sl : Addr} {vl vu vs : Value} {n : Nat} {Q : Int × Int × Nat → Shared → Prop} (hs : s.heap.IsSliceOf sl vl vu vs) (pl : IsPart vl none) (pu : IsPart vu none) (ps : IsPart vs (some (-1)))
    (h : Q ((n : Int) - 1, -1, n) s) : wpAny (model prog w) A (Builtin.Slice.sliceApplied (.ref sl) (pure (n : Int))) Q E s := by
  obtain ⟨os, hos, hcs, hds⟩ := id hs
  unfold Builtin.Slice.sliceApplied Builtin.Slice.sliceFields
  refine wpAny_bind (wpAny_bind (wpAny_field hos hds (x := vl) rfl (wpAny_bind (wpAny_field hos hds (x := vu) rfl (wpAny_bind (wpAny_field hos hds (x := vs) rfl (wpAny_pure ?_)))))))
  refine wpAny_bind (slicePart_ ps ?_)
  show wpAny _ _ (if ((-1 : Int) == 0) = true then _ else _) _ _ s
  rw [if_neg (by decide)]
  refine wpAny_bind (slicePart_ pl (wpAny_bind (slicePart_ pu (wpAny_bind (wpAny_pure ?_)))))
  show wpAny _ _ (match Builtin.Slice.sliceAdjust none none (-1) (n : Int) with | (lo, hi) => pure (lo, (-1 : Int), Builtin.Slice.slicePlaces lo hi (-1))) _ _ s
  rw [adjust_rev n]
  show wpAny _ _ (pure ((n : Int) - 1, (-1 : Int), Builtin.Slice.slicePlaces ((n : Int) - 1) (-1) (-1))) _ _ s
  rw [places_rev]
  exact wpAny_pure h
theorem getItem_tuple_rev {t sl : Addr} {items : Array Value} {vl vu vs : Value} {Q : Value → Shared → Prop} (ht : IsTup s.heap t items) (hs : s.heap.IsSliceOf sl vl vu vs) (pl : IsPart vl none) (pu : IsPart vu none) (ps : IsPart vs (some (-1)))
    (h : Q (.ref s.heap.objs.size) { s with heap := s.heap.push { cls := .type "tuple", data := .seq items.toList.reverse.toArray } })
    (hsz : items.size ≤ sizeLine) : wpAny (model prog w) A (getItem (.ref t) (.ref sl)) Q E s := by
  have htake : sizeOk (.seq items.toList.reverse.toArray) := by
    show items.toList.reverse.toArray.size ≤ sizeLine
    rw [List.size_toArray, List.length_reverse, Array.length_toList]
    exact hsz
  obtain ⟨os, hos, hcs, hds⟩ := id hs
  have hTs : s.TypeIs (.ref sl) "slice" := ⟨os, hos, hcs⟩
  unfold getItem
  try with_reducible refine wpAny_holding ?_
  first | refine wpAny_bind (wpAny_pure ?_) | skip
  refine wpAny_bind (wpAny_sequenceKey ht.typeIs (by decide) ?_)
  refine wpAny_bind (wpAny_callSpecial?_slot (name := Str.ofString "__getitem__") ht.typeIs PyProof.Rows.slot_tuple_getitem
    (wpAny_call_entry PyProof.Rows.slot_tuple_getitem ht.typeIs entry_tuple_getitem ?_ (args_tuple_getitem _ _)))
  show wpAny _ _ (Builtin.Tuple.tupleItemsOf (.ref t) >>= _) _ _ s
  refine wpAny_bind (tupleItemsOf_ ht ?_)
  refine wpAny_bind (wpAny_typeOf hTs ?_)
  rw [if_pos (by decide)]
  refine wpAny_bind (sliceApplied_rev hs pl pu ps ?_)
  have hno : ¬ ((((items.size : Int) - 1) == 0 && (-1 : Int) == 1 && items.size == items.size) = true) := by
    intro q
    rw [Bool.and_eq_true, Bool.and_eq_true] at q
    exact absurd (eq_of_beq q.1.2) (by decide)
  show wpAny _ _ (if (((items.size : Int) - 1) == 0 && (-1 : Int) == 1 && items.size == items.size) = true then _ else _) _ _ s
  rw [if_neg hno, pick_rev]
  first
    | exact wpAny_bind (m := Builtin.Tuple.tupleExact _) (wpAny_newObj_type (wpAny_pure ⟨_, rfl, wpAny_pure h⟩) htake)
    | exact wpAny_bind (m := Builtin.Tuple.tupleExact _) (wpAny_newObj_type (wpAny_bind (wpAny_pure (wpAny_pure ⟨_, rfl, wpAny_pure h⟩))) htake)
    | exact wpAny_bind (wpAny_bind (m := Builtin.Tuple.tupleExact _) (wpAny_newObj_type (wpAny_pure (wpAny_pure ⟨_, rfl, wpAny_pure h⟩)) htake))
    | exact wpAny_bind (wpAny_bind (m := Builtin.Tuple.tupleExact _) (wpAny_newObj_type (wpAny_pure ⟨_, rfl, wpAny_pure h⟩) htake))
end
def tRevA (K : PySem.W.Frag) (te : TE) : TE := fun σ H Q => te σ H fun x H1 => ∃ a xs, x = .ref a ∧ ((SqT K H1 a xs ∧ ∀ p, H1 p = none → Q (.ref p) (upd H1 p (.tup xs.reverse))) ∨ (SqL K H1 a xs ∧ ∀ p, H1 p = none → Q (.ref p) (upd H1 p (.lst xs.reverse))))
section
variable {X : Cx} {ad : Ad} {W : WX} {pos p1 p2 p3 : Pos} {e : Expr}
theorem pe_revA {te : TE} {k : Nat} (he : PE X e te) : PE X (.Subscript e (.Slice none none (some (.UnaryOp .USub (.Constant (.int 1) k p1) p2)) p3) pos) (tRevA X.K te) := by
  refine ⟨fun pins s σ H Q I h => ?_⟩
  refine Subscript_ (thn (he.run pins s σ H _ I h) fun v s1 ⟨x, H1, I1, r1, q1⟩ => ?_)
  obtain ⟨a, xs, ex, q⟩ := q1
  subst ex
  cases r1
  have hst : PO X (some (.UnaryOp .USub (.Constant (.int 1) k p1) p2)) (tPart (tUn (rU fun i => .int (-i)) (tC (.int 1)))) := po_some (pe_un un_neg pe_int)
  refine wpAny_Slice (thn (po_none.run pins s1 σ H1 (fun o H2 => o = none ∧ H2 = H1) I1 ⟨rfl, rfl⟩) fun vl s2 ⟨l, H2, I2, pl, el, e2⟩ => ?_)
  subst el e2
  refine thn (po_none.run pins s2 σ H2 (fun o H3 => o = none ∧ H3 = H2) I2 ⟨rfl, rfl⟩) fun vu s3 ⟨u, H3, I3, pu, eu, e3⟩ => ?_
  subst eu e3
  refine thn (hst.run pins s3 σ H3 (fun o H4 => o = some (-1) ∧ H4 = H3) I3 ⟨1, rfl, -1, rfl, rfl, rfl⟩) fun vs s4 ⟨o, H4, I4, ps, eo, e4⟩ => ?_
  subst eo e4
  have I5 : Inv X pins σ H4 { s4 with heap := s4.heap.push { cls := .type "slice", data := .fields #[vl, vu, vs] } } := I4.kept (t' := s4.toks) fun b ob q => Heap.get?_push_of_some _ q
  show wpAny (model X.prog X.w) X.A (subscriptTail e (.Slice none none (some (.UnaryOp .USub (.Constant (.int 1) k p1) p2)) p3) (.ref a) (.ref s4.heap.objs.size)) (EP X pins σ Q) X.xe { s4 with heap := s4.heap.push { cls := .type "slice", data := .fields #[vl, vu, vs] } }
  rcases q with ⟨hx, q⟩ | ⟨hx, q⟩
  · obtain ⟨its, r, ht, hz⟩ := I5.tuple hx
    have hlen := r.length
    refine tail_any (ops := [.ref a, .ref s4.heap.objs.size]) ht.typeIs (PyProof.Rows.slot_tuple_getitem.lookup) ?_ (by with_unfolding_all rfl)
    refine getItem_tuple_rev ht (Heap.IsSliceOf.new _ vl vu vs) pl pu ps ?_ (by rw [List.size_toArray]; omega)
    refine ⟨.ref _, _, I5.laid (t' := s4.toks) (o := .tup xs.reverse) (fun b ob q => Heap.get?_push_of_some _ q) (Nat.le_refl _) ?_, rfl, q _ (I5.hok.fresh (Nat.le_refl _))⟩
    exact ⟨by rw [List.length_reverse]; exact hz, _, r.reverse, IsTup.new _ _⟩
  · obtain ⟨its, r, ht, hz⟩ := I5.list hx
    have hlen := r.length
    refine tail_any (ops := [.ref a, .ref s4.heap.objs.size]) ht.isList.typeIs (PySem.slot_list_getitem.lookup) ?_ (by with_unfolding_all rfl)
    refine wpAny_getItem_list_slice ht.isList (Heap.IsSliceOf.new _ vl vu vs) pl pu ps (by decide) ?_ (by rw [List.size_toArray]; omega)
    rw [PySem.W.krv_pick]
    refine ⟨.ref _, _, I5.laid (t' := s4.toks) (o := .lst xs.reverse) (fun b ob q => Heap.get?_push_of_some _ q) (Nat.le_refl _) ?_, rfl, q _ (I5.hok.fresh (Nat.le_refl _))⟩
    exact ⟨by rw [List.length_reverse]; exact hz, _, 0, r.reverse, Heap.get?_push_size _ rfl⟩
def opRev (x : T) (st : Sto) : R T := match x with
  | .tup ts => .ok (.tup ts.reverse) st
  | x => match lstR st x with
    | some ts => .ok (.lst ts.reverse) st
    | none => .bad
theorem pm_rev {k : Nat} {m : M T} (h : PM X ad W e m) : PM X ad W (.Subscript e (.Slice none none (some (.UnaryOp .USub (.Constant (.int 1) k p1) p2)) p3) pos) (mUn opRev m) :=
  peW (pe_revA h) fun σ H Q ⟨hd, ρ, as, st, A, E, q⟩ => ⟨hd, ρ, as, st, A, E, Post.step q fun x st1 as1 H1 vx A1 e1 r1 q1 => by
    unfold opRev at q1
    split at q1
    · obtain ⟨a, xs, rfl, h1, h2⟩ := r1.tupI
      exact ⟨a, xs, rfl, .inl ⟨h1, fun p hp => post_newTup A1 hp h2.reverse q1⟩⟩
    · split at q1
      · rename_i ts ee
        obtain ⟨a, xs, rfl, h1, h2⟩ := r1.lstR A1 ee
        exact ⟨a, xs, rfl, .inr ⟨h1, fun p hp => post_newLst A1 hp h2.reverse q1⟩⟩
      · exact q1.elim⟩
end
end Mi

/-! MiGen: what the generated texts lean on. -/
namespace Mi
open PySem L2
def mCall (n : Nat) (F : List T → Sto → R T) (m : M (List T)) : M T := mApp (fun ts st => if ts.length = n then F ts st else .bad) m
section
variable {X : Cx} {W : WX} {k : Nat}
theorem Sit.u64 (S : Sit X W k) : X.A.units + 64 < cLine := S.rm.units
theorem Sit.u65 (S : Sit X W k) : X.A.units + 65 < cLine := by
  have := S.rm.un
  omega
/-- a built-in type, by its name -/
theorem pm_ty {ad : Ad} {x : Str} {n : String} {pos : Pos} (hg : Gl X x) (hm : X.mg x = none) (hv : bootBuiltins x = some (.type n)) (hn : x ≠ "__name__" := by decide) (hd : (x == ("__debug__" : Str)) = false := by decide) : PM X ad W (.Name x pos) (mC (.ty n)) :=
  pm_c (pe_bltn (v := .ty n) hg hm hv rfl hn hd) fun _ _ _ => .ty n
/-! ### the module's constants -/
mutual
inductive Cst (K : PySem.W.Frag) : Value → T → Prop
  | non : Cst K .none .non
  | bl (b : Bool) : Cst K (.bool b) (.bl b)
  | int (i : Int) (t : Tok) : Cst K (.int i t) (.int i)
  | str (i : Str) (t : Tok) : Cst K (.str i t) (.str i)
  | tup {a : Addr} {d : Option Addr} {its : Array Value} {n : Nat} {s : Array (Option Value)} {ts : List T} : K.lookup a = some ⟨.type "tuple", d, .seq its n, s⟩ → its.size ≤ 1000 → Csts K its.toList ts → Cst K (.ref a) (.tup ts)
inductive Csts (K : PySem.W.Frag) : List Value → List T → Prop
  | nil : Csts K [] []
  | cons {v : Value} {vs : List Value} {t : T} {ts : List T} : Cst K v t → Csts K vs ts → Csts K (v :: vs) (t :: ts)
end
mutual
theorem Cst.rep {K : PySem.W.Frag} : ∀ {u : Value} {t : T}, Cst K u t → ∃ v, RelV v u ∧ ∀ ad as H, Rep K ad as H v t
  | _, _, .non => ⟨.non, rfl, fun _ _ _ => .non⟩
  | _, _, .bl b => ⟨.bl b, rfl, fun _ _ _ => .bl b⟩
  | _, _, .int i t => ⟨.int i, ⟨t, rfl⟩, fun _ _ _ => .int i⟩
  | _, _, .str i t => ⟨.str i, ⟨t, rfl⟩, fun _ _ _ => .str i⟩
  | _, _, .tup (a := a) (its := its) (n := n) l z h =>
    have ⟨vs, h1, h2⟩ := Csts.reps h
    ⟨.ref a, rfl, fun ad as H => .tup (.inr (.inr ⟨_, its, n, l, rfl, rfl, Nat.le_of_lt (small1000 z), h1⟩)) (h2 ad as H)⟩
theorem Csts.reps {K : PySem.W.Frag} : ∀ {u : List Value} {t : List T}, Csts K u t → ∃ v, Vals v u ∧ ∀ ad as H, Reps K ad as H v t
  | _, _, .nil => ⟨[], .nil, fun _ _ _ => .nil⟩
  | _, _, .cons a b =>
    have ⟨v, h1, h2⟩ := Cst.rep a
    have ⟨vs, h3, h4⟩ := Csts.reps b
    ⟨v :: vs, .cons h1 h3, fun ad as H => .cons (h2 ad as H) (h4 ad as H)⟩
end
def CstM (K : PySem.W.Frag) (mg : Str → Option Value) (x : Str) (t : T) : Prop := ∃ u, mg x = some u ∧ Cst K u t
theorem CstM.pm {ad : Ad} {x : Str} {t : T} {pos : Pos} (h : CstM X.K X.mg x t) (hg : Gl X x) (hd : (x == ("__debug__" : Str)) = false := by decide) : PM X ad W (.Name x pos) (mC t) := by
  obtain ⟨u, h1, h2⟩ := h
  obtain ⟨v, h3, h4⟩ := h2.rep
  exact pm_c (pe_glob hg h1 h3 hd) h4
end
end Mi

/-! MiWp: what is wanted of a mirror's run, as a plain proposition: simp takes a run apart. -/
namespace Mi
open PySem L2
def Ok {α : Type} (r : R α) (Q : α → Sto → Prop) (E : Exn → Sto → Prop) : Prop := match r with
  | .ok a st => Q a st
  | .exc e st => E e st
  | .bad => False
abbrev noE : Exn → Sto → Prop := fun _ _ => False
def OkS (r : RS) (N : Sl → Sto → Prop) (Rt : T → Sto → Prop) (B C : Sl → Sto → Prop) (E : Exn → Sl → Sto → Prop) : Prop := match r with
  | .nx ρ st => N ρ st
  | .rt t st => Rt t st
  | .bk ρ st => B ρ st
  | .ct ρ st => C ρ st
  | .ex e ρ st => E e ρ st
  | .bad => False
section
variable {α β : Type} {Q Q' : α → Sto → Prop} {E E' : Exn → Sto → Prop}
theorem Ok.imp {r : R α} (h : Ok r Q E) (hq : ∀ a st, Q a st → Q' a st) (he : ∀ e st, E e st → E' e st) : Ok r Q' E' := by
  cases r with
  | ok a st => exact hq _ _ h
  | exc e st => exact he _ _ h
  | bad => exact h
theorem Ok.eq {r : R α} {a : α} {st : Sto} (h : Ok r (fun b s => b = a ∧ s = st) noE) : r = .ok a st := by
  cases r with
  | ok b s => obtain ⟨h1, h2⟩ := h; rw [h1, h2]
  | exc e st => exact h.elim
  | bad => exact h.elim
@[simp] theorem Ok_ok (a : α) (st : Sto) : Ok (.ok a st) Q E ↔ Q a st := Iff.rfl
@[simp] theorem Ok_exc (e : Exn) (st : Sto) : Ok (.exc e st : R α) Q E ↔ E e st := Iff.rfl
@[simp] theorem Ok_bad : Ok (.bad : R α) Q E ↔ False := Iff.rfl
@[simp] theorem Ok_bind {Q : β → Sto → Prop} (r : R α) (f : α → Sto → R β) : Ok (r.bind f) Q E ↔ Ok r (fun a st => Ok (f a st) Q E) E := by cases r <;> rfl
theorem Ok_ite {p : Prop} [Decidable p] (a b : R α) : Ok (if p then a else b) Q E ↔ (if p then Ok a Q E else Ok b Q E) := by split <;> rfl
@[simp] theorem Ok_iteB {p : Prop} [Decidable p] (a : R α) : Ok (if p then a else .bad) Q E ↔ p ∧ Ok a Q E := by
  split
  · exact ⟨fun h => ⟨by assumption, h⟩, fun h => h.2⟩
  · exact ⟨fun h => h.elim, fun h => absurd h.1 (by assumption)⟩
end
section
variable {Q : T → Sto → Prop} {E : Exn → Sto → Prop} {ρ : Sl} {y0 : Option T} {st : Sto}
@[simp] theorem Ok_var (i : Nat) : Ok (mVar i (y0 :: ρ) st) Q E ↔ ∃ t, (y0 :: ρ)[i]? = some (some t) ∧ Q t st := by
  unfold mVar
  split
  · rename_i t e
    constructor
    · exact fun h => ⟨t, e, h⟩
    · rintro ⟨u, h1, h2⟩
      rw [e] at h1; cases h1; exact h2
  · rename_i h
    constructor
    · exact fun h => h.elim
    · rintro ⟨u, h1, h2⟩
      exact absurd h1 (h u)
@[simp] theorem Ok_C (t : T) : Ok (mC t (y0 :: ρ) st) Q E ↔ Q t st := Iff.rfl
@[simp] theorem Ok_bin (op : T → T → Sto → R T) (a b : M T) : Ok (mBin op a b (y0 :: ρ) st) Q E ↔ Ok (a (y0 :: ρ) st) (fun x st1 => Ok (b (y0 :: ρ) st1) (fun y st2 => Ok (op x y st2) Q E) E) E := by unfold mBin; simp only [Ok_bind]
@[simp] theorem Ok_un (op : T → Sto → R T) (a : M T) : Ok (mUn op a (y0 :: ρ) st) Q E ↔ Ok (a (y0 :: ρ) st) (fun x st1 => Ok (op x st1) Q E) E := by unfold mUn; simp only [Ok_bind]
@[simp] theorem Ok_app (op : List T → Sto → R T) (a : M (List T)) : Ok (mApp op a (y0 :: ρ) st) Q E ↔ Ok (a (y0 :: ρ) st) (fun x st1 => Ok (op x st1) Q E) E := by unfold mApp; simp only [Ok_bind]
@[simp] theorem Ok_call (n : Nat) (F : List T → Sto → R T) (a : M (List T)) : Ok (mCall n F a (y0 :: ρ) st) Q E ↔ Ok (a (y0 :: ρ) st) (fun x st1 => x.length = n ∧ Ok (F x st1) Q E) E := by unfold mCall; simp only [Ok_app, Ok_iteB]
@[simp] theorem Ok_nil {Q : List T → Sto → Prop} : Ok (mNil (y0 :: ρ) st) Q E ↔ Q [] st := Iff.rfl
@[simp] theorem Ok_cons {Q : List T → Sto → Prop} (a : M T) (b : M (List T)) : Ok (mCons a b (y0 :: ρ) st) Q E ↔ Ok (a (y0 :: ρ) st) (fun x st1 => Ok (b (y0 :: ρ) st1) (fun y st2 => Q (x :: y) st2) E) E := by unfold mCons; simp only [Ok_bind, Ok_ok]
@[simp] theorem Ok_tup (a : M (List T)) : Ok (mTup a (y0 :: ρ) st) Q E ↔ Ok (a (y0 :: ρ) st) (fun x st1 => x.length ≤ sizeLine ∧ Q (.tup x) st1) E := by unfold mTup; simp only [Ok_bind, Ok_ok, Ok_iteB]
@[simp] theorem Ok_lst (a : M (List T)) : Ok (mLst a (y0 :: ρ) st) Q E ↔ Ok (a (y0 :: ρ) st) (fun x st1 => x.length ≤ sizeLine ∧ Q (.lst x) st1) E := by unfold mLst; simp only [Ok_bind, Ok_ok, Ok_iteB]
@[simp] theorem Ok_lstS (a : M (List T)) : Ok (mLstS a (y0 :: ρ) st) Q E ↔ Ok (a (y0 :: ρ) st) (fun x st1 => x.length ≤ sizeLine ∧ Q (.ref st1.length) (st1 ++ [.lst x])) E := by unfold mLstS; simp only [Ok_bind, Ok_ok, Ok_iteB]
@[simp] theorem Ok_dict0 : Ok (mDict0 (y0 :: ρ) st) Q E ↔ Q (.dct [] []) st := Iff.rfl
@[simp] theorem Ok_and (a b : M T) : Ok (mAnd a b (y0 :: ρ) st) Q E ↔ Ok (a (y0 :: ρ) st) (fun x st1 => ∃ c, x = .bl c ∧ (if c = true then Ok (b (y0 :: ρ) st1) Q E else Q (.bl false) st1)) E := by
  unfold mAnd
  rw [Ok_bind]
  refine iff_of_eq (congrArg (fun f => Ok (a (y0 :: ρ) st) f E) ?_)
  funext x st1
  cases x <;> simp
  rename_i c
  cases c <;> simp
@[simp] theorem Ok_or (a b : M T) : Ok (mOr a b (y0 :: ρ) st) Q E ↔ Ok (a (y0 :: ρ) st) (fun x st1 => ∃ c, x = .bl c ∧ (if c = true then Q (.bl true) st1 else Ok (b (y0 :: ρ) st1) Q E)) E := by
  unfold mOr
  rw [Ok_bind]
  refine iff_of_eq (congrArg (fun f => Ok (a (y0 :: ρ) st) f E) ?_)
  funext x st1
  cases x <;> simp
  rename_i c
  cases c <;> simp
@[simp] theorem Ok_not (a : M T) : Ok (mNot a (y0 :: ρ) st) Q E ↔ Ok (a (y0 :: ρ) st) (fun x st1 => ∃ c, x = .bl c ∧ Q (.bl (!c)) st1) E := by
  unfold mNot
  rw [Ok_bind]
  refine iff_of_eq (congrArg (fun f => Ok (a (y0 :: ρ) st) f E) ?_)
  funext x st1
  cases x <;> simp
@[simp] theorem Ok_test {Q : Bool → Sto → Prop} (a : M T) : Ok (mTest a (y0 :: ρ) st) Q E ↔ Ok (a (y0 :: ρ) st) (fun x st1 => ∃ c, x = .bl c ∧ Q c st1) E := by
  unfold mTest rTest
  rw [Ok_bind]
  refine iff_of_eq (congrArg (fun f => Ok (a (y0 :: ρ) st) f E) ?_)
  funext x st1
  cases x <;> simp
@[simp] theorem Ok_tand {Q : Bool → Sto → Prop} (a b : M Bool) : Ok (mTAnd a b (y0 :: ρ) st) Q E ↔ Ok (a (y0 :: ρ) st) (fun x st1 => if x = true then Ok (b (y0 :: ρ) st1) Q E else Q false st1) E := by
  unfold mTAnd
  rw [Ok_bind]
  refine iff_of_eq (congrArg (fun f => Ok (a (y0 :: ρ) st) f E) ?_)
  funext x st1
  cases x <;> simp
@[simp] theorem Ok_tor {Q : Bool → Sto → Prop} (a b : M Bool) : Ok (mTOr a b (y0 :: ρ) st) Q E ↔ Ok (a (y0 :: ρ) st) (fun x st1 => if x = true then Q true st1 else Ok (b (y0 :: ρ) st1) Q E) E := by
  unfold mTOr
  rw [Ok_bind]
  refine iff_of_eq (congrArg (fun f => Ok (a (y0 :: ρ) st) f E) ?_)
  funext x st1
  cases x <;> simp
@[simp] theorem Ok_tnot {Q : Bool → Sto → Prop} (a : M Bool) : Ok (mTNot a (y0 :: ρ) st) Q E ↔ Ok (a (y0 :: ρ) st) (fun x st1 => Q (!x) st1) E := by unfold mTNot; simp only [Ok_bind, Ok_ok]
@[simp] theorem Ok_iteM (c : M Bool) (a b : M T) : Ok (mIte c a b (y0 :: ρ) st) Q E ↔ Ok (c (y0 :: ρ) st) (fun x st1 => if x = true then Ok (a (y0 :: ρ) st1) Q E else Ok (b (y0 :: ρ) st1) Q E) E := by
  unfold mIte
  rw [Ok_bind]
  refine iff_of_eq (congrArg (fun f => Ok (c (y0 :: ρ) st) f E) ?_)
  funext x st1
  cases x <;> simp
@[simp] theorem Ok_chain (op op' : T → T → Sto → R T) (a b c : M T) : Ok (mChain op op' a b c (y0 :: ρ) st) Q E ↔ Ok (a (y0 :: ρ) st) (fun x st1 => Ok (b (y0 :: ρ) st1) (fun y st2 => Ok (op x y st2) (fun r st3 => ∃ d, r = .bl d ∧ (if d = true then Ok (c (y0 :: ρ) st3) (fun z st4 => Ok (op' y z st4) Q E) E else Q (.bl false) st3)) E) E) E := by
  unfold mChain
  simp only [Ok_bind]
  refine iff_of_eq (congrArg (fun f => Ok (a (y0 :: ρ) st) f E) ?_)
  funext x st1
  refine congrArg (fun f => Ok (b (y0 :: ρ) st1) f E) ?_
  funext y st2
  refine congrArg (fun f => Ok (op x y st2) f E) ?_
  funext r st3
  cases r <;> simp
  rename_i d
  cases d <;> simp
@[simp] theorem Ok_part {Q : Option Int → Sto → Prop} (a : M T) : Ok (mPart a (y0 :: ρ) st) Q E ↔ Ok (a (y0 :: ρ) st) (fun x st1 => ∃ i, x = .int i ∧ Q (some i) st1) E := by
  unfold mPart
  rw [Ok_bind]
  refine iff_of_eq (congrArg (fun f => Ok (a (y0 :: ρ) st) f E) ?_)
  funext x st1
  cases x <;> simp
@[simp] theorem Ok_noPart {Q : Option Int → Sto → Prop} : Ok (mNoPart (y0 :: ρ) st) Q E ↔ Q none st := Iff.rfl
@[simp] theorem Ok_sl (a : M T) (l u : M (Option Int)) : Ok (mSl a l u (y0 :: ρ) st) Q E ↔ Ok (a (y0 :: ρ) st) (fun x st1 => Ok (l (y0 :: ρ) st1) (fun lo st2 => Ok (u (y0 :: ρ) st2) (fun hi st3 => Ok (opSl x lo hi st3) Q E) E) E) E := by unfold mSl; simp only [Ok_bind]
@[simp] theorem Ok_meth (ty : String) (op : T → List T → Sto → R T) (o : M T) (a : M (List T)) : Ok (mMeth ty op o a (y0 :: ρ) st) Q E ↔ Ok (o (y0 :: ρ) st) (fun x st1 => tyM st1 x = some ty ∧ Ok (a (y0 :: ρ) st1) (fun ts st2 => Ok (op x ts st2) Q E) E) E := by unfold mMeth; simp only [Ok_bind, Ok_iteB]
@[simp] theorem Ok_meth0 (ty : String) (op : T → List T → Sto → R T) (o : M T) : Ok (mMeth0 ty op o (y0 :: ρ) st) Q E ↔ Ok (o (y0 :: ρ) st) (fun x st1 => tyM st1 x = some ty ∧ Ok (op x [] st1) Q E) E := by unfold mMeth0; simp only [Ok_bind, Ok_iteB]
@[simp] theorem Ok_opII (f : Int → Int → Option T) (i j : Int) : Ok (opII f (.int i) (.int j) st) Q E ↔ ∃ t, f i j = some t ∧ Q t st := by
  show Ok (match f i j with | some t => .ok t st | none => .bad) Q E ↔ _
  cases f i j <;> simp
@[simp] theorem fFdiv_some (i j : Int) (t : T) : fFdiv i j = some t ↔ (0 < j ∧ j.natAbs.log2 < 9000) ∧ .int (i / j) = t := by unfold fFdiv; split <;> simp_all <;> omega
@[simp] theorem fMod_some (i j : Int) (t : T) : fMod i j = some t ↔ 0 < j ∧ .int (i % j) = t := by unfold fMod; split <;> simp_all <;> omega
@[simp] theorem fPow_some (i j : Int) (t : T) : fPow i j = some t ↔ (0 ≤ j ∧ j ≤ 1000000 ∧ i.natAbs < 18446744073709551616) ∧ .int (i ^ j.toNat) = t := by unfold fPow; split <;> simp_all <;> omega
@[simp] theorem Ok_addI (i j : Int) : Ok (opAdd (.int i) (.int j) st) Q E ↔ Q (.int (i + j)) st := Iff.rfl
@[simp] theorem Ok_addT (i j : List T) : Ok (opAdd (.tup i) (.tup j) st) Q E ↔ i.length + j.length ≤ sizeLine ∧ Q (.tup (i ++ j)) st := by show Ok (if _ then _ else _) Q E ↔ _; simp only [Ok_iteB, Ok_ok]
@[simp] theorem Ok_addL (i j : List T) : Ok (opAdd (.lst i) (.lst j) st) Q E ↔ i.length + j.length ≤ sizeLine ∧ Q (.lst (i ++ j)) st := by show Ok (if _ then _ else _) Q E ↔ _; simp only [Ok_iteB, Ok_ok]
@[simp] theorem Ok_addStr (i j : Str) : Ok (opAdd (.str i) (.str j) st) Q E ↔ i.length + j.length ≤ sizeLine ∧ Q (.str (i ++ j)) st := by show Ok (if _ then _ else _) Q E ↔ _; simp only [Ok_iteB, Ok_ok]
@[simp] theorem Ok_mulI (i j : Int) : Ok (opMul (.int i) (.int j) st) Q E ↔ i.natAbs.log2 + j.natAbs.log2 < 1000000 ∧ Q (.int (i * j)) st := by show Ok (if _ then _ else _) Q E ↔ _; simp only [Ok_iteB, Ok_ok]
@[simp] theorem Ok_neg (i : Int) : Ok (opNeg (.int i) st) Q E ↔ Q (.int (-i)) st := Iff.rfl
@[simp] theorem now_non : now st .non = .non := rfl
@[simp] theorem now_bl (b : Bool) : now st (.bl b) = .bl b := rfl
@[simp] theorem now_int (b : Int) : now st (.int b) = .int b := rfl
@[simp] theorem now_strS (b : Str) : now st (.str b) = .str b := rfl
@[simp] theorem now_tup (b : List T) : now st (.tup b) = .tup b := rfl
@[simp] theorem now_lst (b : List T) : now st (.lst b) = .lst b := rfl
@[simp] theorem shaped_str (s : Str) : shaped (.str s) = PyData.strOk s := by unfold shaped T.pd; simp [SeqAt.shaped, PyData.canLay0, PyData.depth]
theorem Ok_eqB {neg : Bool} {x y : T} (hx : shaped (now st x) = true) (hy : shaped (now st y) = true) : Ok (opEqB neg x y st) Q E ↔ Q (.bl (if neg then !T.eqv (now st x) (now st y) else T.eqv (now st x) (now st y))) st := by
  unfold opEqB
  split
  · rename_i a b h1 h2
    rw [h1, h2]; rfl
  · rename_i a b h1 h2
    rw [h1] at hx; cases hx
  · rw [hx, hy]; rfl
@[simp] theorem Ok_eq {x y : T} (hx : shaped (now st x) = true) (hy : shaped (now st y) = true) : Ok (opEqB false x y st) Q E ↔ Q (.bl (T.eqv (now st x) (now st y))) st := Ok_eqB hx hy
@[simp] theorem Ok_ne {x y : T} (hx : shaped (now st x) = true) (hy : shaped (now st y) = true) : Ok (opEqB true x y st) Q E ↔ Q (.bl (!T.eqv (now st x) (now st y))) st := Ok_eqB hx hy
@[simp] theorem shaped_non : shaped .non = true := by decide
@[simp] theorem shaped_bl (b : Bool) : shaped (.bl b) = true := by cases b <;> decide
@[simp] theorem shaped_int (b : Int) : shaped (.int b) = true := by unfold shaped T.pd; simp [SeqAt.shaped, PyData.canLay0, PyData.depth]
@[simp] theorem eqv_int (i j : Int) : T.eqv (.int i) (.int j) = (i == j) := by simp [T.eqv]
@[simp] theorem Ok_ixT (ts : List T) (i : Int) : Ok (opIx (.tup ts) (.int i) st) Q E ↔ ∃ t, atI ts i = some t ∧ Q t st := by
  show Ok (atT ts i st) Q E ↔ _
  unfold atT
  cases atI ts i <;> simp
theorem Ok_ixL {x : T} {ts : List T} (i : Int) (h : lstR st x = some ts) : Ok (opIx x (.int i) st) Q E ↔ ∃ t, atI ts i = some t ∧ Q t st := by
  have e : opIx x (.int i) st = atT ts i st := by
    unfold opIx
    cases x <;> simp_all [lstR]
  rw [e]
  unfold atT
  cases atI ts i <;> simp
@[simp] theorem Ok_rng1 {Q : Wk → Sto → Prop} (m : M (List T)) : Ok (mRng itRng1 m (y0 :: ρ) st) Q E ↔ Ok (m (y0 :: ρ) st) (fun ts st1 => ∃ j, ts = [.int j] ∧ (-(2 ^ 62) ≤ j ∧ j < 2 ^ 62) ∧ Q (.seq (rgT 0 j.toNat)) st1) E := by
  unfold mRng
  rw [Ok_bind]
  refine iff_of_eq (congrArg (fun f => Ok (m (y0 :: ρ) st) f E) ?_)
  funext ts st1
  unfold itRng1
  split
  · simp
  · rename_i h
    simp only [Ok_bad, eq_iff_iff, false_iff]
    rintro ⟨j, e, _⟩
    exact h j e
@[simp] theorem Ok_rng2 {Q : Wk → Sto → Prop} (m : M (List T)) : Ok (mRng itRng2 m (y0 :: ρ) st) Q E ↔ Ok (m (y0 :: ρ) st) (fun ts st1 => ∃ i j, ts = [.int i, .int j] ∧ (-(2 ^ 62) ≤ i ∧ i < 2 ^ 62 ∧ -(2 ^ 62) ≤ j ∧ j < 2 ^ 62) ∧ Q (.seq (rgT i (j - i).toNat)) st1) E := by
  unfold mRng
  rw [Ok_bind]
  refine iff_of_eq (congrArg (fun f => Ok (m (y0 :: ρ) st) f E) ?_)
  funext ts st1
  unfold itRng2
  split
  · rename_i i j
    simp only [Ok_iteB, Ok_ok, eq_iff_iff]
    constructor
    · exact fun h => ⟨i, j, rfl, h⟩
    · rintro ⟨a, b, e, h⟩
      cases e; exact h
  · rename_i h
    simp only [Ok_bad, eq_iff_iff, false_iff]
    rintro ⟨i, j, e, _⟩
    exact h i j e
@[simp] theorem Ok_it {Q : Wk → Sto → Prop} (m : M T) : Ok (mIt m (y0 :: ρ) st) Q E ↔ Ok (m (y0 :: ρ) st) (fun x st1 => Ok (itSeq x st1) Q E) E := by unfold mIt; simp only [Ok_bind]
@[simp] theorem Ok_itT {Q : Wk → Sto → Prop} (ts : List T) : Ok (itSeq (.tup ts) st) Q E ↔ Q (.seq ts) st := Iff.rfl
@[simp] theorem Ok_itL {Q : Wk → Sto → Prop} (ts : List T) : Ok (itSeq (.lst ts) st) Q E ↔ Q (.seq ts) st := Iff.rfl
@[simp] theorem Ok_itF {Q : Wk → Sto → Prop} (ts : List T) : Ok (itSeq (.frz ts) st) Q E ↔ Q (.seq ts) st := Iff.rfl
end
/-! ### statements -/
/-- two items, three items -/
def two (ts : List T) (f : T → T → Prop) : Prop := ∃ t u, ts = [t, u] ∧ f t u
@[simp] theorem two_mk (t u : T) (f : T → T → Prop) : two [t, u] f ↔ f t u := ⟨fun ⟨_, _, e, h⟩ => by cases e; exact h, fun h => ⟨t, u, rfl, h⟩⟩
def three (ts : List T) (f : T → T → T → Prop) : Prop := ∃ t u v, ts = [t, u, v] ∧ f t u v
@[simp] theorem three_mk (t u v : T) (f : T → T → T → Prop) : three [t, u, v] f ↔ f t u v := ⟨fun ⟨_, _, _, e, h⟩ => by cases e; exact h, fun h => ⟨t, u, v, rfl, h⟩⟩
section
variable {N N' : Sl → Sto → Prop} {Rt Rt' : T → Sto → Prop} {B B' C C' : Sl → Sto → Prop} {E E' : Exn → Sl → Sto → Prop} {ρ : Sl} {y0 : Option T} {st : Sto}
theorem OkS.imp {r : RS} (h : OkS r N Rt B C E) (h1 : ∀ ρ st, N ρ st → N' ρ st) (h2 : ∀ t st, Rt t st → Rt' t st) (h3 : ∀ ρ st, B ρ st → B' ρ st) (h4 : ∀ ρ st, C ρ st → C' ρ st) (h5 : ∀ e ρ st, E e ρ st → E' e ρ st) : OkS r N' Rt' B' C' E' := by
  cases r with
  | nx ρ st => exact h1 _ _ h
  | rt t st => exact h2 _ _ h
  | bk ρ st => exact h3 _ _ h
  | ct ρ st => exact h4 _ _ h
  | ex e ρ st => exact h5 _ _ _ h
  | bad => exact h
theorem OkS_of {α : Type} (r : R α) (f : α → Sto → RS) : OkS (RS.of r ρ f) N Rt B C E ↔ Ok r (fun a st => OkS (f a st) N Rt B C E) (fun e st => E e ρ st) := by cases r <;> rfl
@[simp] theorem OkS_nil : OkS (sNil (y0 :: ρ) st) N Rt B C E ↔ N (y0 :: ρ) st := Iff.rfl
@[simp] theorem OkS_break : OkS (sBreak (y0 :: ρ) st) N Rt B C E ↔ B (y0 :: ρ) st := Iff.rfl
@[simp] theorem OkS_cont : OkS (sCont (y0 :: ρ) st) N Rt B C E ↔ C (y0 :: ρ) st := Iff.rfl
@[simp] theorem OkS_cons (m r : SM) : OkS (sCons m r (y0 :: ρ) st) N Rt B C E ↔ OkS (m (y0 :: ρ) st) (fun ρ1 st1 => OkS (r ρ1 st1) N Rt B C E) Rt B C E := by
  unfold sCons RS.seq
  cases m (y0 :: ρ) st <;> rfl
@[simp] theorem OkS_ret (m : M T) : OkS (sRet m (y0 :: ρ) st) N Rt B C E ↔ Ok (m (y0 :: ρ) st) Rt (fun e st => E e (y0 :: ρ) st) := by
  unfold sRet
  rw [OkS_of]
  rfl
@[simp] theorem OkS_retN : OkS (sRetN (y0 :: ρ) st) N Rt B C E ↔ Rt .non st := Iff.rfl
@[simp] theorem OkS_expr (m : M T) : OkS (sExpr m (y0 :: ρ) st) N Rt B C E ↔ Ok (m (y0 :: ρ) st) (fun _ st1 => N (y0 :: ρ) st1) (fun e st => E e (y0 :: ρ) st) := by
  unfold sExpr
  rw [OkS_of]
  rfl
@[simp] theorem OkS_if (c : M Bool) (a b : SM) : OkS (sIf c a b (y0 :: ρ) st) N Rt B C E ↔ Ok (c (y0 :: ρ) st) (fun x st1 => if x = true then OkS (a (y0 :: ρ) st1) N Rt B C E else OkS (b (y0 :: ρ) st1) N Rt B C E) (fun e st => E e (y0 :: ρ) st) := by
  unfold sIf
  rw [OkS_of]
  refine iff_of_eq (congrArg (fun f => Ok (c (y0 :: ρ) st) f _) ?_)
  funext x st1
  cases x <;> simp
@[simp] theorem OkS_asg (m : M T) (g : GM) : OkS (sAsg m g (y0 :: ρ) st) N Rt B C E ↔ Ok (m (y0 :: ρ) st) (fun t st1 => Ok (g t (y0 :: ρ) st1) N noE) (fun e st => E e (y0 :: ρ) st) := by
  unfold sAsg
  rw [OkS_of]
  refine iff_of_eq (congrArg (fun f => Ok (m (y0 :: ρ) st) f _) ?_)
  funext x st1
  cases g x (y0 :: ρ) st1 <;> rfl
@[simp] theorem OkS_par (i j : Nat) (m : M (List T)) : OkS (sPar i j m (y0 :: ρ) st) N Rt B C E ↔ Ok (m (y0 :: ρ) st) (fun ts st1 => two ts fun t u => N (((y0 :: ρ).set i (some t)).set j (some u)) st1) (fun e st => E e (y0 :: ρ) st) := by
  unfold sPar
  rw [OkS_of]
  refine iff_of_eq (congrArg (fun f => Ok (m (y0 :: ρ) st) f _) ?_)
  funext ts st1
  refine propext ?_
  split
  · rename_i t u
    constructor
    · exact fun h => ⟨t, u, rfl, h⟩
    · rintro ⟨a, b, e, h⟩
      cases e; exact h
  · rename_i h
    constructor
    · exact fun h => h.elim
    · rintro ⟨t, u, e, _⟩
      exact absurd e (h t u)
@[simp] theorem OkS_for (m : M Wk) (g : GM) (body : SM) : OkS (sFor m g body (y0 :: ρ) st) N Rt B C E ↔ Ok (m (y0 :: ρ) st) (fun it st1 => OkS (forI g body it (y0 :: ρ) st1) N Rt B C E) (fun e st => E e (y0 :: ρ) st) := by
  unfold sFor
  rw [OkS_of]
@[simp] theorem OkS_forSeq (g : GM) (body : SM) (ts : List T) : OkS (forI g body (.seq ts) (y0 :: ρ) st) N Rt B C E ↔ OkS (forL g body ts (y0 :: ρ) st) N Rt B C E := Iff.rfl
@[simp] theorem Ok_gSet {Q : Sl → Sto → Prop} {E : Exn → Sto → Prop} (i : Nat) (t : T) : Ok (gSet i t (y0 :: ρ) st) Q E ↔ Q ((y0 :: ρ).set i (some t)) st := Iff.rfl
@[simp] theorem Ok_gTup {Q : Sl → Sto → Prop} {E : Exn → Sto → Prop} (n : Nat) (g : GsM) (ts : List T) : Ok (gTupM n g (.tup ts) (y0 :: ρ) st) Q E ↔ ts.length = n ∧ Ok (g ts (y0 :: ρ) st) Q E := by
  show Ok (if _ then _ else _) Q E ↔ _
  simp only [Ok_iteB]
@[simp] theorem Ok_gTupL {Q : Sl → Sto → Prop} {E : Exn → Sto → Prop} (n : Nat) (g : GsM) (ts : List T) : Ok (gTupM n g (.lst ts) (y0 :: ρ) st) Q E ↔ ts.length = n ∧ Ok (g ts (y0 :: ρ) st) Q E := by
  show Ok (if _ then _ else _) Q E ↔ _
  simp only [Ok_iteB]
@[simp] theorem Ok_gsNil {Q : Sl → Sto → Prop} {E : Exn → Sto → Prop} : Ok (gsNil [] (y0 :: ρ) st) Q E ↔ Q (y0 :: ρ) st := Iff.rfl
@[simp] theorem Ok_gsCons {Q : Sl → Sto → Prop} {E : Exn → Sto → Prop} (g : GM) (r : GsM) (t : T) (ts : List T) : Ok (gsCons g r (t :: ts) (y0 :: ρ) st) Q E ↔ Ok (g t (y0 :: ρ) st) (fun ρ1 st1 => Ok (r ts ρ1 st1) Q E) E := by
  show Ok (R.bind _ _) Q E ↔ _
  rw [Ok_bind]
theorem OkS_turn (r : RS) (f : Sl → Sto → RS) : OkS (r.turn f) N Rt B C E ↔ OkS r (fun ρ st => OkS (f ρ st) N Rt B C E) Rt N (fun ρ st => OkS (f ρ st) N Rt B C E) E := by cases r <;> rfl
/-- a for over known items, by an invariant -/
theorem for_inv {g : GM} {body : SM} {ts : List T} (I : Nat → Sl → Sto → Prop) (h0 : I 0 ρ st)
    (step : ∀ i t ρ st, ts[i]? = some t → I i ρ st → Ok (g t ρ st) (fun ρ1 st1 => OkS (body ρ1 st1) (I (i + 1)) Rt N (I (i + 1)) E) noE) (done : ∀ ρ st, I ts.length ρ st → N ρ st) : OkS (forL g body ts ρ st) N Rt B C E := by
  have key : ∀ (l pre : List T) ρ st, ts = pre ++ l → I pre.length ρ st → OkS (forL g body l ρ st) N Rt B C E := fun l => by
    induction l with
    | nil =>
      intro pre ρ st e h
      rw [List.append_nil] at e
      subst e
      exact done ρ st h
    | cons t l ih =>
      intro pre ρ st e h
      have hs := step pre.length t ρ st (by rw [e]; simp) h
      unfold forL
      revert hs
      cases g t ρ st with
      | ok ρ1 st1 =>
        intro hs
        show OkS ((body ρ1 st1).turn (forL g body l)) N Rt B C E
        rw [OkS_turn]
        have nx : ∀ ρ st, I (pre.length + 1) ρ st → OkS (forL g body l ρ st) N Rt B C E := fun ρ st hi => ih (pre ++ [t]) ρ st (by simp [e]) (by simpa using hi)
        exact OkS.imp hs nx (fun _ _ h => h) (fun _ _ h => h) nx (fun _ _ _ h => h)
      | exc _ _ => exact fun hs => hs.elim
      | bad => exact fun hs => hs.elim
  exact key ts [] ρ st rfl h0
/-- by what is still to come -/
theorem for_rec {g : GM} {body : SM} (I : List T → Sl → Sto → Prop) : ∀ {ts : List T} {ρ : Sl} {st : Sto}, I ts ρ st →
    (∀ t ts ρ st, I (t :: ts) ρ st → Ok (g t ρ st) (fun ρ1 st1 => OkS (body ρ1 st1) (I ts) Rt N (I ts) E) noE) → (∀ ρ st, I [] ρ st → N ρ st) → OkS (forL g body ts ρ st) N Rt B C E
  | [], ρ, st, h, _, done => done ρ st h
  | t :: ts, ρ, st, h, step, done => by
    have hs := step t ts ρ st h
    unfold forL
    revert hs
    cases g t ρ st with
    | ok ρ1 st1 =>
      intro hs
      show OkS ((body ρ1 st1).turn (forL g body ts)) N Rt B C E
      rw [OkS_turn]
      have nx : ∀ ρ st, I ts ρ st → OkS (forL g body ts ρ st) N Rt B C E := fun ρ st hi => for_rec I hi step done
      exact OkS.imp hs nx (fun _ _ h => h) (fun _ _ h => h) nx (fun _ _ _ h => h)
    | exc _ _ => exact fun hs => hs.elim
    | bad => exact fun hs => hs.elim
theorem while_inv {c : M Bool} {body : SM} (I : Nat → Sl → Sto → Prop) : ∀ {n m : Nat} {ρ : Sl} {st : Sto}, n < m → I n ρ st →
    (∀ n ρ st, I n ρ st → Ok (c ρ st) (fun b st1 => if b = true then ∃ j, n = j + 1 ∧ OkS (body ρ st1) (I j) Rt N (I j) E else N ρ st1) (fun e st1 => E e ρ st1)) → OkS (whileN c body m ρ st) N Rt B C E
  | n, 0, ρ, st, h, _, _ => absurd h (Nat.not_lt_zero _)
  | n, m + 1, ρ, st, h, hi, step => by
    unfold whileN
    rw [OkS_of]
    refine Ok.imp (step n ρ st hi) (fun b st1 hb => ?_) (fun _ _ h => h)
    cases b with
    | true =>
      obtain ⟨j, rfl, hb⟩ := hb
      show OkS ((body ρ st1).turn (whileN c body m)) N Rt B C E
      rw [OkS_turn]
      have nx : ∀ ρ st, I j ρ st → OkS (whileN c body m ρ st) N Rt B C E := fun ρ st hi => while_inv I (by omega) hi step
      exact OkS.imp hb nx (fun _ _ h => h) (fun _ _ h => h) nx (fun _ _ _ h => h)
    | false =>
      show N ρ st1
      simpa using hb
/-- a def's run -/
theorem Ok_runF {Q : T → Sto → Prop} {E : Exn → Sto → Prop} (n : Nat) (body : SM) (ts : List T) : Ok (runF n body ts st) Q E ↔ OkS (body (ts.map some ++ List.replicate (n - ts.length) none) st) (fun _ st => Q .non st) Q (fun _ _ => False) (fun _ _ => False) (fun e _ st => E e st) := by
  unfold runF
  cases body (ts.map some ++ List.replicate (n - ts.length) none) st <;> rfl
end
/-! ### comprehensions -/
section
variable {E : Exn → Sto → Prop} {ρ : Sl} {y0 : Option T} {st : Sto}
/-- a comprehension that leaves the store as it is: what it makes of each item -/
theorem lc_pure {g : T → Sl → Option Sl} {tt : M Bool} {elt : M T} {ρ : Sl} {st : Sto} (f : T → Option T) : ∀ (ts : List T), (∀ t ∈ ts, ∃ ρ1, g t ρ = some ρ1 ∧ ((∃ y, f t = some y ∧ tt ρ1 st = .ok true st ∧ elt ρ1 st = .ok y st) ∨ (f t = none ∧ tt ρ1 st = .ok false st))) →
    lcL g tt elt ρ ts st = .ok (ts.filterMap f) st
  | [], _ => rfl
  | t :: ts, h => by
    have ih := lc_pure f ts fun u hu => h u (List.mem_cons_of_mem _ hu)
    obtain ⟨ρ1, h1, h2⟩ := h t (List.mem_cons_self ..)
    unfold lcL
    rw [h1]
    rcases h2 with ⟨y, e1, e2, e3⟩ | ⟨e1, e2⟩
    · rw [List.filterMap_cons, e1]
      simp [e2, noExc, e3, ih]
    · rw [List.filterMap_cons, e1]
      simp [e2, noExc, ih]
theorem Ok_lc {Q : T → Sto → Prop} (mi : M Wk) (g : T → Sl → Option Sl) (tt : M Bool) (elt : M T) (vs : List Nat) : Ok (mLc mi g tt elt vs ρ st) Q E ↔ Ok (mi ρ st) (fun it st1 => Ok (lcW g tt elt (wipeT ρ vs) it st1) (fun ys st2 => Q (.lst ys) st2) E) E := by
  unfold mLc
  simp only [Ok_bind, Ok_ok]
end
end Mi

/-! MiRand: the laws' own source of numbers. -/
namespace Mi
open PySem L2
section
variable {Q : T → Sto → Prop} {E : Exn → Sto → Prop} {ρ : Sl} {st : Sto}
theorem lstR_ref {i : Nat} {ts : List T} (h : st[i]? = some (.lst ts)) : lstR st (.ref i) = some ts := by simp [lstR, h]
theorem Ok_ixR {i : Nat} {ts : List T} {k : Int} (h : st[i]? = some (.lst ts)) : Ok (opIx (.ref i) (.int k) st) Q E ↔ ∃ t, atI ts k = some t ∧ Q t st := Ok_ixL k (lstR_ref h)
@[simp] theorem Ok_ixRef {i : Nat} {k : Int} : Ok (opIx (.ref i) (.int k) st) Q E ↔ ∃ ts, st[i]? = some (.lst ts) ∧ ∃ t, atI ts k = some t ∧ Q t st := by
  cases h : st[i]? with
  | none => simp [opIx, lstR, h]
  | some o =>
    cases o with
    | ins c fs => simp [opIx, lstR, h]
    | dct kvs => simp [opIx, lstR, h]
    | dtt kvs => simp [opIx, lstR, h]
    | lst ts =>
      rw [Ok_ixR h]
      simp
@[simp] theorem Ok_gItem {Q : Sl → Sto → Prop} (mo mi : M T) (t : T) : Ok (gItem mo mi t ρ st) Q E ↔ Ok (mo ρ st) (fun o st1 => Ok (mi ρ st1) (fun ix st2 => ∃ r k ts j, o = .ref r ∧ ix = .int k ∧ st2[r]? = some (.lst ts) ∧ ixN ts.length k = some j ∧ Q ρ (st2.set r (.lst (ts.set j t)))) E) E := by
  unfold gItem
  simp only [Ok_bind]
  refine iff_of_eq (congrArg (fun f => Ok (mo ρ st) f E) ?_)
  funext o st1
  refine congrArg (fun f => Ok (mi ρ st1) f E) ?_
  funext ix st2
  refine propext ?_
  cases o <;> try (simp; done)
  cases ix <;> try (simp; done)
  rename_i r k
  show Ok (match st2[r]? with | some (.lst ts) => (match ixN ts.length k with | some j => .ok ρ (st2.set r (.lst (ts.set j t))) | none => .bad) | _ => .bad) Q E ↔ _
  cases h : st2[r]? with
  | none => simp [h]
  | some o =>
    cases o with
    | ins c fs => simp [h]
    | dct kvs => simp [h]
    | dtt kvs => simp [h]
    | lst ts =>
      cases h2 : ixN ts.length k with
      | none =>
        simp only [h2, Ok_bad, false_iff]
        rintro ⟨r', k', ts', j', e1, e2, e3, e4, _⟩
        cases e1; cases e2
        rw [h] at e3; cases e3
        rw [h2] at e4; cases e4
      | some j =>
        simp only [h2, Ok_ok]
        constructor
        · exact fun q => ⟨r, k, ts, j, rfl, rfl, h, h2, q⟩
        · rintro ⟨r', k', ts', j', e1, e2, e3, e4, q⟩
          cases e1; cases e2
          rw [h] at e3; cases e3
          rw [h2] at e4; cases e4
          exact q
theorem atI_0 {a : T} {l : List T} : atI (a :: l) 0 = some a := by simp [atI, ixN]
theorem atI_1 {a b : T} {l : List T} : atI (a :: b :: l) 1 = some b := by
  have : (1 : Int) < ((l.length : Int) + 1 + 1) := by omega
  simp [atI, ixN, this]
theorem atI_2 {a b c : T} {l : List T} : atI (a :: b :: c :: l) 2 = some c := by
  have : (2 : Int) < ((l.length : Int) + 1 + 1 + 1) := by omega
  simp [atI, ixN, this]
theorem ixN_nat {n j : Nat} (h : j < n) : ixN n (j : Int) = some j := by
  unfold ixN
  rw [if_pos (by omega), if_pos (by omega)]
  simp
end
/-- a source of numbers stands at place i of the store; at most m numbers were asked for anew -/
def Src (st : Sto) (i : Nat) (m : Nat) : Prop := ∃ a b c : Int, st[i]? = some (.lst [.int a, .int b, .int c]) ∧ 0 ≤ b ∧ b < 2147483648 ∧ 0 ≤ c ∧ c ≤ (m : Int)
/-- all but place i stays, the store may grow -/
def Frm (i : Nat) (st st' : Sto) : Prop := st.length ≤ st'.length ∧ ∀ j o, j ≠ i → st[j]? = some o → st'[j]? = some o
theorem Frm.refl {i : Nat} {st : Sto} : Frm i st st := ⟨Nat.le_refl _, fun _ _ _ h => h⟩
theorem Frm.trans {i : Nat} {a b c : Sto} (h : Frm i a b) (h2 : Frm i b c) : Frm i a c := ⟨Nat.le_trans h.1 h2.1, fun j o n q => h2.2 j o n (h.2 j o n q)⟩
theorem Frm.set {i : Nat} {st : Sto} (o : O) : Frm i st (st.set i o) := ⟨by simp, fun j u n h => by rw [List.getElem?_set_ne (Ne.symm n)]; exact h⟩
theorem Frm.app {i : Nat} {st : Sto} (l : Sto) : Frm i st (st ++ l) := ⟨by simp, fun j u n h => by rw [List.getElem?_append_left (List.getElem?_eq_some_iff.mp h).1]; exact h⟩
theorem Src.mono {st : Sto} {i m n : Nat} (h : Src st i m) (q : m ≤ n) : Src st i n := by
  obtain ⟨a, b, c, h1, h2, h3, h4, h5⟩ := h
  exact ⟨a, b, c, h1, h2, h3, h4, by omega⟩
theorem Src.app {st : Sto} {i m : Nat} (h : Src st i m) (l : Sto) : Src (st ++ l) i m := by
  obtain ⟨a, b, c, h1, h2⟩ := h
  exact ⟨a, b, c, by rw [List.getElem?_append_left (List.getElem?_eq_some_iff.mp h1).1]; exact h1, h2⟩
theorem Src.set {st : Sto} {i j m : Nat} {o : O} (h : Src st i m) (n : j ≠ i) : Src (st.set j o) i m := by
  obtain ⟨a, b, c, h1, h2⟩ := h
  exact ⟨a, b, c, by rw [List.getElem?_set_ne n]; exact h1, h2⟩
def randB : SM := (sCons (sIf (mTest (mBin opGt (mBin opIx (mVar 0) (mC (.int 0))) (mC (.int 0)))) (sCons (sAsg (mBin opMod (mApp fInt (mCons (mBin opIx (mVar 0) (mC (.int 0))) mNil)) (mVar 1)) (gSet 2))
    (sCons (sAsg (mBin opFdiv (mBin opIx (mVar 0) (mC (.int 0))) (mVar 1)) (gItem (mVar 0) (mC (.int 0))))
    (sCons (sRet (mVar 2))
    sNil))) sNil)
  (sCons (sAsg (mBin opAdd (mBin opIx (mVar 0) (mC (.int 2))) (mC (.int 1))) (gItem (mVar 0) (mC (.int 2))))
  (sCons (sAsg (mBin opMod (mApp fInt (mCons (mBin opAdd (mBin opAdd (mBin opMul (mBin opIx (mVar 0) (mC (.int 1))) (mC (.int 48271))) (mBin opMul (mC (.int 1009)) (mBin opIx (mVar 0) (mC (.int 2))))) (mC (.int 7))) mNil)) (mC (.int 2147483647))) (gItem (mVar 0) (mC (.int 1))))
  (sCons (sAsg (mBin opMod (mApp fInt (mCons (mBin opAdd (mBin opAdd (mBin opMul (mBin opIx (mVar 0) (mC (.int 1))) (mBin opIx (mVar 0) (mC (.int 1)))) (mBin opMul (mC (.int 69621)) (mBin opIx (mVar 0) (mC (.int 1))))) (mC (.int 11))) mNil)) (mC (.int 2147483629))) (gSet 3))
  (sCons (sAsg (mBin opMod (mApp fInt (mCons (mBin opAdd (mBin opMul (mVar 3) (mVar 3)) (mBin opMul (mC (.int 40014)) (mVar 3))) mNil)) (mC (.int 2147483587))) (gSet 3))
  (sCons (sRet (mBin opMod (mApp fInt (mCons (mBin opFdiv (mVar 3) (mC (.int 16))) mNil)) (mVar 1)))
  sNil))))))
@[simp] theorem Ok_fIntI {Q : T → Sto → Prop} {E : Exn → Sto → Prop} {st : Sto} (i : Int) : Ok (fInt [.int i] st) Q E ↔ Q (.int i) st := Iff.rfl
theorem log_lt {i : Int} {n : Nat} (h0 : 0 ≤ i) (h : i < ((2 ^ n : Nat) : Int)) (hn : 0 < n) : i.natAbs.log2 < n := by
  by_cases hz : i.natAbs = 0
  · rw [hz]; simpa using hn
  · rw [Nat.log2_lt hz]
    omega
theorem rand_ok {st : Sto} {i m : Nat} {n : Int} (h : Src st i m) (hn : 0 < n) (hn2 : n ≤ 1000000) (hm : m < 2 ^ 62) :
    Ok (runF 4 randB [.ref i, .int n] st) (fun t st' => (∃ r, t = .int r ∧ 0 ≤ r ∧ r < n) ∧ Src st' i (m + 1) ∧ Frm i st st') noE := by
  obtain ⟨a, b, c, h1, h2, h3, h4, h5⟩ := h
  have hl : i < st.length := (List.getElem?_eq_some_iff.mp h1).1
  have lg : n.natAbs.log2 < 9000 := Nat.lt_trans (log_lt (n := 20) (by omega) (by omega) (by omega)) (by decide)
  have e2 : ((2 : Nat) ^ 62 : Nat) = 4611686018427387904 := by decide
  have g2 : ∀ x : O, (st.set i x)[i]? = some x := fun x => by simp [hl]
  have l3 : (48271 : Nat).log2 = 15 := by decide +kernel
  have l4 : (1009 : Nat).log2 = 9 := by decide +kernel
  have l5 : (69621 : Nat).log2 = 16 := by decide +kernel
  have l6 : (40014 : Nat).log2 = 15 := by decide +kernel
  have l7 : (16 : Nat).log2 = 4 := by decide +kernel
  have l1 : b.natAbs.log2 < 31 := log_lt h2 (by omega) (by omega)
  have l2 : (c + 1).natAbs.log2 < 63 := log_lt (by omega) (by omega) (by omega)
  rw [Ok_runF]
  unfold randB
  simp [h1, atI_0, atI_1, atI_2, hn, lg, g2, ixN, l3, l4, l5, l6, l7]
  by_cases ha : 0 < a
  · exact .inr ⟨ha, ⟨Int.emod_nonneg _ (by omega), Int.emod_lt_of_pos _ hn⟩, ⟨a / n, b, c, by simp [hl], h2, h3, h4, by omega⟩, Frm.set _⟩
  · refine .inl ⟨by omega, by omega, by omega, ?_⟩
    generalize hb : (b * 48271 + 1009 * (c + 1) + 7) % 2147483647 = b'
    have hb1 : 0 ≤ b' := by rw [← hb]; exact Int.emod_nonneg _ (by omega)
    have hb2 : b' < 2147483647 := by rw [← hb]; exact Int.emod_lt_of_pos _ (by omega)
    have lb : b'.natAbs.log2 < 31 := log_lt hb1 (by omega) (by omega)
    refine ⟨by omega, by omega, ?_⟩
    generalize hs : (b' * b' + 69621 * b' + 11) % 2147483629 = s
    have hs1 : 0 ≤ s := by rw [← hs]; exact Int.emod_nonneg _ (by omega)
    have hs2 : s < 2147483629 := by rw [← hs]; exact Int.emod_lt_of_pos _ (by omega)
    have ls : s.natAbs.log2 < 31 := log_lt hs1 (by omega) (by omega)
    refine ⟨by omega, by omega, ⟨Int.emod_nonneg _ (by omega), Int.emod_lt_of_pos _ hn⟩, ⟨a, b', c + 1, by simp [hl], hb1, by omega, by omega, by omega⟩, Frm.set _⟩
end Mi

/-! MiTree: plain trees: how deep, how long their text; what may be compared and shown. -/
namespace Mi
open PySem L2
mutual
/-- a plain tree: no object of the store -/
def T.tr : T → Bool
  | .non => true
  | .bl _ => true
  | .int i => decide (i.natAbs.log2 < 1920)
  | .str s => PyData.strOk s
  | .tup ts => T.trs ts
  | .lst ts => T.trs ts
  | .dct ks ts => ks.isEmpty && ts.isEmpty
  | _ => false
def T.trs : List T → Bool
  | [] => true
  | t :: ts => t.tr && T.trs ts
end
mutual
/-- no dict in it -/
def T.nd : T → Bool
  | .tup ts => T.nds ts
  | .lst ts => T.nds ts
  | .dct _ _ => false
  | _ => true
def T.nds : List T → Bool
  | [] => true
  | t :: ts => t.nd && T.nds ts
end
mutual
def T.dep : T → Nat
  | .tup ts => T.deps ts + 1
  | .lst ts => T.deps ts + 1
  | .dct _ _ => 1
  | _ => 0
def T.deps : List T → Nat
  | [] => 0
  | t :: ts => max t.dep (T.deps ts)
end
mutual
/-- at least so long as the text -/
def T.wt : T → Nat
  | .non => 4
  | .bl _ => 5
  | .int i => i.natAbs.log2 + 2
  | .str s => 10 * s.length + 2
  | .tup ts => T.wts ts + 3
  | .lst ts => T.wts ts + 3
  | .dct _ _ => 2
  | _ => 0
def T.wts : List T → Nat
  | [] => 0
  | t :: ts => t.wt + 2 + T.wts ts
end
theorem T.deps_le {n : Nat} : ∀ {ts : List T}, T.deps ts ≤ n ↔ ∀ t ∈ ts, t.dep ≤ n
  | [] => by simp [T.deps]
  | t :: ts => by simp [T.deps, Nat.max_le, T.deps_le (ts := ts)]
theorem T.trs_all : ∀ {ts : List T}, T.trs ts = true ↔ ∀ t ∈ ts, t.tr = true
  | [] => by simp [T.trs]
  | t :: ts => by simp [T.trs, T.trs_all (ts := ts)]
theorem T.nds_all : ∀ {ts : List T}, T.nds ts = true ↔ ∀ t ∈ ts, t.nd = true
  | [] => by simp [T.nds]
  | t :: ts => by simp [T.nds, T.nds_all (ts := ts)]
theorem T.wts_app : ∀ (a b : List T), T.wts (a ++ b) = T.wts a + T.wts b
  | [], b => by simp [T.wts]
  | t :: a, b => by simp [T.wts, T.wts_app a b]; omega
theorem T.wts_rev : ∀ (a : List T), T.wts a.reverse = T.wts a
  | [] => rfl
  | t :: a => by rw [List.reverse_cons, T.wts_app, T.wts_rev a]; simp [T.wts]; omega
theorem T.wt_mem : ∀ {ts : List T} {t : T}, t ∈ ts → t.wt + 2 ≤ T.wts ts
  | [], _, h => by simp at h
  | u :: ts, t, h => by
    rcases List.mem_cons.mp h with rfl | h
    · simp [T.wts]
    · have := T.wt_mem h
      simp only [T.wts]; omega
theorem T.wts_len : ∀ {ts : List T}, 2 * ts.length ≤ T.wts ts
  | [] => by simp [T.wts]
  | u :: ts => by
    have := T.wts_len (ts := ts)
    simp only [T.wts, List.length_cons]; omega
theorem T.wts_take (ts : List T) (n : Nat) : T.wts (ts.take n) ≤ T.wts ts := by
  have := T.wts_app (ts.take n) (ts.drop n)
  rw [List.take_append_drop] at this; omega
theorem T.wts_drop (ts : List T) (n : Nat) : T.wts (ts.drop n) ≤ T.wts ts := by
  have := T.wts_app (ts.take n) (ts.drop n)
  rw [List.take_append_drop] at this; omega
theorem tupleText_le (as : List PySem.Str) : (tupleText as).length ≤ piled as + 3 := by
  unfold tupleText
  rw [strLen_append, strLen_append]
  have e1 : (("(" : String) : PySem.Str).length = 1 := rfl
  have e3 : (((if as.length == 1 then ",)" else ")" : String) : PySem.Str)).length ≤ 2 := by split <;> decide
  rw [e1]
  cases as with
  | nil => show 1 + 0 + _ ≤ _; omega
  | cons a l =>
    have := join_length_add (a :: l) (by simp)
    omega
theorem textFrom_le : ∀ (ts : List PySem.Str) (k : Nat) (acc : PySem.Str), (textFrom k acc ts).length ≤ acc.length + piled ts
  | [], k, acc => Nat.le_refl _
  | t :: r, k, acc => by
    have ih := textFrom_le r (k + 1) (acc ++ (if k > 0 then ", " else "" : String) ++ t)
    have e : (acc ++ (if k > 0 then ", " else "" : String) ++ t).length ≤ acc.length + 2 + t.length := by
      rw [strLen_append, strLen_append]
      have : (((if k > 0 then ", " else "" : String)) : PySem.Str).length ≤ 2 := by split <;> decide
      omega
    rw [piled_cons]
    show (textFrom (k + 1) (acc ++ (if k > 0 then ", " else "" : String) ++ t) r).length ≤ _
    omega
theorem listText_le (as : List PySem.Str) : (listText as).length ≤ piled as + 3 := by
  unfold listText
  rw [strLen_append]
  have := textFrom_le as 0 ("[" : String)
  have e1 : (("[" : String) : PySem.Str).length = 1 := rfl
  have e2 : (("]" : String) : PySem.Str).length = 1 := rfl
  rw [e1] at this
  rw [e2]; omega
mutual
theorem T.tr_pd : ∀ {t : T}, t.tr = true → ∃ d, t.pd = some d ∧ d.showable = true ∧ d.shown.length ≤ t.wt ∧ d.depth = t.dep ∧ d.canLay0 = t.nd
  | .non, _ => ⟨.none, rfl, rfl, by decide, by simp [PyData.depth, T.dep], by simp [PyData.canLay0, T.nd]⟩
  | .bl b, _ => ⟨.bool b, rfl, rfl, by cases b <;> decide, by simp [PyData.depth, T.dep], by simp [PyData.canLay0, T.nd]⟩
  | .int i, h => by
    simp only [T.tr] at h
    refine ⟨.int i, rfl, h, ?_, by simp [PyData.depth, T.dep], by simp [PyData.canLay0, T.nd]⟩
    have := int_text_length_le (a := i) (k := i.natAbs.log2 + 1) (by omega) (by omega)
    show (PySem.Str.ofString (toString i)).length ≤ _
    simp only [T.wt]
    rw [ofString_length]
    omega
  | .str s, h => by
    simp only [T.tr] at h
    refine ⟨.str s, rfl, rfl, ?_, by simp [PyData.depth, T.dep], by simp [PyData.canLay0, T.nd, h]⟩
    simp only [T.wt]
    refine StrLaws.reprText_len s fun c hc => ?_
    unfold PyData.strOk at h
    rw [← Array.all_toList, List.all_eq_true] at h
    have := of_decide_eq_true (h c hc)
    omega
  | .tup ts, h => by
    simp only [T.tr] at h
    obtain ⟨ds, h1, h2, h3, h4, h5⟩ := T.trs_pd h
    refine ⟨.tuple ds, by simp [T.pd, h1], h2, ?_, by simp [PyData.depth, T.dep, h4], by simp [PyData.canLay0, T.nd, h5]⟩
    show (tupleText (PyData.shownAll ds)).length ≤ _
    have := tupleText_le (PyData.shownAll ds)
    simp only [T.wt]; omega
  | .lst ts, h => by
    simp only [T.tr] at h
    obtain ⟨ds, h1, h2, h3, h4, h5⟩ := T.trs_pd h
    refine ⟨.list ds, by simp [T.pd, h1], h2, ?_, by simp [PyData.depth, T.dep, h4], by simp [PyData.canLay0, T.nd, h5]⟩
    show (listText (PyData.shownAll ds)).length ≤ _
    have := listText_le (PyData.shownAll ds)
    simp only [T.wt]; omega
  | .dct ks ts, h => by
    simp only [T.tr, Bool.and_eq_true, List.isEmpty_iff] at h
    obtain ⟨rfl, rfl⟩ := h
    exact ⟨.dict [], rfl, rfl, by decide, by simp [PyData.depth, PyData.depthKv, T.dep], by simp [PyData.canLay0, T.nd]⟩
  | .byt _, h | .ty _, h | .frz _, h | .ref _, h | .adr _, h => by simp [T.tr] at h
theorem T.trs_pd : ∀ {ts : List T}, T.trs ts = true → ∃ ds, T.pds ts = some ds ∧ PyData.showableAll ds = true ∧ piled (PyData.shownAll ds) ≤ T.wts ts ∧ PyData.depthAll ds = T.deps ts ∧ PyData.canLayAll0 ds = T.nds ts
  | [], _ => ⟨[], rfl, rfl, by decide, by simp [PyData.depthAll, T.deps], by simp [PyData.canLayAll0, T.nds]⟩
  | t :: ts, h => by
    simp only [T.trs, Bool.and_eq_true] at h
    obtain ⟨d, h1, h2, h3, h4, h5⟩ := T.tr_pd h.1
    obtain ⟨ds, g1, g2, g3, g4, g5⟩ := T.trs_pd h.2
    refine ⟨d :: ds, by simp [T.pds, h1, g1], by simp [PyData.showableAll, h2, g2], ?_, by simp [PyData.depthAll, T.deps, h4, g4], by simp [PyData.canLayAll0, T.nds, h5, g5]⟩
    show piled (d.shown :: PyData.shownAll ds) ≤ _
    rw [piled_cons]
    simp only [T.wts]; omega
end
theorem T.tr_shaped {t : T} (h : t.tr = true) (hn : t.nd = true) (hd : t.dep ≤ 64) : shaped t = true := by
  obtain ⟨d, h1, h2, h3, h4, h5⟩ := T.tr_pd h
  unfold shaped
  rw [h1]
  simp [SeqAt.shaped, h5, hn, h4, hd]
/-- its text -/
def T.text (t : T) : PySem.Str := match t.pd with
  | some d => d.shown
  | none => PySem.Str.empty
theorem T.tr_now {st : Sto} {t : T} (h : t.tr = true) : now st t = t := by
  cases t <;> simp [T.tr] at h <;> rfl
theorem Ok_repr {Q : T → Sto → Prop} {E : Exn → Sto → Prop} {st : Sto} {t : T} (h : t.tr = true) (hd : t.dep ≤ 64) (hw : t.wt ≤ 1000000) : Ok (fRepr [t] st) Q E ↔ Q (.str t.text) st := by
  obtain ⟨d, h1, h2, h3, h4, h5⟩ := T.tr_pd h
  have e : reprOf st t = some t.text := by
    unfold reprOf T.text
    rw [T.tr_now h, h1]
    have : d.shown.length ≤ sizeLine := Nat.le_trans (Nat.le_trans h3 hw) (by decide)
    simp [h2, h4, hd, this]
  show Ok (match reprOf st t with | some z => R.ok (T.str z) st | none => .bad) Q E ↔ _
  rw [e]
  rfl
mutual
theorem T.eqv_refl : ∀ {t : T}, t.tr = true → t.nd = true → T.eqv t t = true
  | .non, _, _ => by simp [T.eqv]
  | .bl b, _, _ => by simp [T.eqv]
  | .int i, _, _ => by simp [T.eqv]
  | .str s, _, _ => by simp [T.eqv]
  | .tup ts, h, n => by simp only [T.eqv]; exact T.eqvs_refl (by simpa only [T.tr] using h) (by simpa only [T.nd] using n)
  | .lst ts, h, n => by simp only [T.eqv]; exact T.eqvs_refl (by simpa only [T.tr] using h) (by simpa only [T.nd] using n)
  | .dct _ _, _, n => by simp [T.nd] at n
  | .byt _, h, _ | .ty _, h, _ | .frz _, h, _ | .ref _, h, _ | .adr _, h, _ => by simp [T.tr] at h
theorem T.eqvs_refl : ∀ {t : List T}, T.trs t = true → T.nds t = true → T.eqvs t t = true
  | [], _, _ => by simp [T.eqvs]
  | t :: ts, h, n => by
    simp only [T.trs, T.nds, Bool.and_eq_true] at h n
    simp [T.eqvs, T.eqv_refl h.1 n.1, T.eqvs_refl h.2 n.2]
end
end Mi

/-! MiZip: zip(a, b) and zip(a, b, strict=True), each a list or a tuple. -/
namespace Mi
open PySem L2 PySem.Spec PyProof.Rows
/-- an iterator over a list or a tuple, k items are taken -/
def ItA (h : Heap) (it l : Addr) (k : Nat) (xs : Array Value) : Prop := (h.IsListIter it l k ∧ h.IsList l xs) ∨ (h.IsTupleIter it l k ∧ h.IsTuple l xs)
theorem ItA.ext {h h' : Heap} {it l : Addr} {k : Nat} {xs : Array Value} (a : ItA h it l k xs) (h1 : ∀ o, h.get? it = some o → h'.get? it = some o) (h2 : ∀ o, h.get? l = some o → h'.get? l = some o) : ItA h' it l k xs := by
  rcases a with ⟨a, b⟩ | ⟨a, b⟩
  · exact .inl ⟨a.at h1, b.at h2⟩
  · exact .inr ⟨a.at h1, let ⟨o, e, r⟩ := b; ⟨o, h2 o e, r⟩⟩
section
variable {prog : Program} {w : World} {A : PySem.Around} {E : Value → Shared → Prop} {s : Shared}
theorem nextOf_A {it l : Addr} {k : Nat} {xs : Array Value} {x : Value} {Q : Value → Shared → Prop} (hit : ItA s.heap it l k xs) (hne : l ≠ it) (hx : xs[k]? = some x)
    (hQ : ∀ h', ItA h' it l (k + 1) xs → Heap.SameBut it s.heap h' → Q x { s with heap := h' }) : wpAny (model prog w) A (Builtin.SmallTypes.nextOf (.ref it)) Q E s := by
  rcases hit with ⟨a, b⟩ | ⟨a, b⟩
  · exact wpAny_nextOf_list_item a b hx fun h' h1 hs => hQ h' (.inl ⟨h1, b.extBut hs.extBut hne⟩) hs
  · exact RZ.nextOf_tuple_item a b hx fun h' h1 hs => hQ h' (.inr ⟨h1, let ⟨o, e, r⟩ := b; ⟨o, hs.extBut _ _ hne e, r⟩⟩) hs
theorem nextOf_A_end {it l : Addr} {k : Nat} {xs : Array Value} {Q : Value → Shared → Prop} (hh : A.handled = none) (hit : ItA s.heap it l k xs) (hx : xs[k]? = none)
    (hE : ∀ h' e, Heap.ExtBut it s.heap h' → (∃ o, h'.get? e = some o ∧ o.cls = .type "StopIteration") → E (.ref e) { s with heap := h' }) : wpAny (model prog w) A (Builtin.SmallTypes.nextOf (.ref it)) Q E s := by
  rcases hit with ⟨a, b⟩ | ⟨a, b⟩
  · exact wpAny_nextOf_list_end hh a b hx hE
  · exact RZ.nextOf_tuple_end hh a b hx hE
theorem nextOrEnd_A {it l : Addr} {k : Nat} {xs : Array Value} {x : Value} {Q : Option Value → Shared → Prop} (hit : ItA s.heap it l k xs) (hne : l ≠ it) (hx : xs[k]? = some x)
    (hQ : ∀ h', ItA h' it l (k + 1) xs → Heap.SameBut it s.heap h' → Q (some x) { s with heap := h' }) : wpAny (model prog w) A (Builtin.SmallTypes.nextOrEnd (.ref it)) Q E s := by
  unfold Builtin.SmallTypes.nextOrEnd
  exact wpAny_bind (wpAny_attempt (nextOf_A hit hne hx fun h' a b => wpAny_pure (hQ h' a b)))
theorem nextOrEnd_A_end {it l : Addr} {k : Nat} {xs : Array Value} {Q : Option Value → Shared → Prop} (hh : A.handled = none) (hit : ItA s.heap it l k xs) (hx : xs[k]? = none)
    (hQ : ∀ h', Heap.ExtBut it s.heap h' → Q none { s with heap := h' }) : wpAny (model prog w) A (Builtin.SmallTypes.nextOrEnd (.ref it)) Q E s := by
  unfold Builtin.SmallTypes.nextOrEnd
  refine wpAny_bind (wpAny_attempt (nextOf_A_end hh hit hx fun h' e hk he => ?_))
  obtain ⟨o, ho, hc⟩ := he
  refine wpAny_bind (wpAny_isInstance (T := "StopIteration") (b := true) ⟨o, ho, hc⟩ isSubtype_stop ?_)
  exact wpAny_pure (hQ _ hk)
/-- the zip object: strict or not -/
abbrev IsZipB (h : Heap) (z TI TO : Addr) (b : Bool) (f0 : Value) : Prop :=
  h.get? z = some { cls := .type "zip", dict := none, data := .fields #[f0, .bool false, .bool b, .ref TI, .ref TO], slots := #[] }
theorem zipB_next {b : Bool} {z TI TO i1 i2 l1 l2 : Addr} {k1 k2 : Nat} {xs ys : Array Value} {x y a c : Value} {Q : Value → Shared → Prop} (D : ZipApart z TI TO i1 i2 l1 l2)
    (hz : IsZipB s.heap z TI TO b .none) (hTI : IsPair s.heap TI (.ref i1) (.ref i2)) (hTO : IsPair s.heap TO a c)
    (h1 : ItA s.heap i1 l1 k1 xs) (h2 : ItA s.heap i2 l2 k2 ys) (hx : xs[k1]? = some x) (hy : ys[k2]? = some y)
    (hQ : ∀ h', IsZipB h' z TI TO b (rawInt s.heap.objs.size) → IsPair h' TO x y → ItA h' i1 l1 (k1 + 1) xs → ItA h' i2 l2 (k2 + 1) ys → IsPair h' s.heap.objs.size x y → h'.objs.size = s.heap.objs.size + 1 →
      (∀ c o, c ≠ z → c ≠ TO → c ≠ i1 → c ≠ i2 → s.heap.get? c = some o → h'.get? c = some o) → Q (.ref s.heap.objs.size) { s with heap := h' }) :
    wpAny (model prog w) A (Builtin.«zip.__next__» ⟨[.ref z], []⟩) (fun fin s' => ∃ v, fin = .done (.ret v) ∧ Q v s') E s := by
  have draw : ∀ {it l : Addr} {k : Nat} {xs : Array Value} {x : Value} {Q : Option Value → Shared → Prop} {E : Value → Shared → Prop} {s : Shared}, ItA s.heap it l k xs → l ≠ it → xs[k]? = some x →
      (∀ h', ItA h' it l (k + 1) xs → Heap.SameBut it s.heap h' → Q (some x) { s with heap := h' }) → wpAny (model prog w) A (if (Value.bool b == Value.bool true) = true then Builtin.SmallTypes.nextOrEnd (.ref it) else (do return some (← Builtin.SmallTypes.nextOf (.ref it)))) Q E s := fun {it l k xs x Q E s} hit hne hx hR => by
    clear hQ
    cases b with
    | true => exact nextOrEnd_A hit hne hx hR
    | false => exact wpAny_bind (nextOf_A hit hne hx fun h' a b => wpAny_pure (hR h' a b))
  show wpAny _ _ (field (.ref z) 2 >>= _) _ _ _
  refine wpAny_bind (wpAny_field hz rfl (x := .bool b) rfl ?_)
  show wpAny _ _ (field (.ref z) 3 >>= _) _ _ _
  refine wpAny_bind (wpAny_field hz rfl (x := .ref TI) rfl ?_)
  refine wpAny_bind (wpAny_seqItems hTI rfl ?_)
  show wpAny _ _ (Builtin.SmallTypes.ownedTupleIsFree (.ref z) >>= _) _ _ _
  refine wpAny_bind ?_
  unfold Builtin.SmallTypes.ownedTupleIsFree
  refine wpAny_bind (wpAny_field hz rfl (x := .none) rfl (wpAny_pure ?_))
  simp only [if_true]
  refine wpAny_bind (wpAny_rule ?_)
  refine wpAny_bind (wpAny_field hz rfl (x := .ref TO) rfl ?_)
  refine wpAny_bind (wpAny_setField_rec hz (by simp) fun h₁ hz₁ hs₁ => ?_)
  replace hz₁ : IsZipB h₁ z TI TO b .ellipsis := hz₁
  refine wpAny_bind ?_
  simp only [List.zipIdx_cons, List.zipIdx_nil, List.forIn_cons, List.forIn_nil]
  refine wpAny_bind (wpAny_bind (wpAny_onRaise ?_))
  refine draw (h1.ext (fun o e => hs₁.extBut _ _ D.i1z e) (fun o e => hs₁.extBut _ _ D.l1z e)) D.l1i1 hx fun h₂ h1₂ hs₂ => ?_
  have hTO₂ : IsPair h₂ TO a c := hs₂.extBut _ _ D.TOi1 (hs₁.extBut _ _ D.TOz hTO)
  refine wpAny_bind (wpAny_seqItems hTO₂ rfl ?_)
  refine wpAny_bind (wpAny_updateSeq_pair hTO₂ fun h₃ hTO₃ hs₃ => ?_)
  replace hTO₃ : IsPair h₃ TO x c := hTO₃
  refine wpAny_bind (wpAny_letGo (wpAny_pure ?_))
  refine wpAny_bind (wpAny_bind (wpAny_onRaise ?_))
  refine draw (h2.ext (fun o e => hs₃.extBut _ _ D.TOi2.symm (hs₂.extBut _ _ D.i12.symm (hs₁.extBut _ _ D.i2z e))) (fun o e => hs₃.extBut _ _ D.l2TO (hs₂.extBut _ _ D.l2i1 (hs₁.extBut _ _ D.l2z e)))) D.l2i2 hy fun h₄ h2₄ hs₄ => ?_
  have hTO₄ : IsPair h₄ TO x c := hs₄.extBut _ _ D.TOi2 hTO₃
  refine wpAny_bind (wpAny_seqItems hTO₄ rfl ?_)
  refine wpAny_bind (wpAny_updateSeq_pair hTO₄ fun h₅ hTO₅ hs₅ => ?_)
  replace hTO₅ : IsPair h₅ TO x y := hTO₅
  refine wpAny_bind (wpAny_letGo (wpAny_pure (wpAny_pure ?_)))
  refine wpAny_bind (wpAny_seqItems hTO₅ rfl ?_)
  refine wpAny_bind (wpAny_newTuple ?_)
  have hsz : h₅.objs.size = s.heap.objs.size := by rw [hs₅.1, hs₄.1, hs₃.1, hs₂.1, hs₁.1]
  have hz₅ : IsZipB h₅ z TI TO b .ellipsis := hs₅.extBut _ _ D.TOz.symm (hs₄.extBut _ _ D.i2z.symm (hs₃.extBut _ _ D.TOz.symm (hs₂.extBut _ _ D.i1z.symm hz₁)))
  have hk₅ : ∀ c o, c ≠ z → c ≠ TO → c ≠ i1 → c ≠ i2 → s.heap.get? c = some o → h₅.get? c = some o := fun c o c1 c2 c3 c4 e =>
    hs₅.extBut _ _ c2 (hs₄.extBut _ _ c4 (hs₃.extBut _ _ c2 (hs₂.extBut _ _ c3 (hs₁.extBut _ _ c1 e))))
  have h1₅ : ItA h₅ i1 l1 (k1 + 1) xs := h1₂.ext (fun o e => hs₅.extBut _ _ D.TOi1.symm (hs₄.extBut _ _ D.i12 (hs₃.extBut _ _ D.TOi1.symm e))) (fun o e => hs₅.extBut _ _ D.l1TO (hs₄.extBut _ _ D.l1i2 (hs₃.extBut _ _ D.l1TO e)))
  have h2₅ : ItA h₅ i2 l2 (k2 + 1) ys := h2₄.ext (fun o e => hs₅.extBut _ _ D.TOi2.symm e) (fun o e => hs₅.extBut _ _ D.l2TO e)
  have hzlt : z < h₅.objs.size := Heap.lt_size hz₅
  show wpAny _ _ (Builtin.SmallTypes.ownedTupleHandOut (.ref z) (.ref h₅.objs.size) >>= _) _ _ _
  refine wpAny_bind ?_
  unfold Builtin.SmallTypes.ownedTupleHandOut
  have hz₆ : IsZipB (h₅.push { cls := .type "tuple", data := .seq #[x, y] }) z TI TO b .ellipsis := Heap.get?_push_of_some _ hz₅
  refine wpAny_bind (wpAny_setField_rec hz₆ (by simp) fun h₇ hz₇ hs₇ => ?_)
  replace hz₇ : IsZipB h₇ z TI TO b (rawInt h₅.objs.size) := hz₇
  refine wpAny_setField_rec hz₇ (by simp) fun h₈ hz₈ hs₈ => ?_
  replace hz₈ : IsZipB h₈ z TI TO b (rawInt h₅.objs.size) := hz₈
  have up : ∀ c o, c ≠ z → h₅.get? c = some o → h₈.get? c = some o := fun c o c1 e => hs₈.extBut _ _ c1 (hs₇.extBut _ _ c1 (Heap.get?_push_of_some _ e))
  have hT₈ : IsPair h₈ h₅.objs.size x y := hs₈.extBut _ _ (Nat.ne_of_gt hzlt) (hs₇.extBut _ _ (Nat.ne_of_gt hzlt) (Heap.get?_push_size _ rfl))
  have hz8 : h₈.objs.size = h₅.objs.size + 1 := by rw [hs₈.1, hs₇.1, Heap.size_push]
  rw [hsz] at hz₈ hT₈ hz8
  refine wpAny_pure ⟨_, rfl, ?_⟩
  show Q (.ref h₅.objs.size) _
  rw [hsz]
  exact hQ h₈ hz₈ (up _ _ D.TOz hTO₅) (h1₅.ext (fun o e => up _ o D.i1z e) (fun o e => up _ o D.l1z e)) (h2₅.ext (fun o e => up _ o D.i2z e) (fun o e => up _ o D.l2z e)) hT₈ hz8 fun c o c1 c2 c3 c4 e => up c o c1 (hk₅ c o c1 c2 c3 c4 e)
end
end Mi
namespace Mi
open PySem L2 PySem.Spec PyProof.Rows
section
variable {prog : Program} {w : World} {A : PySem.Around} {E : Value → Shared → Prop} {s : Shared}
/-- StopIteration is raised -/
theorem stop_raise {α : Type} {Q : α → Shared → Prop} (hh : A.handled = none) (hE : ∀ h' e, (∀ c o, s.heap.get? c = some o → h'.get? c = some o) → (∃ o, h'.get? e = some o ∧ o.cls = .type "StopIteration") → E (.ref e) { s with heap := h' }) :
    wpAny (model prog w) A (Builtin.SmallTypes.stopIteration : Sem α) Q E s := by
  unfold Builtin.SmallTypes.stopIteration
  refine wpAny_bind ?_
  simp only [newExc, newTuple]
  refine wpAny_bind (wpAny_newObj_type ?_ (by size_fits))
  refine wpAny_bind (m := firstArgMember _ _) (wpAny_of_eq (a := Value.none) (by first | rfl | (simp only [firstArgMember]; rfl)) ?_)
  refine wpAny_newObj_type ?_ (by size_fits)
  simp only [raiseNew]
  refine wpAny_bind (wpAny_handled ?_)
  first | rw [show A.in1.handled = none from hh] | rw [hh]
  refine wpAny_bind (wpAny_pure (wpAny_throw ?_))
  exact hE _ _ (fun c o x => Heap.get?_push_of_some _ (Heap.get?_push_of_some _ x)) ⟨_, Heap.get?_push_size _ rfl, rfl⟩
theorem zipB_end {b : Bool} {z TI TO i1 i2 l1 l2 : Addr} {k1 k2 : Nat} {xs ys : Array Value} {a c : Value} {Q : Fin → Shared → Prop} (hh : A.handled = none) (D : ZipApart z TI TO i1 i2 l1 l2)
    (hz : IsZipB s.heap z TI TO b .none) (hTI : IsPair s.heap TI (.ref i1) (.ref i2)) (hTO : IsPair s.heap TO a c)
    (h1 : ItA s.heap i1 l1 k1 xs) (h2 : ItA s.heap i2 l2 k2 ys) (hst : b = true → xs[k1]? = none ∧ ys[k2]? = none) (hend : xs[k1]? = none ∨ ys[k2]? = none)
    (hE : ∀ h' e, (∀ c o, c ≠ z → c ≠ TO → c ≠ i1 → c ≠ i2 → s.heap.get? c = some o → h'.get? c = some o) → (∃ o, h'.get? e = some o ∧ o.cls = .type "StopIteration") → E (.ref e) { s with heap := h' }) :
    wpAny (model prog w) A (Builtin.«zip.__next__» ⟨[.ref z], []⟩) Q E s := by
  show wpAny _ _ (field (.ref z) 2 >>= _) _ _ _
  refine wpAny_bind (wpAny_field hz rfl (x := .bool b) rfl ?_)
  show wpAny _ _ (field (.ref z) 3 >>= _) _ _ _
  refine wpAny_bind (wpAny_field hz rfl (x := .ref TI) rfl ?_)
  refine wpAny_bind (wpAny_seqItems hTI rfl ?_)
  show wpAny _ _ (Builtin.SmallTypes.ownedTupleIsFree (.ref z) >>= _) _ _ _
  refine wpAny_bind ?_
  unfold Builtin.SmallTypes.ownedTupleIsFree
  refine wpAny_bind (wpAny_field hz rfl (x := .none) rfl (wpAny_pure ?_))
  simp only [if_true]
  refine wpAny_bind (wpAny_rule ?_)
  refine wpAny_bind (wpAny_field hz rfl (x := .ref TO) rfl ?_)
  refine wpAny_bind (wpAny_setField_rec hz (by simp) fun h₁ hz₁ hs₁ => ?_)
  replace hz₁ : IsZipB h₁ z TI TO b .ellipsis := hz₁
  have g1 : ItA h₁ i1 l1 k1 xs := h1.ext (fun o e => hs₁.extBut _ _ D.i1z e) (fun o e => hs₁.extBut _ _ D.l1z e)
  have g2 : ItA h₁ i2 l2 k2 ys := h2.ext (fun o e => hs₁.extBut _ _ D.i2z e) (fun o e => hs₁.extBut _ _ D.l2z e)
  refine wpAny_bind ?_
  simp only [List.zipIdx_cons, List.zipIdx_nil, List.forIn_cons, List.forIn_nil]
  cases b with
  | false =>
    refine wpAny_bind (wpAny_bind (wpAny_onRaise ?_))
    show wpAny _ _ (Builtin.SmallTypes.nextOf (.ref i1) >>= _) _ _ _
    cases hx : xs[k1]? with
    | none =>
      refine wpAny_bind (nextOf_A_end hh g1 hx fun h₂ e hs₂ he => ?_)
      obtain ⟨oe, hoe, hce⟩ := he
      have hz₂ : IsZipB h₂ z TI TO false .ellipsis := hs₂ _ _ D.i1z.symm hz₁
      have hez : e ≠ z := fun x => by subst x; rw [hz₂] at hoe; cases hoe; simp at hce
      refine wpAny_setField_rec hz₂ (by simp) fun h₃ _ hs₃ => hE h₃ e (fun c o c1 _ c3 _ x => hs₃.extBut _ _ c1 (hs₂ _ _ c3 (hs₁.extBut _ _ c1 x))) ⟨oe, hs₃.extBut _ _ hez hoe, hce⟩
    | some x =>
      have hy : ys[k2]? = none := by rcases hend with h | h; rw [hx] at h; cases h; exact h
      refine wpAny_bind (nextOf_A g1 D.l1i1 hx fun h₂ h1₂ hs₂ => wpAny_pure ?_)
      have hTO₂ : IsPair h₂ TO a c := hs₂.extBut _ _ D.TOi1 (hs₁.extBut _ _ D.TOz hTO)
      refine wpAny_bind (wpAny_seqItems hTO₂ rfl ?_)
      refine wpAny_bind (wpAny_updateSeq_pair hTO₂ fun h₃ hTO₃ hs₃ => ?_)
      refine wpAny_bind (wpAny_letGo (wpAny_pure ?_))
      refine wpAny_bind (wpAny_bind (wpAny_onRaise ?_))
      show wpAny _ _ (Builtin.SmallTypes.nextOf (.ref i2) >>= _) _ _ _
      have g3 : ItA h₃ i2 l2 k2 ys := g2.ext (fun o e => hs₃.extBut _ _ D.TOi2.symm (hs₂.extBut _ _ D.i12.symm e)) (fun o e => hs₃.extBut _ _ D.l2TO (hs₂.extBut _ _ D.l2i1 e))
      refine wpAny_bind (nextOf_A_end hh g3 hy fun h₄ e hs₄ he => ?_)
      obtain ⟨oe, hoe, hce⟩ := he
      have hz₄ : IsZipB h₄ z TI TO false .ellipsis := hs₄ _ _ D.i2z.symm (hs₃.extBut _ _ D.TOz.symm (hs₂.extBut _ _ D.i1z.symm hz₁))
      have hez : e ≠ z := fun x => by subst x; rw [hz₄] at hoe; cases hoe; simp at hce
      refine wpAny_setField_rec hz₄ (by simp) fun h₅ _ hs₅ => hE h₅ e (fun c o c1 c2 c3 c4 x => hs₅.extBut _ _ c1 (hs₄ _ _ c4 (hs₃.extBut _ _ c2 (hs₂.extBut _ _ c3 (hs₁.extBut _ _ c1 x))))) ⟨oe, hs₅.extBut _ _ hez hoe, hce⟩
  | true =>
    obtain ⟨hx, hy⟩ := hst rfl
    refine wpAny_bind (wpAny_bind (wpAny_onRaise ?_))
    show wpAny _ _ (Builtin.SmallTypes.nextOrEnd (.ref i1)) _ _ _
    refine nextOrEnd_A_end hh g1 hx fun h₂ hs₂ => ?_
    have hz₂ : IsZipB h₂ z TI TO true .ellipsis := hs₂ _ _ D.i1z.symm hz₁
    refine wpAny_bind (wpAny_setField_rec hz₂ (by simp) fun h₃ hz₃ hs₃ => ?_)
    refine wpAny_bind ?_
    show wpAny _ _ ((forIn (m := Sem) [(Value.ref i2, 1)] PUnit.unit _) >>= _) _ _ _
    simp only [List.forIn_cons, List.forIn_nil]
    refine wpAny_bind (wpAny_bind (wpAny_bind ?_))
    have g3 : ItA h₃ i2 l2 k2 ys := g2.ext (fun o e => hs₃.extBut _ _ D.i2z (hs₂ _ _ D.i12.symm e)) (fun o e => hs₃.extBut _ _ D.l2z (hs₂ _ _ D.l2i1 e))
    refine nextOrEnd_A_end hh g3 hy fun h₄ hs₄ => ?_
    show wpAny _ _ (pure (ForInStep.yield PUnit.unit)) _ _ _
    refine wpAny_pure ?_
    show wpAny _ _ (pure PUnit.unit) _ _ _
    refine wpAny_pure (wpAny_bind (wpAny_rule ?_))
    exact stop_raise hh fun h' e k he => hE h' e (fun c o c1 c2 c3 c4 x => k _ _ (hs₄ _ _ c4 (hs₃.extBut _ _ c1 (hs₂ _ _ c3 (hs₁.extBut _ _ c1 x))))) he
end
end Mi

namespace Mi
open PySem L2 PySem.Spec PyProof.Rows
def SeqB (h : Heap) : Bool → Addr → Array Value → Prop
  | false, l, xs => h.IsList l xs
  | true, l, xs => h.IsTuple l xs
abbrev itObj (t : Bool) (l : Addr) : Obj := { cls := .type (bif t then "tuple_iterator" else "list_iterator"), data := .fields #[.ref l, .int 0 0] }
theorem SeqB.push {h : Heap} {t : Bool} {l : Addr} {xs : Array Value} (a : SeqB h t l xs) (o : Obj) : SeqB (h.push o) t l xs := by
  cases t
  · exact Heap.IsList.push a _
  · exact Heap.IsTuple.push a _
theorem iter_B {prog : Program} {w : World} {A : PySem.Around} {E : Value → Shared → Prop} {s : Shared} {t : Bool} {l : Addr} {xs : Array Value} {Q : Value → Shared → Prop} (h : SeqB s.heap t l xs)
    (hq : Q (.ref s.heap.objs.size) { s with heap := s.heap.push (itObj t l) }) : wpAny (model prog w) A (pyIter (.ref l)) Q E s := by
  cases t
  · exact wpAny_pyIter_list h hq
  · exact wpAny_pyIter_tuple h hq
abbrev zB1 (t1 : Bool) (h : Heap) (l1 : Addr) : Heap := h.push (itObj t1 l1)
abbrev zB2 (t1 t2 : Bool) (h : Heap) (l1 l2 : Addr) : Heap := (zB1 t1 h l1).push (itObj t2 l2)
abbrev zB3 (t1 t2 : Bool) (h : Heap) (l1 l2 : Addr) : Heap := (zB2 t1 t2 h l1 l2).push { cls := .type "tuple", data := .seq #[.ref h.objs.size, .ref (zB1 t1 h l1).objs.size] }
abbrev zB4 (t1 t2 : Bool) (h : Heap) (l1 l2 : Addr) : Heap := (zB3 t1 t2 h l1 l2).push { cls := .type "tuple", data := .seq #[.none, .none] }
abbrev zB5 (b t1 t2 : Bool) (h : Heap) (l1 l2 : Addr) : Heap := (zB4 t1 t2 h l1 l2).push { cls := .type "zip", data := .fields #[.none, .bool false, .bool b, .ref (zB2 t1 t2 h l1 l2).objs.size, .ref (zB3 t1 t2 h l1 l2).objs.size] }
def kwZ : Bool → List (Str × Value)
  | true => [(Str.ofString "strict", .bool true)]
  | false => []
theorem meets_zipB_new (b t1 t2 : Bool) (l1 l2 : Addr) (xs ys : Array Value) :
    Meets (Builtin.«zip.__new__» ⟨[.type "zip", .ref l1, .ref l2], kwZ b⟩) (fun _ R s => SeqB s.heap t1 l1 xs ∧ SeqB s.heap t2 l2 ys ∧
      R (.ok (.ret (.ref (zB4 t1 t2 s.heap l1 l2).objs.size))) { s with heap := zB5 b t1 t2 s.heap l1 l2 }) :=
  .of_wp fun prog w A R s h => by
    obtain ⟨hp, g, d, tk, os⟩ := s; obtain ⟨hl1, hl2, h⟩ := h
    have hsub := sub_zip
    have hL1 : SeqB (Shared.heap ⟨hp, g, d, tk, os⟩) t1 l1 xs := hl1
    have hL2 : SeqB (Shared.heap ⟨hp.push (itObj t1 l1), g, d, tk, os⟩) t2 l2 ys := SeqB.push hl2 _
    have e1 : (Str.ofString "strict" == ("strict" : Str)) = true := by decide +kernel
    have e2 : (Str.ofString "strict" != ("strict" : Str)) = false := by decide +kernel
    cases b with
    | false =>
      show wpAny _ _ (Builtin.«zip.__new__» ⟨[.type "zip", .ref l1, .ref l2], []⟩) _ _ _
      wp_walk using iter_B hL1, iter_B hL2
      exact ⟨_, rfl, h⟩
    | true =>
      show wpAny _ _ (Builtin.«zip.__new__» ⟨[.type "zip", .ref l1, .ref l2], [(Str.ofString "strict", .bool true)]⟩) _ _ _
      wp_walk using iter_B hL1, iter_B hL2
      exact ⟨_, rfl, h⟩
namespace F
theorem typeCall_zip_kw (a b c : Value) : checkTypeCall "zip" ⟨[a, b], [(Str.ofString "strict", c)]⟩ = pure () := by kernel_rfl
theorem newCall_zip_kw (a b c : Value) : checkBuiltinCall "zip.__new__" ⟨[.type "zip", a, b], [(Str.ofString "strict", c)]⟩ = pure () := by kernel_rfl
theorem args_init_zip_kw (obj a b c : Value) : argsOk "object.__init__" ⟨[obj, a, b], [(Str.ofString "strict", c)]⟩ := by unfold argsOk; kernel_rfl
end F
section
variable {prog : Program} {w : World} {A : PySem.Around} {E : Value → Shared → Prop} {s : Shared}
theorem ItA.new {h : Heap} {t : Bool} {l it : Addr} {xs : Array Value} (h1 : h.get? it = some (itObj t l)) (h2 : SeqB h t l xs) : ItA h it l 0 xs := by
  cases t
  · exact .inl ⟨⟨_, h1, rfl, rfl⟩, h2⟩
  · exact .inr ⟨⟨_, h1, rfl, rfl⟩, h2⟩
theorem call_zipB {b t1 t2 : Bool} {l1 l2 : Addr} {xs ys : Array Value} {Q : Value → Shared → Prop} (hl1 : SeqB s.heap t1 l1 xs) (hl2 : SeqB s.heap t2 l2 ys)
    (h : ∀ h', IsZipB h' (s.heap.objs.size + 4) (s.heap.objs.size + 2) (s.heap.objs.size + 3) b .none → IsPair h' (s.heap.objs.size + 2) (.ref s.heap.objs.size) (.ref (s.heap.objs.size + 1)) →
      IsPair h' (s.heap.objs.size + 3) .none .none → ItA h' s.heap.objs.size l1 0 xs → ItA h' (s.heap.objs.size + 1) l2 0 ys → h'.objs.size = s.heap.objs.size + 5 →
      (∀ c o, s.heap.get? c = some o → h'.get? c = some o) → Q (.ref (s.heap.objs.size + 4)) { s with heap := h' }) :
    wpAny (model prog w) A (call (.type "zip") [.ref l1, .ref l2] (kwZ b)) Q E s := by
  have key : (s.heap.objs.size + 4 = (zB4 t1 t2 s.heap l1 l2).objs.size) ∧ (Shared.TypeIs { s with heap := zB5 b t1 t2 s.heap l1 l2 } (.ref (zB4 t1 t2 s.heap l1 l2).objs.size) "zip" ∧ Q (.ref (zB4 t1 t2 s.heap l1 l2).objs.size) { s with heap := zB5 b t1 t2 s.heap l1 l2 }) := by
    have z1 : (zB1 t1 s.heap l1).objs.size = s.heap.objs.size + 1 := Heap.size_push ..
    have z2 : (zB2 t1 t2 s.heap l1 l2).objs.size = s.heap.objs.size + 2 := by rw [Heap.size_push, z1]
    have z3 : (zB3 t1 t2 s.heap l1 l2).objs.size = s.heap.objs.size + 3 := by rw [Heap.size_push, z2]
    have z4 : (zB4 t1 t2 s.heap l1 l2).objs.size = s.heap.objs.size + 4 := by rw [Heap.size_push, z3]
    have z5 : (zB5 b t1 t2 s.heap l1 l2).objs.size = s.heap.objs.size + 5 := by rw [Heap.size_push, z4]
    have g5 : (zB5 b t1 t2 s.heap l1 l2).get? (zB4 t1 t2 s.heap l1 l2).objs.size = some _ := Heap.get?_push_size _ rfl
    have g4 : (zB5 b t1 t2 s.heap l1 l2).get? (zB3 t1 t2 s.heap l1 l2).objs.size = some _ := Heap.get?_push_of_some _ (Heap.get?_push_size _ rfl)
    have g3 : (zB5 b t1 t2 s.heap l1 l2).get? (zB2 t1 t2 s.heap l1 l2).objs.size = some _ := Heap.get?_push_of_some _ (Heap.get?_push_of_some _ (Heap.get?_push_size _ rfl))
    have g2 : (zB5 b t1 t2 s.heap l1 l2).get? (zB1 t1 s.heap l1).objs.size = some (itObj t2 l2) := Heap.get?_push_of_some _ (Heap.get?_push_of_some _ (Heap.get?_push_of_some _ (Heap.get?_push_size _ rfl)))
    have g1 : (zB5 b t1 t2 s.heap l1 l2).get? s.heap.objs.size = some (itObj t1 l1) := Heap.get?_push_of_some _ (Heap.get?_push_of_some _ (Heap.get?_push_of_some _ (Heap.get?_push_of_some _ (Heap.get?_push_size _ rfl))))
    rw [z2, z3, z4] at g5
    rw [z1, z2] at g3
    rw [z3] at g4
    rw [z1] at g2
    rw [z4]
    have up : ∀ {t l xs}, SeqB s.heap t l xs → SeqB (zB5 b t1 t2 s.heap l1 l2) t l xs := fun h => ((((h.push _).push _).push _).push _).push _
    exact ⟨rfl, ⟨_, g5, rfl⟩, h _ g5 g3 g4 (.new g1 (up hl1)) (.new g2 (up hl2)) z5 fun c o x =>
      Heap.get?_push_of_some _ (Heap.get?_push_of_some _ (Heap.get?_push_of_some _ (Heap.get?_push_of_some _ (Heap.get?_push_of_some _ x))))⟩
  cases b with
  | false =>
    exact callType_new PySem.F.called_zip (by decide) (PySem.F.typeCall_zip_2 _ _) (PySem.F.newCall_zip_2 _ _) (fun obj => PySem.F.args_object_init_3 obj _ _) PySem.F.entry_zip_new
      (meets_zipB_new false t1 t2 l1 l2 xs ys) ⟨hl1, hl2, key.2⟩
  | true =>
    exact callType_newKw PySem.F.called_zip (by decide) (F.typeCall_zip_kw _ _ _) (F.newCall_zip_kw _ _ _) (fun obj => F.args_init_zip_kw obj _ _ _) PySem.F.entry_zip_new
      (meets_zipB_new true t1 t2 l1 l2 xs ys) ⟨hl1, hl2, key.2⟩
end
end Mi

namespace Mi
open PySem L2 PySem.Spec PyProof.Rows
section
variable {prog : Program} {w : World} {A : PySem.Around} {E : Value → Shared → Prop} {s : Shared}
theorem go_zipB {b : Bool} {elts : List Expr} {x1} {pos : Pos} {z TI TO T : Addr} {Q : Unit → Shared → Prop} (hz : IsZipB s.heap z TI TO b (rawInt T))
    (hQ : ∀ h', IsZipB h' z TI TO b .none → Heap.SameBut z s.heap h' → Q () { s with heap := h' }) :
    wpAny (model prog w) A (letOwnedTupleGo (.Tuple elts x1 pos) (.ref z) (.ref T)) Q E s := by
  unfold letOwnedTupleGo
  refine wpAny_bind (wpAny_load hz ?_)
  show wpAny _ _ (if (["enumerate", "zip", "dict_itemiterator", "dict_reverseitemiterator", "odict_iterator", "itertools.zip_longest", "itertools.pairwise"].contains "zip" &&
      (#[rawInt T, .bool false, .bool b, .ref TI, .ref TO] : Array Value)[0]? == some (rawInt T)) = true then _ else _) Q E s
  rw [if_pos (by simp)]
  refine wpAny_bind (wpAny_rule ?_)
  show wpAny _ _ (setField (.ref z) 0 .none) Q E s
  exact wpAny_setField_rec hz (by simp) fun h' hz' hs' => hQ h' hz' hs'
theorem pyIter_zipB {b : Bool} {z TI TO : Addr} {f0 : Value} {Q : Value → Shared → Prop} (hz : IsZipB s.heap z TI TO b f0) (h : Q (.ref z) s) : wpAny (model prog w) A (pyIter (.ref z)) Q E s := by
  have hT : s.TypeIs (.ref z) "zip" := ⟨_, hz, rfl⟩
  refine wpAny_pyIter_slot hT PySem.F.slot_zip_iter (wpAny_call_entry PySem.F.slot_zip_iter hT PySem.F.entry_zip_iter ?_ (PySem.F.args_zip_iter_1 _))
  show wpAny _ _ (ret (.ref z)) _ _ s
  exact wpAny_pure ⟨_, rfl, "zip", _, hT, PySem.F.slot_zip_next.lookup, h⟩
theorem pyNext_zipB {b : Bool} {z TI TO i1 i2 l1 l2 : Addr} {k1 k2 : Nat} {xs ys : Array Value} {x y a c : Value} {Q : Option Value → Shared → Prop} (D : ZipApart z TI TO i1 i2 l1 l2)
    (hz : IsZipB s.heap z TI TO b .none) (hTI : IsPair s.heap TI (.ref i1) (.ref i2)) (hTO : IsPair s.heap TO a c)
    (h1 : ItA s.heap i1 l1 k1 xs) (h2 : ItA s.heap i2 l2 k2 ys) (hx : xs[k1]? = some x) (hy : ys[k2]? = some y)
    (hQ : ∀ h', IsZipB h' z TI TO b (rawInt s.heap.objs.size) → IsPair h' TO x y → ItA h' i1 l1 (k1 + 1) xs → ItA h' i2 l2 (k2 + 1) ys → IsPair h' s.heap.objs.size x y → h'.objs.size = s.heap.objs.size + 1 →
      (∀ c o, c ≠ z → c ≠ TO → c ≠ i1 → c ≠ i2 → s.heap.get? c = some o → h'.get? c = some o) → Q (some (.ref s.heap.objs.size)) { s with heap := h' }) :
    wpAny (model prog w) A (pyNext (.ref z)) Q E s := by
  have hT : s.TypeIs (.ref z) "zip" := ⟨_, hz, rfl⟩
  unfold pyNext
  exact wpAny_bind (wpAny_attempt (wpAny_callSpecial?_slot (name := Str.ofString "__next__") hT PySem.F.slot_zip_next
    (wpAny_call_entry PySem.F.slot_zip_next hT PySem.F.entry_zip_next
      (zipB_next D hz hTI hTO h1 h2 hx hy fun h' a1 a2 a3 a4 a5 a6 a7 => wpAny_pure (hQ h' a1 a2 a3 a4 a5 a6 a7)) (PySem.F.args_zip_next_1 _))))
theorem pyNext_zipB_end {b : Bool} {z TI TO i1 i2 l1 l2 : Addr} {k1 k2 : Nat} {xs ys : Array Value} {a c : Value} {Q : Option Value → Shared → Prop} (hh : A.handled = none) (D : ZipApart z TI TO i1 i2 l1 l2)
    (hz : IsZipB s.heap z TI TO b .none) (hTI : IsPair s.heap TI (.ref i1) (.ref i2)) (hTO : IsPair s.heap TO a c)
    (h1 : ItA s.heap i1 l1 k1 xs) (h2 : ItA s.heap i2 l2 k2 ys) (hst : b = true → xs[k1]? = none ∧ ys[k2]? = none) (hend : xs[k1]? = none ∨ ys[k2]? = none)
    (hQ : ∀ h', (∀ c o, c ≠ z → c ≠ TO → c ≠ i1 → c ≠ i2 → s.heap.get? c = some o → h'.get? c = some o) → Q none { s with heap := h' }) : wpAny (model prog w) A (pyNext (.ref z)) Q E s := by
  have hT : s.TypeIs (.ref z) "zip" := ⟨_, hz, rfl⟩
  unfold pyNext
  refine wpAny_bind (wpAny_attempt (wpAny_callSpecial?_slot (name := Str.ofString "__next__") hT PySem.F.slot_zip_next
    (wpAny_call_entry PySem.F.slot_zip_next hT PySem.F.entry_zip_next (zipB_end hh D hz hTI hTO h1 h2 hst hend fun h' e hk he => ?_) (PySem.F.args_zip_next_1 _))))
  obtain ⟨o, ho, hc⟩ := he
  refine wpAny_bind (wpAny_isInstance (T := "StopIteration") (b := true) ⟨o, ho, hc⟩ isSubtype_stop ?_)
  exact wpAny_pure (hQ _ hk)
end
/-- a sequence that stands: a list or a tuple -/
def SqB (K : PySem.W.Frag) (t : Bool) (H : Hp) (a : Addr) (xs : List V) : Prop := match t with
  | false => SqL K H a xs
  | true => SqT K H a xs
theorem SqB.real {X : Cx} {pins : List (Addr × PySem.Obj)} {σ : L2.St} {H : Hp} {s : Shared} {t : Bool} {a : Addr} {xs : List V} (I : Inv X pins σ H s) (h : SqB X.K t H a xs) : ∃ its, Vals xs its ∧ SeqB s.heap t a its.toArray ∧ a < s.heap.objs.size := by
  cases t
  · obtain ⟨its, rv, p, _⟩ := I.list h
    exact ⟨its, rv, p.isList, p.lt⟩
  · obtain ⟨its, rv, p, _⟩ := I.tuple h
    obtain ⟨o, ho, _⟩ := id p
    exact ⟨its, rv, p, Heap.lt_size ho⟩
/-- the sequences at a and c as they stand at each turn, the items in new pairs -/
def ItzB (K : PySem.W.Frag) (b t1 t2 : Bool) (a c : Addr) : It :=
  ⟨fun i H => ∃ (xs ys : List V) (x y : V), SqB K t1 H a xs ∧ SqB K t2 H c ys ∧ xs[i]? = some x ∧ ys[i]? = some y,
    fun i H v H' => ∃ T x y, v = .ref T ∧ H T = none ∧ H' = upd H T (.tup [x, y]) ∧ (∀ xs, SqB K t1 H a xs → xs[i]? = some x) ∧ ∀ ys, SqB K t2 H c ys → ys[i]? = some y,
    fun i H => ∃ xs ys : List V, SqB K t1 H a xs ∧ SqB K t2 H c ys ∧ (b = true → xs.length ≤ i ∧ ys.length ≤ i) ∧ (xs.length ≤ i ∨ ys.length ≤ i)⟩
theorem SqB.inj {X : Cx} {pins : List (Addr × PySem.Obj)} {σ : L2.St} {H : Hp} {s : Shared} {t : Bool} {a : Addr} {xs ys : List V} (I : Inv X pins σ H s) (h : SqB X.K t H a xs) (h2 : SqB X.K t H a ys) : xs = ys := by
  cases t
  · exact I.list_inj h h2
  · exact I.tuple_inj h h2
/-- an iterator over a list or a tuple -/
def ItO (h : Heap) (t : Bool) (it l : Addr) (k : Nat) : Prop := match t with
  | false => h.IsListIter it l k
  | true => h.IsTupleIter it l k
theorem ItO.a {h : Heap} {t : Bool} {it l : Addr} {k : Nat} {xs : Array Value} (h1 : ItO h t it l k) (h2 : SeqB h t l xs) : ItA h it l k xs := by
  cases t
  · exact .inl ⟨h1, h2⟩
  · exact .inr ⟨h1, h2⟩
theorem ItA.o {h : Heap} {t : Bool} {it l : Addr} {k : Nat} {xs ys : Array Value} (h1 : ItA h it l k xs) (h2 : SeqB h t l ys) : ItO h t it l k := by
  rcases h1 with ⟨h1, ⟨o, e, c, n, d⟩⟩ | ⟨h1, ⟨o, e, c, n, d⟩⟩ <;> cases t <;> obtain ⟨o2, e2, c2, n2, d2⟩ := h2 <;> rw [e] at e2 <;> have e2 := Option.some.inj e2 <;> subst e2
  · exact h1
  · rw [c] at c2; exact absurd c2 (by decide)
  · rw [c] at c2; exact absurd c2 (by decide)
  · exact h1
theorem ItO.ext {h h' : Heap} {t : Bool} {it l : Addr} {k : Nat} (a : ItO h t it l k) (h1 : ∀ o, h.get? it = some o → h'.get? it = some o) : ItO h' t it l k := by
  cases t
  · exact Heap.IsListIter.at a h1
  · exact Heap.IsTupleIter.at a h1
theorem ItO.obj {h : Heap} {t : Bool} {it l : Addr} {k : Nat} (a : ItO h t it l k) : ∃ o, h.get? it = some o ∧ ∀ v, o.data ≠ .cell v := by
  cases t
  · obtain ⟨o, e, _, d⟩ := a
    exact ⟨o, e, fun v q => by rw [d] at q; cases q⟩
  · obtain ⟨o, e, _, d⟩ := a
    exact ⟨o, e, fun v q => by rw [d] at q; cases q⟩
theorem SeqB.ext {h h' : Heap} {t : Bool} {l : Addr} {xs : Array Value} (a : SeqB h t l xs) (h1 : ∀ o, h.get? l = some o → h'.get? l = some o) : SeqB h' t l xs := by
  cases t
  · exact Heap.IsList.at a h1
  · obtain ⟨o, e, r⟩ := a
    exact ⟨o, h1 o e, r⟩
theorem turn_zipB {P : Program} {w : World} {K : PySem.W.Frag} {elts : List Expr} {kk : Nat} {tpos : Pos} {b t1 t2 : Bool} {a c z TI TO i1 i2 : Addr} (D : ZipApart z TI TO i1 i2 a c) :
    Turn P w K (.Tuple elts kk tpos) (ItzB K b t1 t2 a c) [z, TI, TO, i1, i2] z (fun i h => IsZipB h z TI TO b .none ∧ IsPair h TI (.ref i1) (.ref i2) ∧ (∃ x y, IsPair h TO x y) ∧ ItO h t1 i1 a i ∧ ItO h t2 i2 c i) where
  mem := by simp
  obj := fun i h st c hc => by
    obtain ⟨hz, hTI, ⟨x, y, hTO⟩, h1, h2⟩ := st
    have e' : c = z ∨ c = TI ∨ c = TO ∨ c = i1 ∨ c = i2 := by simpa using hc
    rcases e' with q | q | q | q | q
    · rw [q]; exact ⟨_, hz, fun v q => nomatch q⟩
    · rw [q]; exact ⟨_, hTI, fun v q => nomatch q⟩
    · rw [q]; exact ⟨_, hTO, fun v q => nomatch q⟩
    · rw [q]; exact h1.obj
    · rw [q]; exact h2.obj
  keep := fun i h h' st k => by
    obtain ⟨hz, hTI, ⟨x, y, hTO⟩, h1, h2⟩ := st
    exact ⟨k z (by simp) _ hz, k TI (by simp) _ hTI, ⟨x, y, k TO (by simp) _ hTO⟩, h1.ext fun o q => k i1 (by simp) o q, h2.ext fun o q => k i2 (by simp) o q⟩
  item := by
    intro X hP hw hK hc i pins s σ H E I hf st hg
    subst hP hw hK
    obtain ⟨hz, hTI, ⟨x0, y0, hTO⟩, h1, h2⟩ := st
    obtain ⟨xs, ys, x, y, hqx, hqy, hx, hy⟩ := hg
    obtain ⟨its, rv, p, _⟩ := SqB.real I hqx
    obtain ⟨its2, rv2, p2, _⟩ := SqB.real I hqy
    obtain ⟨u, hu, ru⟩ := rv.get hx
    obtain ⟨u2, hu2, ru2⟩ := rv2.get hy
    have hzl : z < s.heap.objs.size := Heap.lt_size hz
    have o1 := h1.obj
    have o2 := h2.obj
    refine pyNext_zipB D hz hTI hTO (h1.a p) (h2.a p2) (x := u) (y := u2) (by simpa using hu) (by simpa using hu2) fun h' z' TO' h1' h2' hT hsz hk => ?_
    refine ⟨_, rfl, go_zipB (s := { s with heap := h' }) z' fun h'' z'' sb => ?_⟩
    have hT2 : h''.get? s.heap.objs.size = some { cls := .type "tuple", data := .seq #[u, u2] } := (sb.2 _ (Nat.ne_of_gt hzl)).trans hT
    have new : ObjOk X.prog X.w (upd H s.heap.objs.size (.tup [x, y])) h'' s.heap.objs.size (.tup [x, y]) :=
      ⟨by show 2 ≤ sizeLine; decide, [u, u2], .cons ru (.cons ru2 .nil), ⟨_, hT2, rfl, _, rfl⟩⟩
    have I1 : Inv X pins σ (upd H s.heap.objs.size (.tup [x, y])) { s with heap := h'' } :=
      I.turnedNew (t' := s.toks) (ch := [z, TI, TO, i1, i2]) (fun c o hb q => (sb.2 c (fun q' => hb (by simp [q']))).trans (hk c o (fun q' => hb (by simp [q'])) (fun q' => hb (by simp [q'])) (fun q' => hb (by simp [q'])) (fun q' => hb (by simp [q'])) q)) hf (Nat.le_refl _) new
    refine ⟨.ref s.heap.objs.size, _, I1, rfl, ⟨_, x, y, rfl, I.hok.fresh (Nat.le_refl _), rfl, fun l hl => by rw [SqB.inj I hl hqx]; exact hx, fun l hl => by rw [SqB.inj I hl hqy]; exact hy⟩, ⟨z'', ?_, ⟨u, u2, ?_⟩, ?_, ?_⟩, fun c hcm => ?_⟩
    · exact (sb.2 _ D.TIz).trans (hk _ _ D.TIz D.TITO D.TIi1 D.TIi2 hTI)
    · exact (sb.2 _ D.TOz).trans TO'
    · exact (ItA.o h1' (p.ext fun o q => hk _ _ D.l1z D.l1TO D.l1i1 D.l1i2 q)).ext fun o q => (sb.2 _ D.i1z).trans q
    · exact (ItA.o h2' (p2.ext fun o q => hk _ _ D.l2z D.l2TO D.l2i1 D.l2i2 q)).ext fun o q => (sb.2 _ D.i2z).trans q
    · have hlt : c < s.heap.objs.size := by
        have e' : c = z ∨ c = TI ∨ c = TO ∨ c = i1 ∨ c = i2 := by simpa using hcm
        rcases e' with q | q | q | q | q
        · rw [q]; exact hzl
        · rw [q]; exact Heap.lt_size hTI
        · rw [q]; exact Heap.lt_size hTO
        · rw [q]; obtain ⟨_, e1, _⟩ := o1; exact Heap.lt_size e1
        · rw [q]; obtain ⟨_, e2, _⟩ := o2; exact Heap.lt_size e2
      rw [upd_ne (Nat.ne_of_lt hlt)]
      exact (hf c hcm).1
  done := by
    intro X hP hw hK hc i pins s σ H E I hf st hg
    subst hP hw hK
    obtain ⟨hz, hTI, ⟨x0, y0, hTO⟩, h1, h2⟩ := st
    obtain ⟨xs, ys, hqx, hqy, hst, hend⟩ := hg
    obtain ⟨its, rv, p, _⟩ := SqB.real I hqx
    obtain ⟨its2, rv2, p2, _⟩ := SqB.real I hqy
    have l1 := rv.length
    have l2 := rv2.length
    have he : its.toArray[i]? = none ∨ its2.toArray[i]? = none := by
      rcases hend with q | q
      · exact .inl (by simp; omega)
      · exact .inr (by simp; omega)
    have hs : b = true → its.toArray[i]? = none ∧ its2.toArray[i]? = none := fun q => by
      obtain ⟨q1, q2⟩ := hst q
      exact ⟨by simp; omega, by simp; omega⟩
    exact pyNext_zipB_end (I.ok.hd hc) D hz hTI hTO (h1.a p) (h2.a p2) hs he fun h' hk => ⟨rfl, I.turnedL (t' := s.toks) (ch := [z, TI, TO, i1, i2]) (fun c o hb q =>
      hk c o (fun q' => hb (by simp [q'])) (fun q' => hb (by simp [q'])) (fun q' => hb (by simp [q'])) (fun q' => hb (by simp [q'])) q) hf⟩
  self := fun A i s Q E st h => pyIter_zipB st.1 h
def iZipB (K : PySem.W.Frag) (b : Bool) (ta : TA) : TI := fun σ H R => ta σ H fun vs H1 => ∃ a c xs ys t1 t2, vs = [.ref a, .ref c] ∧ SqB K t1 H1 a xs ∧ SqB K t2 H1 c ys ∧ R (ItzB K b t1 t2 a c) H1
theorem pi_zipB_end {X : Cx} {pins : List (Addr × PySem.Obj)} {σ : L2.St} {H1 : Hp} {s1 : Shared} {tpos : Pos} {elts : List Expr} {kk : Nat} {b t1 t2 : Bool} {a c : Addr} {xs ys : List V} {R : It → Hp → Prop} (I1 : Inv X pins σ H1 s1) (hx : SqB X.K t1 H1 a xs) (hy : SqB X.K t2 H1 c ys) (q : R (ItzB X.K b t1 t2 a c) H1) :
    wpAny (model X.prog X.w) X.A (call (.type "zip") [.ref a, .ref c] (kwZ b)) (fun v s2 => wpAny (model X.prog X.w) X.A (pyIter v) (PIE X pins σ (.Tuple elts kk tpos) R) X.xe s2) X.xe s1 := by
  have fresh5 : ∀ c, c ∈ [s1.heap.objs.size + 4, s1.heap.objs.size + 2, s1.heap.objs.size + 3, s1.heap.objs.size, s1.heap.objs.size + 1] → FpOk X pins H1 c := fun c hcm => by
    have e' : c = s1.heap.objs.size + 4 ∨ c = s1.heap.objs.size + 2 ∨ c = s1.heap.objs.size + 3 ∨ c = s1.heap.objs.size ∨ c = s1.heap.objs.size + 1 := by simpa using hcm
    have hle : s1.heap.objs.size ≤ c := by
      rcases e' with z | z | z | z | z
      · rw [z]; exact Nat.le_add_right _ _
      · rw [z]; exact Nat.le_add_right _ _
      · rw [z]; exact Nat.le_add_right _ _
      · rw [z]; exact Nat.le_refl _
      · rw [z]; exact Nat.le_add_right _ _
    exact I1.fpOk hle (I1.hok.fresh hle)
  obtain ⟨its, rv, p1, l1⟩ := SqB.real I1 hx
  obtain ⟨its2, rv2, p2, l2⟩ := SqB.real I1 hy
  refine call_zipB p1 p2 fun h' hz hTI hTO h1 h2 hsz hk => pyIter_zipB hz ?_
  have I2 : Inv X pins σ H1 { s1 with heap := h' } := I1.kept (t' := s1.toks) hk
  exact ⟨s1.heap.objs.size + 4, [s1.heap.objs.size + 4, s1.heap.objs.size + 2, s1.heap.objs.size + 3, s1.heap.objs.size, s1.heap.objs.size + 1], _, _, H1, rfl, I2, turn_zipB (PySem.W.ktu_apart s1.heap.objs.size a c l1 l2),
    ⟨hz, hTI, ⟨_, _, hTO⟩, h1.o (p1.ext fun o q => hk _ _ q), h2.o (p2.ext fun o q => hk _ _ q)⟩, fresh5, q⟩
theorem pi_zipB {X : Cx} {e e2 : Expr} {ta : TA} {p pos tpos : Pos} {elts : List Expr} {kk : Nat} (hg : Gl X "zip") (hm : X.mg "zip" = none) (ha : PA X [e, e2] ta)
    (hs : starEach [e, e2] X.env = (false, eval e X.env) :: starEach [e2] X.env := by rfl) (hpl : (backTo pos (starEach [e2] X.env)).any (·.1) = false := by rfl) :
    PI X (.Tuple elts kk tpos) (.Call (.Name "zip" p) [e, e2] [] pos) (iZipB X.K false ta) := by
  refine ⟨fun pins s σ H R I h => ?_⟩
  refine Call_ (ld_blt I hg hm PyProof.Rows.boot_zip (PyProof.Rows.callWith_type1 (thn (ha.run pos pins s σ H _ I h) fun us s1 ⟨vs, H1, I1, r1, q1⟩ => ?_) hs hpl))
  obtain ⟨a, c, xs, ys, t1, t2, rfl, hx, hy, q⟩ := q1
  cases r1 with
  | cons r rr =>
    cases rr with
    | cons r' rr =>
      cases rr
      cases r
      cases r'
      exact pi_zipB_end (b := false) I1 hx hy q
theorem callWith_tyK {M : Model} {A : Around} {E : Value → Shared → Prop} {s : Shared} {env : Env} {pos : Pos} {T : String} {e : Expr} {rest : List Expr} {kws : List Keyword} {Q : Value → Shared → Prop} (hall : (backToKw pos (keywordEach kws env)).all (·.1.isSome) = true)
    (h : wpAny M A (spliced (backTo pos (starEach (e :: rest) env))) (fun vs s₁ => wpAny M A (evalAll ((backToKw pos (keywordEach kws env)).map (·.2)))
      (fun ks s₂ => wpAny M A (call (.type T) vs (((backToKw pos (keywordEach kws env)).filterMap (·.1)).zip ks)) Q E s₂) E s₁) E s)
    (hplain : ((backTo pos (starEach (e :: rest) env)).any (·.1) || (backToKw pos (keywordEach kws env)).any (·.1.isNone)) = false) (he : starEach (e :: rest) env = (false, eval e env) :: starEach rest env := by rfl) :
    wpAny M A (callWith pos (.type T) [] (backTo pos (starEach (e :: rest) env)) (backToKw pos (keywordEach kws env))) Q E s := by
  unfold callWith
  refine wpAny_bind (wpAny_holding (wpAny_mono (evalArgs_kw2 (Q := fun a s₁ => wpAny M A (call (.type T) a.pos a.kw) Q E s₁) hall h he) (fun a s₁ h₁ => wpAny_bind (wpAny_standAt ?_)) fun _ _ x => x))
  simp only [hplain]
  refine wpAny_bind (wpAny_pure ?_)
  exact wpAny_bind (wpAny_mono h₁ (fun r s₂ hr => wpAny_bind (wpAny_holding (wpAny_point (wpAny_pure hr)))) fun _ _ x => x)
theorem pi_zipS {X : Cx} {e e2 : Expr} {ta : TA} {p pos tpos kp cp : Pos} {ck : Nat} {elts : List Expr} {kk : Nat} (hg : Gl X "zip") (hm : X.mg "zip" = none) (ha : PA X [e, e2] ta)
    (hs : starEach [e, e2] X.env = (false, eval e X.env) :: starEach [e2] X.env := by rfl) (hpl : ((backTo pos (starEach [e, e2] X.env)).any (·.1) || (backToKw pos (keywordEach [⟨some "strict", .Constant (.bool true) ck cp, kp⟩] X.env)).any (·.1.isNone)) = false := by rfl) :
    PI X (.Tuple elts kk tpos) (.Call (.Name "zip" p) [e, e2] [⟨some "strict", .Constant (.bool true) ck cp, kp⟩] pos) (iZipB X.K true ta) := by
  refine ⟨fun pins s σ H R I h => ?_⟩
  refine wpAny_Call_Name_kw (ld_blt I hg hm PyProof.Rows.boot_zip (callWith_tyK rfl (thn (ha.run pos pins s σ H _ I h) fun us s1 ⟨vs, H1, I1, r1, q1⟩ => ?_) hpl hs))
  obtain ⟨a, c, xs, ys, t1, t2, rfl, hx, hy, q⟩ := q1
  cases r1 with
  | cons r rr =>
    cases rr with
    | cons r' rr =>
      cases rr
      cases r
      cases r'
      refine thn ((pk_cons (nm := some "strict") (kpos := kp) (pe_bl (X := X)) pk_nil).run pos pins s1 σ H1 (fun ks H' => ks = [.bl true] ∧ H' = H1) I1 ⟨rfl, rfl⟩) fun ks s2 ⟨ws, H2, I2, rk, e1, e2⟩ => ?_
      subst e1; subst e2
      cases rk with
      | cons r rr =>
        cases rr
        cases r
        exact pi_zipB_end (b := true) I2 hx hy q
/-! ### the mirror -/
/-- the items of a sequence that never changes -/
def seqF : T → Option (List T)
  | .tup ts => some ts
  | .lst ts => some ts
  | .frz ts => some ts
  | _ => none
theorem Rep.seqF {K : PySem.W.Frag} {ad : Ad} {as : List Addr} {H : Hp} {v : V} {t : T} {ts : List T} (r : Rep K ad as H v t) (h : Mi.seqF t = some ts) : ∃ b a xs, v = .ref a ∧ (∀ as' H', Ext as H as' H' → SqB K b H' a xs) ∧ Reps K ad as H xs ts := by
  unfold Mi.seqF at h
  split at h
  · cases h
    cases r with
    | tup h s => exact ⟨true, _, _, rfl, fun as' H' e => (h.ext e).sq, s⟩
  · cases h
    cases r with
    | lst h s => exact ⟨false, _, _, rfl, fun as' H' e => SqL.of (h.ext e).2, s⟩
  · cases h
    cases r with
    | frz h s => exact ⟨false, _, _, rfl, fun as' H' e => (h.ext e).sq, s⟩
  · cases h
def zipT (xs ys : List T) : List T := List.zipWith (fun x y => T.tup [x, y]) xs ys
def itZip (b : Bool) (ts : List T) (st : Sto) : R Wk := match ts with
  | [x, y] => match seqF x, seqF y with
    | some xs, some ys => if b = true → xs.length = ys.length then .ok (.seq (zipT xs ys)) st else .bad
    | _, _ => .bad
  | _ => .bad
def mZip (b : Bool) (m : M (List T)) : M Wk := fun ρ st => (m ρ st).bind (itZip b)
theorem itOk_zip {K : PySem.W.Frag} {ad : Ad} {as : List Addr} {H : Hp} {b t1 t2 : Bool} {a c : Addr} {xs ys : List V} {ts us : List T} (h1 : ∀ as' H', Ext as H as' H' → SqB K t1 H' a xs) (h2 : ∀ as' H', Ext as H as' H' → SqB K t2 H' c ys)
    (r1 : Reps K ad as H xs ts) (r2 : Reps K ad as H ys us) (hb : b = true → ts.length = us.length) : ItOk K ad (ItzB K b t1 t2 a c) as H (.seq (zipT ts us)) := fun hd hh i as1 st1 H1 A e => by
  have l1 := r1.length
  have l2 := r2.length
  have lz : (zipT ts us).length = min ts.length us.length := List.length_zipWith
  cases et : (zipT ts us)[i]? with
  | none =>
    have := List.getElem?_eq_none_iff.mp et
    exact ⟨xs, ys, h1 _ _ e, h2 _ _ e, fun q => by have := hb q; omega, by omega⟩
  | some t =>
    obtain ⟨t1', t2', e1, e2, rfl⟩ : ∃ x y, ts[i]? = some x ∧ us[i]? = some y ∧ t = T.tup [x, y] := by
      unfold zipT at et
      rw [List.getElem?_zipWith] at et
      cases q1 : ts[i]? with
      | none => simp [q1] at et
      | some x =>
        cases q2 : us[i]? with
        | none => simp [q1, q2] at et
        | some y => simp [q1, q2] at et; exact ⟨x, y, rfl, rfl, et.symm⟩
    obtain ⟨x, g1, g2⟩ := r1.get e1
    obtain ⟨y, g3, g4⟩ := r2.get e2
    refine ⟨⟨xs, ys, x, y, h1 _ _ e, h2 _ _ e, g1, g3⟩, fun v H' ⟨p, x', y', ev, hp, eH, f1, f2⟩ => ?_⟩
    subst ev; subst eH
    have q1 := f1 xs (h1 _ _ e)
    have q2 := f2 ys (h2 _ _ e)
    rw [g1] at q1; cases q1
    rw [g3] at q2; cases q2
    exact ⟨A.fresh hp, Ext.fresh hp, rep_newTup A hp (.cons (g2.extH e hh) (.cons (g4.extH e hh) .nil))⟩
theorem tZip {X : Cx} {ad : Ad} {W : WX} {b : Bool} {m : M (List T)} : ∀ σ H R, tI X.K ad W (mZip b m) σ H R → iZipB X.K b (tM X.K ad (Reps X.K) W m) σ H R := fun σ H R ⟨hd, ρ, as, st, A, E, q⟩ =>
  ⟨hd, ρ, as, st, A, E, Post.step q fun ts st1 as1 H1 vs A1 e1 r1 q1 => by
    unfold itZip at q1
    split at q1
    · split at q1
      · split at q1
        · rename_i h1 h2 h3
          obtain ⟨v, w, rfl, rv, rw⟩ := r1.two
          obtain ⟨t1, a, xs, rfl, s1, p1⟩ := rv.seqF h1
          obtain ⟨t2, c, ys, rfl, s2, p2⟩ := rw.seqF h2
          exact ⟨a, c, xs, ys, t1, t2, rfl, s1 _ _ Ext.refl, s2 _ _ Ext.refl, Post.at A1 (itOk_zip s1 s2 p1 p2 h3) q1⟩
        · exact q1.elim
      · exact q1.elim
    · exact q1.elim⟩
theorem pmi_zip {X : Cx} {ad : Ad} {W : WX} {e e2 : Expr} {m : M (List T)} {p pos tpos : Pos} {elts : List Expr} {kk : Nat} (hg : Gl X "zip") (hm : X.mg "zip" = none) (ha : PMA X ad W [e, e2] m)
    (hs : starEach [e, e2] X.env = (false, eval e X.env) :: starEach [e2] X.env := by rfl) (hpl : (backTo pos (starEach [e2] X.env)).any (·.1) = false := by rfl) :
    PMI X ad W (.Tuple elts kk tpos) (.Call (.Name "zip" p) [e, e2] [] pos) (mZip false m) := piW (pi_zipB hg hm ha hs hpl) tZip
theorem pmi_zipS {X : Cx} {ad : Ad} {W : WX} {e e2 : Expr} {m : M (List T)} {p pos tpos kp cp : Pos} {ck : Nat} {elts : List Expr} {kk : Nat} (hg : Gl X "zip") (hm : X.mg "zip" = none) (ha : PMA X ad W [e, e2] m)
    (hs : starEach [e, e2] X.env = (false, eval e X.env) :: starEach [e2] X.env := by rfl) (hpl : ((backTo pos (starEach [e, e2] X.env)).any (·.1) || (backToKw pos (keywordEach [⟨some "strict", .Constant (.bool true) ck cp, kp⟩] X.env)).any (·.1.isNone)) = false := by rfl) :
    PMI X ad W (.Tuple elts kk tpos) (.Call (.Name "zip" p) [e, e2] [⟨some "strict", .Constant (.bool true) ck cp, kp⟩] pos) (mZip true m) := piW (pi_zipS hg hm ha hs hpl) tZip
section
variable {E : Exn → Sto → Prop} {ρ : Sl} {y0 : Option T} {st : Sto}
@[simp] theorem Ok_zip {Q : Wk → Sto → Prop} (b : Bool) (m : M (List T)) : Ok (mZip b m (y0 :: ρ) st) Q E ↔ Ok (m (y0 :: ρ) st) (fun ts st1 => Ok (itZip b ts st1) Q E) E := by unfold mZip; simp only [Ok_bind]
end
end Mi

/-! MiDict: displays of dicts of constants. -/
namespace Mi
open PySem L2
section
variable {X : Cx} {ad : Ad} {W : WX} {pos : Pos}
def mDictC (ks : List Key) (ts : List T) : M T := fun _ st => .ok (.dct ks ts) st
def cPairs (kvs : List (Key × V)) : List (TE × TE) := kvs.map fun kv => (tC (kV kv.1), tC kv.2)
theorem tPairs_c : ∀ {kvs : List (Key × V)} {σ : St} {H : Hp} {Q : List (V × V) → Hp → Prop}, Q (kvs.map fun kv => (kV kv.1, kv.2)) H → tPairs (cPairs kvs) σ H Q
  | [], _, _, _, h => h
  | kv :: r, σ, H, Q, h => tPairs_c (kvs := r) (Q := fun ps H3 => Q ((kV kv.1, kv.2) :: ps) H3) h
theorem pm_dictC {keys : List (Option Expr)} {values : List Expr} {kvs : List (Key × V)} {ts : List T} (h : PPs X pos keys values (cPairs kvs)) (r : ∀ ad as H, Reps X.K ad as H (kvs.map (·.2)) ts)
    (hm : mergeK [] kvs = kvs := by rfl) (h15' : kvs.length ≤ 15 := by decide) (hall : keys.all (·.isSome) = true := by rfl) (hl : keys.length = values.length := by rfl) (h0 : keys ≠ [] := by intro h; cases h) (h15 : keys.length ≤ 15 := by decide) :
    PM X ad W (.Dict keys values pos) (mDictC (kvs.map (·.1)) ts) :=
  peW (pe_disp h hall hl h0 h15) fun σ H Q ⟨hd, ρ, as, st, A, E, q⟩ p hp => by
    refine tPairs_c ⟨upd_same, kvs, rfl, h15', ?_⟩
    rw [hm]
    have e : upd (upd H p (.dK [])) p (.dK kvs) = upd H p (.dK kvs) := by funext b; unfold upd; split <;> rfl
    rw [e]
    exact q.to (A.fresh hp) (Ext.fresh hp) (.dct ⟨A.nin hp, A.notHid hp⟩ upd_same rfl (r _ _ _))
@[simp] theorem Ok_dictC {Q : T → Sto → Prop} {E : Exn → Sto → Prop} {ρ : Sl} {y0 : Option T} {st : Sto} (ks : List Key) (ts : List T) : Ok (mDictC ks ts (y0 :: ρ) st) Q E ↔ Q (.dct ks ts) st := Iff.rfl
/-- a, b, c = x, y, z: plain local names -/
def sPar3 (i j l : Nat) (m : M (List T)) : SM := fun ρ st => RS.of (m ρ st) ρ fun ts st1 => match ts with
  | [t, u, v] => .nx (((ρ.set i (some t)).set j (some u)).set l (some v)) st1
  | _ => .bad
theorem Reps.three {K : PySem.W.Frag} {ad : Ad} {as : List Addr} {H : Hp} {xs : List V} {t u w : T} (r : Reps K ad as H xs [t, u, w]) : ∃ v1 v2 v3, xs = [v1, v2, v3] ∧ Rep K ad as H v1 t ∧ Rep K ad as H v2 u ∧ Rep K ad as H v3 w := by
  cases r with
  | cons a b => cases b with
    | cons c d => cases d with
      | cons e f => cases f; exact ⟨_, _, _, rfl, a, c, e⟩
theorem pms_par3 {i j l : Nat} {x y z : Str} {a b c : Expr} {m : M (List T)} {px py pz pt pos : Pos} {kt k2 : Nat} {pt2 : Pos} (h : PMA X ad W [a, b, c] m)
    (pp : ∀ {ta : TA}, PA X [a, b, c] ta → PS X (.Assign [.Tuple [.Name x px, .Name y py, .Name z pz] kt pt] (.Tuple [a, b, c] k2 pt2) pos) (tPar3 i j l ta)) :
    PMS X ad W (.Assign [.Tuple [.Name x px, .Name y py, .Name z pz] kt pt] (.Tuple [a, b, c] k2 pt2) pos) (sPar3 i j l m) :=
  psW (pp h) fun D σ H ⟨hd, ρ, as, st, A, E, q⟩ => ⟨hd, ρ, as, st, A, E, PostS.expr E q fun t st1 as1 H1 v A1 e1 r1 q1 => by
    split at q1
    · obtain ⟨v1, v2, v3, rfl, rv, rw, ru⟩ := r1.three
      exact ⟨v1, v2, v3, rfl, PostS.nxAt A1 ((((E.ext e1).set rv).set rw).set ru) q1⟩
    · exact q1.elim⟩
@[simp] theorem OkS_par3 {N : Sl → Sto → Prop} {Rt : T → Sto → Prop} {B C : Sl → Sto → Prop} {E : Exn → Sl → Sto → Prop} {ρ : Sl} {st : Sto} (i j l : Nat) (m : M (List T)) :
    OkS (sPar3 i j l m ρ st) N Rt B C E ↔ Ok (m ρ st) (fun ts st1 => three ts fun t u v => N (((ρ.set i (some t)).set j (some u)).set l (some v)) st1) (fun e st => E e ρ st) := by
  unfold sPar3
  cases m ρ st with
  | ok ts st =>
    simp only [RS.of_ok, Ok_ok]
    split
    · simp only [OkS]
      exact ⟨fun h => ⟨_, _, _, rfl, h⟩, fun ⟨_, _, _, e, h⟩ => by cases e; exact h⟩
    · rename_i h
      simp only [OkS, false_iff]
      rintro ⟨t, u, v, rfl, _⟩
      exact h t u v rfl
  | exc e st => rfl
  | bad => rfl
end
end Mi

/-! MiObj: instances of own classes: made, read, stored, their methods; dicts of the store. -/
namespace Mi
open PySem L2
section
variable {K : PySem.W.Frag} {ad : Ad} {as as' : List Addr} {H H' : Hp} {st : Sto}
def putT (f : Str) (v : T) : List (Str × T) → List (Str × T)
  | [] => [(f, v)]
  | (g, x) :: r => if g = f then (g, v) :: r else (g, x) :: putT f v r
theorem RepF.put {f : Str} {v : V} {t : T} (r : Rep K ad as H v t) : ∀ {gs : List (Str × V)} {fs : List (Str × T)}, RepF K ad as H gs fs → RepF K ad as H (putF f v gs) (putT f t fs)
  | _, _, .nil => .cons r .nil
  | _, _, .cons (f := g) q s => by
    unfold putF putT
    by_cases h : g = f
    · rw [if_pos h, if_pos h]; exact .cons r s
    · rw [if_neg h, if_neg h]; exact .cons q (RepF.put r s)
theorem RepF.get {f : Str} {t : T} : ∀ {gs : List (Str × V)} {fs : List (Str × T)}, RepF K ad as H gs fs → fs.lookup f = some t → ∃ v, gs.lookup f = some v ∧ Rep K ad as H v t
  | _, _, .nil, h => by simp at h
  | _, _, .cons (f := g) (v := v) q s, h => by
    rw [List.lookup_cons] at h ⊢
    cases e : (f == g)
    · rw [e] at h; exact RepF.get s h
    · rw [e] at h; cases h; exact ⟨v, rfl, q⟩
theorem RepF.none {f : Str} : ∀ {gs : List (Str × V)} {fs : List (Str × T)}, RepF K ad as H gs fs → fs.lookup f = none → gs.lookup f = none
  | _, _, .nil, h => rfl
  | _, _, .cons (f := g) (v := v) q s, h => by
    rw [List.lookup_cons] at h ⊢
    cases e : (f == g)
    · rw [e] at h; exact RepF.none s h
    · rw [e] at h; cases h
theorem RepF.length : ∀ {gs : List (Str × V)} {fs : List (Str × T)}, RepF K ad as H gs fs → gs.length = fs.length
  | _, _, .nil => rfl
  | _, _, .cons _ s => congrArg (· + 1) s.length
/-- an instance of the class c, its fields -/
def insAt (st : Sto) (c : Nat) (t : T) : Option (Nat × List (Str × T)) := match t with
  | .ref i => match st[i]? with
    | some (.ins d fs) => if d = c then some (i, fs) else none
    | _ => none
  | _ => none
theorem Rep.ins {c i : Nat} {fs : List (Str × T)} {v : V} {t : T} (A : Ab K ad as st H) (r : Rep K ad as H v t) (h : insAt st c t = some (i, fs)) :
    ∃ a dx gs, v = .ref a ∧ as[i]? = some a ∧ i < st.length ∧ H a = some (.ins (ad.fn c) dx gs) ∧ H dx = some (.own a) ∧ (dx ∈ as → False) ∧ RepF K ad as H gs fs := by
  unfold insAt at h
  split at h
  · split at h
    · rename_i d fs' e
      split at h
      · rename_i hd
        cases h
        subst hd
        obtain ⟨a, h2, dx, gs, h3, h4, h5, h6⟩ := A.get e
        cases r with
        | ref h7 =>
          rw [h2] at h7; cases h7
          exact ⟨_, dx, gs, rfl, h2, (List.getElem?_eq_some_iff.mp e).1, h3, h4, h5, h6⟩
      · cases h
    · cases h
  · cases h
/-- fields are stored -/
theorem Ab.putIns (A : Ab K ad as st H) {c i : Nat} {a dx : Addr} {gs gs' : List (Str × V)} {fs' : List (Str × T)} (ha : as[i]? = some a) (hi : i < st.length) (h1 : H a = some (.ins (ad.fn c) dx gs)) (h2 : H dx = some (.own a)) (h3 : dx ∈ as → False) (r : RepF K ad as H gs' fs') :
    Ab K ad as (st.set i (.ins c fs')) (upd H a (.ins (ad.fn c) dx gs')) ∧ Ext as H as (upd H a (.ins (ad.fn c) dx gs')) :=
  A.putO ha hi fun e => ⟨dx, gs', upd_same, by rw [upd_ne (ne_of h2 h1 (by intro z; cases z))]; exact h2, h3, r.ext e⟩
end

section
variable {X : Cx} {ad : Ad} {W : WX} {pos p apos cpos tpos : Pos} {o e value : Expr} {es : List Expr} {c : Nat} {f : Str}
/-! ### o.f -/
def mFld (c : Nat) (f : Str) (m : M T) : M T := fun ρ st => (m ρ st).bind fun x st1 => match insAt st1 c x with
  | some (_, fs) => match fs.lookup f with
    | some t => .ok t st1
    | none => .bad
  | none => .bad
theorem pm_fld {m : M T} (hc : Cls X.K (ad.fn c)) (hn : NoAttr X.K (ad.fn c) f) (h : PM X ad W e m) (hb : attributeBase e f X.env (eval e X.env) = eval e X.env := by rfl) : PM X ad W (.Attribute e f pos) (mFld c f m) :=
  peW (pe_fld h hb) fun σ H Q ⟨hd, ρ, as, st, A, E, q⟩ => ⟨hd, ρ, as, st, A, E, Post.step q fun x st1 as1 H1 vx A1 e1 r1 q1 => by
    split at q1
    · rename_i fs ei
      split at q1
      · rename_i t et
        obtain ⟨a, dx, gs, rfl, h2, h3, h4, h5, h6, h7⟩ := r1.ins A1 ei
        obtain ⟨v, h8, h9⟩ := h7.get et
        exact ⟨a, _, dx, gs, v, rfl, h4, hc, hn, h8, Post.at A1 h9 q1⟩
      · exact q1.elim
    · exact q1.elim⟩
/-! ### o.f = value -/
def sFld (c : Nat) (f : Str) (mo mv : M T) : SM := fun ρ st => RS.of (mv ρ st) ρ fun y st1 => RS.of (mo ρ st1) ρ fun x st2 => match insAt st2 c x with
  | some (i, fs) => if fs.length < 1000 then .nx ρ (st2.set i (.ins c (putT f y fs))) else .bad
  | none => .bad
theorem pms_fld {mo mv : M T} (hc : Cls X.K (ad.fn c)) (hn : NoAttr X.K (ad.fn c) f) (ho : PM X ad W o mo) (hv : PM X ad W value mv) (hs : swapsWith value (some (.Attribute o f tpos)) pos.line X.env = pure false := by rfl) :
    PMS X ad W (.Assign [.Attribute o f tpos] value pos) (sFld c f mo mv) :=
  psW (ps_fld ho hv hs) fun D σ H ⟨hd, ρ, as, st, A, E, q⟩ => ⟨hd, ρ, as, st, A, E, PostS.expr E q fun y st1 as1 H1 vy A1 e1 r1 q1 =>
    ⟨hd, ρ, as1, st1, A1, E.ext e1, PostS.expr (E.ext e1) q1 fun x st2 as2 H2 vx A2 e2 r2 q2 => by
      split at q2
      · rename_i i fs ei
        split at q2
        · rename_i hl
          obtain ⟨a, dx, gs, rfl, h2, h3, h4, h5, h6, h7⟩ := r2.ins A2 ei
          obtain ⟨B, ex⟩ := A2.putIns h2 h3 h4 h5 h6 (h7.put (f := f) (r1.ext e2))
          refine ⟨a, _, dx, gs, rfl, h4, hc, hn, by rw [h7.length]; exact hl, ?_⟩
          exact q2 as2 _ _ B ex (((E.ext e1).ext e2).ext ex)
        · exact q2.elim
      · exact q2.elim⟩⟩
/-! ### o.f += value: ints -/
def sFldAdd (c : Nat) (f : Str) (mo mv : M T) : SM := fun ρ st => RS.of (mo ρ st) ρ fun x st1 => match insAt st1 c x with
  | some (i, fs) => match fs.lookup f with
    | some (.int a) => RS.of (mv ρ st1) ρ fun y st2 => match y, insAt st2 c x with
      | .int b, some (i', fs') => if fs'.length < 1000 then .nx ρ (st2.set i' (.ins c (putT f (.int (a + b)) fs'))) else .bad
      | _, _ => .bad
    | _ => .bad
  | none => .bad
theorem pms_fldAdd {mo mv : M T} (hc : Cls X.K (ad.fn c)) (hn : NoAttr X.K (ad.fn c) f) (ho : PM X ad W o mo) (hv : PM X ad W value mv) :
    PMS X ad W (.AugAssign (.Attribute o f tpos) .Add value pos) (sFldAdd c f mo mv) :=
  psW (ps_fldaug ho hv in_add) fun D σ H ⟨hd, ρ, as, st, A, E, q⟩ => ⟨hd, ρ, as, st, A, E, PostS.expr E q fun x st1 as1 H1 vx A1 e1 r1 q1 => by
    split at q1
    · rename_i i fs ei
      split at q1
      · rename_i a0 el
        obtain ⟨a, dx, gs, rfl, h2, h3, h4, h5, h6, h7⟩ := r1.ins A1 ei
        obtain ⟨v, h8, h9⟩ := h7.get el
        refine ⟨a, _, dx, gs, v, rfl, h4, hc, hn, h8, hd, ρ, as1, st1, A1, E.ext e1, PostS.expr (E.ext e1) q1 fun y st2 as2 H2 vy A2 e2 r2 q2 => ?_⟩
        split at q2
        · rename_i b0 i' fs' ei'
          split at q2
          · rename_i hl
            obtain ⟨a', dx', gs', ev, g2, g3, g4, g5, g6, g7⟩ := (r1.ext e2).ins A2 ei'
            cases ev
            obtain ⟨B, ex⟩ := A2.putIns g2 g3 g4 g5 g6 (g7.put (f := f) (.int (a0 + b0)))
            refine ⟨a0, b0, h9.intI, r2.intI, dx', gs', g4, by rw [g7.length]; exact hl, ?_⟩
            exact q2 as2 _ _ B ex (((E.ext e1).ext e2).ext ex)
          · exact q2.elim
        · exact q2.elim
      · exact q1.elim
    · exact q1.elim⟩
/-! ### {}, a dict of the store; d[k] = v -/
def mDictS : M T := fun _ st => .ok (.ref st.length) (st ++ [.dct []])
theorem pm_dictS : PM X ad W (.Dict [] [] pos) mDictS :=
  peW pe_dnewK fun σ H Q ⟨hd, ρ, as, st, A, E, q⟩ p hp => by
    obtain ⟨B, ex, r⟩ := A.newO (u := .dK []) (o := .dct []) hp fun e => ⟨[], upd_same, rfl, .nil⟩
    exact q.to B ex r
def keyT : T → Option Key
  | .int i => some (.inl i)
  | .str s => some (.inr s)
  | _ => none
theorem keyT_rep {K : PySem.W.Frag} {as : List Addr} {H : Hp} {v : V} {t : T} {k : Key} (r : Rep K ad as H v t) (h : keyT t = some k) : v = kV k := by
  cases t <;> simp [keyT] at h
  · subst h; exact r.intI
  · subst h; exact r.strI
def dctAt (st : Sto) (t : T) : Option (Nat × List (Key × T)) := match t with
  | .ref i => match st[i]? with
    | some (.dct kvs) => some (i, kvs)
    | _ => none
  | _ => none
theorem Rep.dctAt {K : PySem.W.Frag} {as : List Addr} {H : Hp} {st : Sto} {i : Nat} {kvs : List (Key × T)} {v : V} {t : T} (A : Ab K ad as st H) (r : Rep K ad as H v t) (h : dctAt st t = some (i, kvs)) :
    ∃ a xs, v = .ref a ∧ as[i]? = some a ∧ i < st.length ∧ H a = some (.dK xs) ∧ xs.map (·.1) = kvs.map (·.1) ∧ Reps K ad as H (xs.map (·.2)) (kvs.map (·.2)) := by
  unfold Mi.dctAt at h
  split at h
  · split at h
    · rename_i e
      cases h
      obtain ⟨a, h2, xs, h3, h4, h5⟩ := A.get e
      cases r with
      | ref h7 =>
        rw [h2] at h7; cases h7
        exact ⟨_, xs, rfl, h2, (List.getElem?_eq_some_iff.mp e).1, h3, h4, h5⟩
    · cases h
  · cases h
def putKT (kvs : List (Key × T)) (k : Key) (v : T) : List (Key × T) :=
  if (kvs.any fun kv => decide (kv.1 = k)) = true then kvs.map (fun kv => if kv.1 = k then (kv.1, v) else kv) else kvs ++ [(k, v)]
theorem any_keys {α β : Type} (k : Key) : ∀ {xs : List (Key × α)} {ys : List (Key × β)}, xs.map (·.1) = ys.map (·.1) → (xs.any fun kv => decide (kv.1 = k)) = (ys.any fun kv => decide (kv.1 = k))
  | [], [], _ => rfl
  | x :: xs, y :: ys, h => by
    simp only [List.map_cons, List.cons.injEq] at h
    rw [List.any_cons, List.any_cons, h.1, any_keys k h.2]
  | [], _ :: _, h => by simp at h
  | _ :: _, [], h => by simp at h
theorem map_put {K : PySem.W.Frag} {as : List Addr} {H : Hp} {k : Key} {v : V} {t : T} (r : Rep K ad as H v t) : ∀ {xs : List (Key × V)} {ys : List (Key × T)}, xs.map (·.1) = ys.map (·.1) → Reps K ad as H (xs.map (·.2)) (ys.map (·.2)) →
    (xs.map fun kv => if kv.1 = k then (kv.1, v) else kv).map (·.1) = (ys.map fun kv => if kv.1 = k then (kv.1, t) else kv).map (·.1) ∧
      Reps K ad as H ((xs.map fun kv => if kv.1 = k then (kv.1, v) else kv).map (·.2)) ((ys.map fun kv => if kv.1 = k then (kv.1, t) else kv).map (·.2))
  | [], [], _, _ => ⟨rfl, .nil⟩
  | x :: xs, y :: ys, h, q => by
    simp only [List.map_cons, List.cons.injEq] at h q ⊢
    cases q with
    | cons q1 q2 =>
      obtain ⟨g1, g2⟩ := map_put r h.2 q2
      rw [h.1]
      by_cases e : y.1 = k
      · rw [if_pos e, if_pos e]
        exact ⟨⟨rfl, g1⟩, .cons r g2⟩
      · rw [if_neg e, if_neg e]
        exact ⟨⟨h.1, g1⟩, .cons q1 g2⟩
  | [], _ :: _, h, _ => by simp at h
  | _ :: _, [], h, _ => by simp at h
theorem putK_rep {K : PySem.W.Frag} {as : List Addr} {H : Hp} {k : Key} {v : V} {t : T} (r : Rep K ad as H v t) {xs : List (Key × V)} {ys : List (Key × T)} (h : xs.map (·.1) = ys.map (·.1)) (q : Reps K ad as H (xs.map (·.2)) (ys.map (·.2))) :
    (putK xs k v).map (·.1) = (putKT ys k t).map (·.1) ∧ Reps K ad as H ((putK xs k v).map (·.2)) ((putKT ys k t).map (·.2)) := by
  unfold putK putKT
  rw [any_keys k h]
  split
  · exact map_put r h q
  · simp only [List.map_append, List.map_cons, List.map_nil]
    exact ⟨by rw [h], q.append (.cons r .nil)⟩
def sDPut (mo mi mv : M T) : SM := fun ρ st => RS.of (mv ρ st) ρ fun v st1 => RS.of (mo ρ st1) ρ fun x st2 => RS.of (mi ρ st2) ρ fun y st3 => match dctAt st3 x, keyT y with
  | some (i, kvs), some k => if kvs.length < sizeLine then .nx ρ (st3.set i (.dct (putKT kvs k v))) else .bad
  | _, _ => .bad
theorem pms_dput {mo mi mv : M T} {i : Expr} (hu : X.A.units + 1 < cLine) (ho : PM X ad W o mo) (hi : PM X ad W i mi) (hv : PM X ad W value mv) (hs : swapsWith value (some (.Subscript o i tpos)) pos.line X.env = pure false := by rfl) :
    PMS X ad W (.Assign [.Subscript o i tpos] value pos) (sDPut mo mi mv) :=
  psW (ps_dput hu ho hi hv hs) fun D σ H ⟨hd, ρ, as, st, A, E, q⟩ => ⟨hd, ρ, as, st, A, E, PostS.expr E q fun v st1 as1 H1 vv A1 e1 r1 q1 =>
    ⟨hd, ρ, as1, st1, A1, E.ext e1, PostS.expr (E.ext e1) q1 fun x st2 as2 H2 vx A2 e2 r2 q2 =>
      ⟨hd, ρ, as2, st2, A2, (E.ext e1).ext e2, PostS.expr ((E.ext e1).ext e2) q2 fun y st3 as3 H3 vy A3 e3 r3 q3 => by
        split at q3
        · rename_i i kvs k ei ek
          split at q3
          · rename_i hl
            obtain ⟨a, xs, rfl, h2, h3, h4, h5, h6⟩ := (r2.ext e3).dctAt A3 ei
            obtain rfl := keyT_rep r3 ek
            obtain ⟨g1, g2⟩ := putK_rep (k := k) ((r1.ext e2).ext e3) h5 h6
            obtain ⟨B, ex⟩ := A3.putO (u := .dK (putK xs k vv)) (o := .dct (putKT kvs k v)) h2 h3 fun e => ⟨_, upd_same, g1, g2.ext e⟩
            have hlen : xs.length = kvs.length := by
              have := congrArg List.length h5
              simpa using this
            exact ⟨a, _, rfl, .k h4 (by rw [hlen]; exact hl), q3 as3 _ _ B ex ((((E.ext e1).ext e2).ext e3).ext ex)⟩
          · exact q3.elim
        · exact q3.elim⟩⟩⟩
/-! ### C(..), o.m(..) -/
variable {k n : Nat} {fa : Addr} {fd : FuncData} {ps : List Str} {F : List T → Sto → R T} {x m : Str}
theorem GnOk.up {P : Program} {w : World} {K : PySem.W.Frag} {mg : Str → Option Value} {base : Heap} {fa : Addr} {fd : FuncData} {ps : List Str} {sp : Sp} {k : Nat} (G : GnOk P w K mg base k fa fd ps sp) : GnOk P w K mg base (k + 1) fa fd ps sp := G.mono (Nat.le_succ _)
def mMake (n c : Nat) (F : List T → Sto → R T) (m : M (List T)) : M T := fun ρ st => (m ρ st).bind fun ts st1 => if ts.length + 1 = n then (F (.ref st1.length :: ts) (st1 ++ [.ins c []])).bind fun r st2 => match r with
  | .non => .ok (.ref st1.length) st2
  | _ => .bad else .bad
theorem run_gmake {sp : Sp} {pins : List (Addr × PySem.Obj)} {σ : St} {H : Hp} {s : Shared} {Q : VK} {us : List Value} {vs : List V} {C : Addr} (M : Mk X.K C fa) (G : GnOk X.prog X.w X.K X.mg X.base k fa fd ps sp) (S : Sit X W (k + 1)) (hb : Binds X.K fd ps []) (I : Inv X pins σ H s) (r : Vals vs us)
    (h : ∀ x dx, H x = none → H dx = none → dx ≠ x → sp (.ref x :: vs) (upd (upd H dx (.own x)) x (.ins C dx [])) (fun v H2 => v = .non ∧ Q (.ref x) H2) fun u d H' => W u d σ H') :
    wpAny (model X.prog X.w) X.A (call (.ref C) us) (EP X pins σ Q) X.xe s := by
  have hq := h (s.heap.objs.size + 1) s.heap.objs.size (I.hok.fresh (Nat.le_succ _)) (I.hok.fresh (Nat.le_refl _)) (Nat.ne_of_lt (Nat.lt_succ_self _))
  have I2 := Inv.made (C := C) I
  have r2 : Vals (V.ref (s.heap.objs.size + 1) :: vs) (Value.ref (s.heap.objs.size + 1) :: us) := .cons rfl r
  have hl : (Value.ref (s.heap.objs.size + 1) :: us).length = ps.length := by
    have e := r2.length
    rw [G.len _ _ _ _ hq] at e
    exact e.symm
  have bb := hb _ (Value.ref (s.heap.objs.size + 1) :: us) I2.kIn (by simpa using hl)
  rw [List.append_nil] at bb
  have hgd : (X.A.under (.builtin "type.__call__" ⟨.ref C :: us, []⟩)).guards = some [] := by
    have := S.gd
    first | exact this | simpa [Around.under, Code.weight, Code.isCreation, Code.isGuard, Code.isCaller, Code.frames, Code.isFrame, guardIds] using this
  refine wpAny_call (make_map (f := fa) I.kIn M.makes M.init (beq_iff_eq.mp M.fn) (codeAny_mono (G.run _ X.stack _ _ ⟨Value.ref (s.heap.objs.size + 1) :: us, []⟩ (Value.ref (s.heap.objs.size + 1) :: us) _ _ _ (S.rm.make C us [])
    hgd (I2.env0.make C us []) bb r2 hq) fun r s' hq' => ?_))
  cases r with
  | error e => exact S.tk e s' (XE.of_call I2 (fun _ _ _ z => z) hq')
  | ok fl =>
    cases fl with
    | ret u =>
      obtain ⟨v, H', I3, rv, ev, q3⟩ := I2.after hq'
      subst ev
      exact ⟨rv, ⟨V.ref (s.heap.objs.size + 1), H', I3, rfl, q3⟩⟩
    | next => exact False.elim hq'
    | brk => exact False.elim hq'
    | cont => exact False.elim hq'
theorem pm_make {mm : M (List T)} (M : Mk X.K (ad.fn c) fa) (G : GnOk X.prog X.w X.K X.mg X.base k fa fd ps (spF X.K ad n F)) (S : Sit X W (k + 1)) (hg : Gl X x) (hm : X.mg x = some (.ref (ad.fn c))) (hb : Binds X.K fd ps [])
    (ha : PMA X ad W (e :: es) mm) (hdb : (x == ("__debug__" : Str)) = false := by decide) (he : starEach (e :: es) X.env = (false, eval e X.env) :: starEach es X.env := by rfl) (hpl : (backTo pos (starEach es X.env)).any (·.1) = false := by rfl) :
    PM X ad W (.Call (.Name x p) (e :: es) [] pos) (mMake n c F mm) := by
  refine ⟨fun pins s σ H Q I ⟨hd, ρ, as, st, A, E, q⟩ => wpAny_Call_Name_kw (ld_glob I hg hm ?_ hdb)⟩
  refine PySem.W.callWith_K (h₀ := X.base) I.ok.mod.kin M.kp (thn (ha.run pos pins s σ H _ I ⟨hd, ρ, as, st, A, E, Post.step (Q := fun vs H1 => ∀ x dx, H1 x = none → H1 dx = none → dx ≠ x → spF X.K ad n F (.ref x :: vs) (upd (upd H1 dx (.own x)) x (.ins (ad.fn c) dx [])) (fun v H2 => v = .non ∧ Q (.ref x) H2) fun u d H' => W u d σ H') q fun ts st1 as1 H1 vs A1 e1 r1 q1 => ?_⟩) fun us s1 ⟨vs, H1, I1, r, q⟩ => ⟨I1.kIn, ?_⟩) he hpl
  · intro x dx hx hdx hne
    split at q1
    · rename_i hn
      have hx' : (upd H1 dx (.own x)) x = none := by rw [upd_ne (Ne.symm hne)]; exact hx
      have A2 : Ab X.K (ad.hide hd) as1 st1 (upd H1 dx (.own x)) := A1.fresh hdx
      obtain ⟨B, ex, rx⟩ := A2.newO (u := .ins (ad.fn c) dx []) (o := .ins c []) hx' fun e => ⟨dx, [], upd_same, by rw [upd_ne hne, upd_same], fun hmem => by
        rcases List.mem_append.mp hmem with hm | hm
        · exact A1.nin hdx hm
        · simp at hm; exact hne hm, .nil⟩
      have ext2 := (Ext.fresh (as := as1) (o := .own x) hdx).trans ex
      refine ⟨by rw [List.length_cons, r1.length]; exact hn, hd, _, _, _, B, .cons rx (r1.ext ext2), ?_⟩
      have q2 := Post.ext ext2 q1
      revert q2
      cases F (.ref st1.length :: ts) (st1 ++ [.ins c []]) with
      | ok t st2 =>
        intro q2 as3 H3 v A3 e3 r3
        cases t <;> try exact q2.elim
        exact ⟨r3.nonI, q2 as3 H3 _ A3 e3 (rx.ext e3)⟩
      | exc y st2 => exact fun q2 => q2
      | bad => exact fun q2 => q2
    · exact q1.elim
  · exact run_gmake M G S hb I1 r q
def mMethO (c n : Nat) (m : Str) (F : List T → Sto → R T) (mo : M T) (ma : M (List T)) : M T := fun ρ st => (mo ρ st).bind fun x st1 => match insAt st1 c x with
  | some (_, fs) => match fs.lookup m with
    | some _ => .bad
    | none => (ma ρ st1).bind fun ts st2 => if ts.length + 1 = n then F (x :: ts) st2 else .bad
  | none => .bad
theorem pm_methO {pl : Sem Bool} {mo : M T} {ma : M (List T)} (ho : PM X ad W o mo) (hc : Cls X.K (ad.fn c)) (hm : Meth X.K (ad.fn c) m fa) (G : GnOk X.prog X.w X.K X.mg X.base k fa fd ps (spF X.K ad n F)) (S : Sit X W k) (hb : Binds X.K fd ps [])
    (ha : PMA X ad W (e :: es) ma) (hst : starEach (e :: es) X.env = (false, eval e X.env) :: starEach es X.env := by rfl) (hpl : (backTo pos (starEach es X.env)).any (·.1) = false := by rfl)
    (ht : eval (.Call (.Attribute o m apos) (e :: es) [] pos) X.env = (do
      let ov ← eval o X.env
      standAt apos.atName
      let (f, first) ← holding [ov] (getMethod ov m pl)
      callWith pos f first (backTo pos (starEach (e :: es) X.env)) (backToKw pos (keywordEach [] X.env))) := by rfl) :
    PM X ad W (.Call (.Attribute o m apos) (e :: es) [] pos) (mMethO c n m F mo ma) := by
  refine ⟨fun pins s σ H Q I ⟨hd, ρ, as, st, A, E, q⟩ => ?_⟩
  refine PySem.W.methodCall_KW (pl := pl) (thn (ho.run pins s σ H (fun vx H1 => ∃ a dx fs, vx = .ref a ∧ H1 a = some (.ins (ad.fn c) dx fs) ∧ fs.lookup m = none ∧ tM X.K ad (Reps X.K) W (fun ρ st => (ma ρ st)) σ H1 fun vs H2 => spF X.K ad n F (.ref a :: vs) H2 Q fun u d H' => W u d σ H') I
    ⟨hd, ρ, as, st, A, E, Post.step q fun x st1 as1 H1 vx A1 e1 r1 q1 => ?_⟩) fun u s1 ⟨vx, H1, I1, rx, a, dx, fs, ex, ea, l, q1⟩ => ?_) ht
  · split at q1
    · rename_i fs ei
      split at q1
      · exact q1.elim
      · rename_i el
        obtain ⟨a, dx, gs, rfl, h2, h3, h4, h5, h6, h7⟩ := r1.ins A1 ei
        refine ⟨a, dx, gs, rfl, h4, h7.none el, hd, ρ, as1, st1, A1, E.ext e1, Post.step q1 fun ts st2 as2 H2 vs A2 e2 r2 q2 => ?_⟩
        split at q2
        · rename_i hn
          exact ⟨by rw [List.length_cons, r2.length]; exact hn, hd, as2, st2, _, A2, .cons (r1.ext e2) r2, q2⟩
        · exact q2.elim
    · exact q1.elim
  · subst ex
    obtain rfl : u = Value.ref a := rx
    refine getmeth_ok I1 ea hc hm l ?_
    refine PySem.W.callWith_K (first := [.ref a]) (h₀ := X.base) I.ok.mod.kin hm.kp (thn (ha.run pos pins s1 σ H1 _ I1 q1) fun us s2 ⟨vs, H2, I2, r, q2⟩ => ⟨I2.kIn, ?_⟩) hst hpl
    exact run_gn (us := .ref a :: us) (vs := .ref a :: vs) G S hb I2 (.cons rfl r) q2
end
end Mi

/-! MiEnum: enumerate of a list or a tuple that stands. -/
namespace Mi
open PySem L2 PySem.Spec PyProof.Rows
theorem meets_enumB (t : Bool) (l : Addr) (xs : Array Value) :
    Meets (Builtin.«enumerate.__new__» ⟨[.type "enumerate", .ref l], []⟩) (fun _ R s => SeqB s.heap t l xs ∧
      R (.ok (.ret (.ref (s.heap.push (itObj t l)).objs.size))) { s with heap := (s.heap.push (itObj t l)).push { cls := .type "enumerate", data := .fields #[.none, .bool false, .ref s.heap.objs.size, rawInt 0, .none, .none] } }) :=
  .of_wp fun prog w A R s h => by
    obtain ⟨hp, g, d, tk, os⟩ := s; obtain ⟨h1, h⟩ := h
    have hsub := sub_enumerate
    have q1 : ∀ {A' : Around} {E : Value → Shared → Prop} {Q : Value → Shared → Prop}, Q (.ref hp.objs.size) ⟨hp.push (itObj t l), g, d, tk, os⟩ → wpAny (model prog w) A' (pyIter (.ref l)) Q E ⟨hp, g, d, tk, os⟩ :=
      fun q => iter_B (s := ⟨hp, g, d, tk, os⟩) h1 q
    obtain ⟨o, ho, hc, hd⟩ : ∃ o, Heap.get? hp l = some o ∧ (∃ n, o.data = .seq xs n) ∧ o.cls = .type (bif t then "tuple" else "list") := by
      cases t
      · obtain ⟨o, e, c, n, d⟩ := h1; exact ⟨o, e, ⟨n, d⟩, c⟩
      · obtain ⟨o, e, c, n, d⟩ := h1; exact ⟨o, e, ⟨n, d⟩, c⟩
    wp_walk using q1
    refine wpAny_stack_any fun st => wpAny_pure ?_
    split
    · rename_i c _ _ _ _ _
      cases (c == Value.type "enumerate")
      · wp_walk using q1
        exact ⟨_, rfl, h⟩
      · wp_walk using q1
        exact ⟨_, rfl, h⟩
    · wp_walk using q1
      exact ⟨_, rfl, h⟩
section
variable {prog : Program} {w : World} {A : PySem.Around} {E : Value → Shared → Prop} {s : Shared}
theorem call_enumB {t : Bool} {l : Addr} {xs : Array Value} {Q : Value → Shared → Prop} (hl : SeqB s.heap t l xs)
    (h : ∀ h', IsEnum h' (s.heap.objs.size + 1) s.heap.objs.size 0 .none → ItO h' t s.heap.objs.size l 0 → h'.objs.size = s.heap.objs.size + 2 →
      (∀ b o, s.heap.get? b = some o → h'.get? b = some o) → Q (.ref (s.heap.objs.size + 1)) { s with heap := h' }) :
    wpAny (model prog w) A (call (.type "enumerate") [.ref l]) Q E s := by
  refine callType_new PySem.F.called_enumerate (by decide) (PySem.F.typeCall_enumerate_1 _) (PySem.F.newCall_enumerate_1 _) (fun obj => PySem.F.args_object_init_2 obj _) PySem.F.entry_enumerate_new
    (meets_enumB t l xs) ⟨hl, ?_⟩
  have hz : (s.heap.push (itObj t l)).objs.size = s.heap.objs.size + 1 := Heap.size_push ..
  show _ ∧ _
  rw [hz]
  have he : IsEnum ((s.heap.push (itObj t l)).push { cls := .type "enumerate", data := .fields #[.none, .bool false, .ref s.heap.objs.size, rawInt 0, .none, .none] }) (s.heap.objs.size + 1) s.heap.objs.size 0 .none := by
    have := Heap.get?_push_size (s.heap.push (itObj t l)) (o := { cls := .type "enumerate", data := .fields #[.none, .bool false, .ref s.heap.objs.size, rawInt 0, .none, .none] }) rfl
    rw [hz] at this; exact this
  have hit : ((s.heap.push (itObj t l)).push { cls := .type "enumerate", data := .fields #[.none, .bool false, .ref s.heap.objs.size, rawInt 0, .none, .none] }).get? s.heap.objs.size = some (itObj t l) := Heap.get?_push_of_some _ (Heap.get?_push_size _ rfl)
  refine ⟨⟨_, he, rfl⟩, h _ he ?_ (by rw [Heap.size_push, hz]) fun b o x => Heap.get?_push_of_some _ (Heap.get?_push_of_some _ x)⟩
  cases t
  · exact ⟨_, hit, rfl, rfl⟩
  · exact ⟨_, hit, rfl, rfl⟩
end
def DrB (t : Bool) (it l : Addr) (xs : Array Value) (m j : Nat) (h : Heap) : Prop := (j < xs.size → ItO h t it l j) ∧ (xs.size ≤ j → ItO h t it l j ∨ ItO h t it l m) ∧ SeqB h t l xs
theorem drawsB {prog : Program} {w : World} {A : PySem.Around} (hh : A.handled = none) (t : Bool) (it l : Addr) (hne : l ≠ it) (xs : Array Value) (m : Nat) (hm : xs.size ≤ m) :
    Draws prog w A it [it, l] xs.size (fun i v => xs[i]? = some v) (DrB t it l xs m) where
  live := fun j _ ⟨h1, h2, _⟩ => by
    have key : ∀ {h : Heap} {n}, ItO h t it l n → ∃ o, h.get? it = some o := fun q => let ⟨o, ho, _⟩ := q.obj; ⟨o, ho⟩
    rcases Nat.lt_or_ge j xs.size with hj | hj
    · exact key (h1 hj)
    · exact (h2 hj).elim key key
  frame := fun _ _ _ ⟨h1, h2, sq⟩ hk => ⟨fun h => (h1 h).ext fun o e => hk it (by simp) o e, fun h => (h2 h).imp (fun q => q.ext fun o e => hk it (by simp) o e) (fun q => q.ext fun o e => hk it (by simp) o e), sq.ext fun o e => hk l (by simp) o e⟩
  item := fun i s Q E hi ⟨h1, h2, sq⟩ hQ => by
    refine nextOf_A ((h1 hi).a sq) hne (x := xs[i]) (by simp [hi]) fun h' hit' hs' => ?_
    have sq := sq.ext fun o e => hs'.extBut _ _ hne e
    exact hQ _ h' s.toks (by simp [hi]) ⟨fun _ => hit'.o sq, fun _ => .inl (hit'.o sq), sq⟩ hs'
  done := fun s Q E ⟨h1, h2, sq⟩ hE => by
    rcases h2 (Nat.le_refl _) with q | q
    · exact nextOf_A_end hh (q.a sq) (by simp) hE
    · exact nextOf_A_end hh (q.a sq) (by simpa using hm) hE
/-- the sequence at a as it stands at each turn, its items with their places in new pairs -/
def IteB (K : PySem.W.Frag) (t : Bool) (a : Addr) : It :=
  ⟨fun i H => ∃ (xs : List V) (x : V), SqB K t H a xs ∧ xs[i]? = some x, fun i H v H' => ∃ T x, v = .ref T ∧ H T = none ∧ H' = upd H T (.tup [.int (i : Nat), x]) ∧ ∀ xs, SqB K t H a xs → xs[i]? = some x, fun i H => ∃ xs : List V, SqB K t H a xs ∧ xs.length ≤ i⟩
theorem turn_enumB {P : Program} {w : World} {K : PySem.W.Frag} {elts : List Expr} {kk : Nat} {tpos : Pos} {t : Bool} (a e it : Addr) (hae : a ≠ e) (hai : a ≠ it) :
    Turn P w K (.Tuple elts kk tpos) (IteB K t a) [e, it] e (fun i h => (∃ old, IsEnum h e it ((i : Nat) : Int) old) ∧ ItO h t it a i ∧ e ≠ it) where
  mem := by simp
  obj := fun i h st b hb => by
    obtain ⟨⟨old, he⟩, hi, _⟩ := st
    have e' : b = e ∨ b = it := by simpa using hb
    rcases e' with z | z
    · rw [z]; exact ⟨_, he, fun v q => nomatch q⟩
    · rw [z]; exact hi.obj
  keep := fun i h h' st k => let ⟨⟨old, he⟩, hi, hne⟩ := st; ⟨⟨old, k e (by simp) _ he⟩, hi.ext fun o q => k it (by simp) o q, hne⟩
  item := by
    intro X hP hw hK hc i pins s σ H E I hf st hg
    subst hP hw hK
    obtain ⟨⟨old, he⟩, hit, hne⟩ := st
    obtain ⟨xs, x, hq, hx⟩ := hg
    obtain ⟨its, rv, p, _⟩ := SqB.real I hq
    obtain ⟨u, hu, ru⟩ := rv.get hx
    have hel : e < s.heap.objs.size := Heap.lt_size he
    have hil : it < s.heap.objs.size := by obtain ⟨_, q, _⟩ := hit.obj; exact Heap.lt_size q
    have hlt : i < its.toArray.size := by
      have := (List.getElem?_eq_some_iff.mp hu).1
      simpa using this
    refine wpAny_pyNext_enum_itemD (drawsB (A := X.A.in1) (show X.A.in1.handled = none from I.ok.hd hc) t it a hai its.toArray its.toArray.size (Nat.le_refl _)) he ⟨fun _ => hit, fun _ => .inl hit, p⟩ hlt hne (by simp [hne, Ne.symm hae]) fun x' h' tk hx' ho hs' hT hsz hk => ?_
    obtain ⟨hm1, hm2, hs2⟩ := hs'
    have hs3 : ItO h' t it a (i + 1) := by
      rcases Nat.lt_or_ge (i + 1) its.toArray.size with hj | hj
      · exact hm1 hj
      · have e : its.toArray.size = i + 1 := by omega
        rcases hm2 hj with q | q
        · exact q
        · rw [e] at q; exact q
    have ex : x' = u := by
      have h1 : its.toArray[i]? = some x' := hx'
      have h2 : its.toArray[i]? = some u := by simpa using hu
      rw [h1] at h2; cases h2; rfl
    subst ex
    refine ⟨_, rfl, wpAny_letOwnedTupleGo_enum (s := { s with heap := h', toks := tk + 1 }) ho fun h'' he' sb => ?_⟩
    have hT2 : h''.get? s.heap.objs.size = some { cls := .type "tuple", data := .seq #[.int i tk, x'] } := (sb.2 _ (Nat.ne_of_gt hel)).trans hT
    have new : ObjOk X.prog X.w (upd H s.heap.objs.size (.tup [.int (i : Nat), x])) h'' s.heap.objs.size (.tup [.int (i : Nat), x]) :=
      ⟨by show 2 ≤ sizeLine; decide, [.int i tk, x'], .cons ⟨_, rfl⟩ (.cons ru .nil), ⟨_, hT2, rfl, _, rfl⟩⟩
    have I1 : Inv X pins σ (upd H s.heap.objs.size (.tup [.int (i : Nat), x])) { s with heap := h'', toks := tk + 1 } :=
      I.turnedNew (ch := [e, it]) (fun b ob hb q => (sb.2 b (fun z => hb (by simp [z]))).trans (hk b ob (fun z => hb (by simp [z])) (fun z => hb (by simp [z])) q)) hf (Nat.le_refl _) new
    refine ⟨.ref s.heap.objs.size, _, I1, rfl, ⟨_, x, rfl, I.hok.fresh (Nat.le_refl _), rfl, fun ys hy => by rw [SqB.inj I hy hq]; exact hx⟩, ⟨⟨x', ?_⟩, hs3.ext fun o q => (sb.2 it (Ne.symm hne)).trans q, hne⟩, fun b hb => ?_⟩
    · have e1 : ((i + 1 : Nat) : Int) = (i : Int) + 1 := by omega
      rw [e1]; exact he'
    · have hb' : b < s.heap.objs.size := by
        have e' : b = e ∨ b = it := by simpa using hb
        rcases e' with z | z
        · rw [z]; exact hel
        · rw [z]; exact hil
      rw [upd_ne (Nat.ne_of_lt hb')]
      exact (hf b hb).1
  done := by
    intro X hP hw hK hc i pins s σ H E I hf st hg
    subst hP hw hK
    obtain ⟨⟨old, he⟩, hit, hne⟩ := st
    obtain ⟨xs, hq, hx⟩ := hg
    obtain ⟨its, rv, p, _⟩ := SqB.real I hq
    obtain ⟨f0, f1, f2, f3, f4, f5⟩ := hf it (by simp)
    have hl := rv.length
    exact wpAny_pyNext_enum_endD (drawsB (A := X.A.in1) (show X.A.in1.handled = none from I.ok.hd hc) t it a hai its.toArray i (by simp; omega)) he ⟨fun h => absurd h (Nat.lt_irrefl _), fun _ => .inr hit, p⟩ fun h' eb => ⟨rfl, I.turned (t' := s.toks) (fun b o hb q => eb b o hb q) f0 f1 f3 f4 f5⟩
  self := fun A i s Q E st h => let ⟨⟨_, he⟩, _⟩ := st; wpAny_pyIter_enum he h
def iEnumB (K : PySem.W.Frag) (ta : TA) : TI := fun σ H R => ta σ H fun vs H1 => ∃ a xs t, vs = [.ref a] ∧ SqB K t H1 a xs ∧ R (IteB K t a) H1
theorem pi_enumB {X : Cx} {e : Expr} {ta : TA} {p pos tpos : Pos} {elts : List Expr} {kk : Nat} (hg : Gl X "enumerate") (hm : X.mg "enumerate" = none) (ha : PA X [e] ta) (hs : starEach [e] X.env = [(false, eval e X.env)] := by rfl) :
    PI X (.Tuple elts kk tpos) (.Call (.Name "enumerate" p) [e] [] pos) (iEnumB X.K ta) := by
  refine ⟨fun pins s σ H R I h => ?_⟩
  refine Call_ (ld_blt I hg hm boot_enumerate (PyProof.Rows.callWith_type1 (thn (ha.run pos pins s σ H _ I h) fun us s1 ⟨vs, H1, I1, r1, q1⟩ => ?_) hs rfl))
  obtain ⟨a, xs, t, ex, hq, q⟩ := q1
  subst ex
  cases r1 with
  | cons r rr =>
    cases rr
    cases r
    obtain ⟨its, rv, p', hlt⟩ := SqB.real I1 hq
    refine call_enumB p' fun h' he hit hsz hk => wpAny_pyIter_enum he ?_
    have I2 : Inv X pins σ H1 { s1 with heap := h' } := I1.kept (t' := s1.toks) hk
    refine ⟨s1.heap.objs.size + 1, [s1.heap.objs.size + 1, s1.heap.objs.size], _, _, H1, rfl, I2, turn_enumB a (s1.heap.objs.size + 1) s1.heap.objs.size (Nat.ne_of_lt (Nat.lt_succ_of_lt hlt)) (Nat.ne_of_lt hlt), ⟨⟨.none, he⟩, hit, Nat.succ_ne_self _⟩, fun b hb => ?_, q⟩
    have e' : b = s1.heap.objs.size + 1 ∨ b = s1.heap.objs.size := by simpa using hb
    have hle : s1.heap.objs.size ≤ b := by
      rcases e' with z | z
      · rw [z]; exact Nat.le_add_right _ _
      · rw [z]; exact Nat.le_refl _
    exact I1.fpOk hle (I1.hok.fresh hle)
/-! ### the mirror -/
def enumT (i : Nat) : List T → List T
  | [] => []
  | t :: ts => .tup [.int (i : Nat), t] :: enumT (i + 1) ts
theorem enumT_get : ∀ (ts : List T) (j i : Nat), (enumT j ts)[i]? = (ts[i]?).map fun t => T.tup [.int ((j + i : Nat) : Int), t]
  | [], j, i => by simp [enumT]
  | t :: ts, j, 0 => by simp [enumT]
  | t :: ts, j, i + 1 => by
    have e : j + 1 + i = j + (i + 1) := by omega
    simp only [enumT, List.getElem?_cons_succ, enumT_get ts (j + 1) i, e]
/-- a list of the store, as it is at each turn -/
def enumAt (r : Nat) (st : Sto) (i : Nat) : Option (Option T) := match st[r]? with
  | some (.lst ts) => some ((ts[i]?).map fun t => .tup [.int (i : Nat), t])
  | _ => none
def itEnum1 (x : T) (st : Sto) : R Wk := match atS st x with
  | some (r, ts) => .ok (.dyn (ts.length + 1) (enumAt r)) st
  | none => .bad
def itEnum (ts : List T) (st : Sto) : R Wk := match ts with
  | [x] => match seqF x with
    | some xs => .ok (.seq (enumT 0 xs)) st
    | none => itEnum1 x st
  | _ => .bad
def mEnum (m : M (List T)) : M Wk := fun ρ st => (m ρ st).bind itEnum
theorem itOk_enum {K : PySem.W.Frag} {ad : Ad} {as : List Addr} {H : Hp} {t1 : Bool} {a : Addr} {xs : List V} {ts : List T} (h1 : ∀ as' H', Ext as H as' H' → SqB K t1 H' a xs) (r1 : Reps K ad as H xs ts) : ItOk K ad (IteB K t1 a) as H (.seq (enumT 0 ts)) := fun hd hh i as1 st1 H1 A e => by
  have l1 := r1.length
  rw [enumT_get]
  cases et : ts[i]? with
  | none => exact ⟨xs, h1 _ _ e, by have := List.getElem?_eq_none_iff.mp et; omega⟩
  | some t =>
    obtain ⟨x, g1, g2⟩ := r1.get et
    refine ⟨⟨xs, x, h1 _ _ e, g1⟩, fun v H' ⟨p, x', ev, hp, eH, f1⟩ => ?_⟩
    subst ev; subst eH
    have q1 := f1 xs (h1 _ _ e)
    rw [g1] at q1; cases q1
    refine ⟨A.fresh hp, Ext.fresh hp, ?_⟩
    rw [Nat.zero_add]
    exact rep_newTup A hp (.cons (.int _) (.cons (g2.extH e hh) .nil))
theorem itOk_enumAt {K : PySem.W.Frag} {ad : Ad} {as : List Addr} {H : Hp} {a : Addr} {r n : Nat} (h : as[r]? = some a) : ItOk K ad (IteB K false a) as H (.dyn n (enumAt r)) := fun hd hh i as1 st1 H1 A e z hz => by
  unfold enumAt at hz
  split at hz
  · rename_i ts hs
    cases hz
    obtain ⟨b, h2, xs, h3, h4⟩ := A.get hs
    rw [e.get h] at h2; cases h2
    have l1 := h4.length
    cases et : ts[i]? with
    | none => exact ⟨xs, SqL.of h3, by have := List.getElem?_eq_none_iff.mp et; omega⟩
    | some t =>
      obtain ⟨x, g1, g2⟩ := h4.get et
      refine ⟨⟨xs, x, SqL.of h3, g1⟩, fun v H' ⟨p, x', ev, hp, eH, f1⟩ => ?_⟩
      subst ev; subst eH
      have q1 := f1 xs (SqL.of h3)
      rw [g1] at q1; cases q1
      exact ⟨A.fresh hp, Ext.fresh hp, rep_newTup A hp (.cons (.int _) (.cons g2 .nil))⟩
  · cases hz
theorem tEnum {X : Cx} {ad : Ad} {W : WX} {m : M (List T)} : ∀ σ H R, tI X.K ad W (mEnum m) σ H R → iEnumB X.K (tM X.K ad (Reps X.K) W m) σ H R := fun σ H R ⟨hd, ρ, as, st, A, E, q⟩ =>
  ⟨hd, ρ, as, st, A, E, Post.step q fun ts st1 as1 H1 vs A1 e1 r1 q1 => by
    unfold itEnum at q1
    split at q1
    · split at q1
      · rename_i h1
        obtain ⟨v, rfl, rv⟩ := r1.one
        obtain ⟨t1, a, xs, rfl, s1, p1⟩ := rv.seqF h1
        exact ⟨a, xs, t1, rfl, s1 _ _ Ext.refl, Post.at A1 (itOk_enum s1 p1) q1⟩
      · obtain ⟨v, rfl, rv⟩ := r1.one
        unfold itEnum1 at q1
        split at q1
        · rename_i h1
          obtain ⟨a, xs, rfl, g1, g2, g3, g4⟩ := rv.atS A1 h1
          exact ⟨a, xs, false, rfl, SqL.of g3, Post.at A1 (itOk_enumAt g1) q1⟩
        · exact q1.elim
    · exact q1.elim⟩
theorem pmi_enum {X : Cx} {ad : Ad} {W : WX} {e : Expr} {m : M (List T)} {p pos tpos : Pos} {elts : List Expr} {kk : Nat} (hg : Gl X "enumerate") (hm : X.mg "enumerate" = none) (ha : PMA X ad W [e] m) (hs : starEach [e] X.env = [(false, eval e X.env)] := by rfl) :
    PMI X ad W (.Tuple elts kk tpos) (.Call (.Name "enumerate" p) [e] [] pos) (mEnum m) := piW (pi_enumB hg hm ha hs) tEnum
@[simp] theorem Ok_enum {E : Exn → Sto → Prop} {ρ : Sl} {y0 : Option T} {st : Sto} {Q : Wk → Sto → Prop} (m : M (List T)) : Ok (mEnum m (y0 :: ρ) st) Q E ↔ Ok (m (y0 :: ρ) st) (fun ts st1 => Ok (itEnum ts st1) Q E) E := by unfold mEnum; simp only [Ok_bind]
@[simp] theorem Ok_itEnT {E : Exn → Sto → Prop} {st : Sto} {Q : Wk → Sto → Prop} (ts : List T) : Ok (itEnum [.tup ts] st) Q E ↔ Q (.seq (enumT 0 ts)) st := Iff.rfl
@[simp] theorem Ok_itEnL {E : Exn → Sto → Prop} {st : Sto} {Q : Wk → Sto → Prop} (ts : List T) : Ok (itEnum [.lst ts] st) Q E ↔ Q (.seq (enumT 0 ts)) st := Iff.rfl
theorem Ok_itEnR {E : Exn → Sto → Prop} {st : Sto} {Q : Wk → Sto → Prop} {r : Nat} {ts : List T} (h : st[r]? = some (.lst ts)) : Ok (itEnum [.ref r] st) Q E ↔ Q (.dyn (ts.length + 1) (enumAt r)) st := by
  have e : atS st (.ref r) = some (r, ts) := by simp [atS, h]
  have : itEnum [.ref r] st = .ok (.dyn (ts.length + 1) (enumAt r)) st := by
    show itEnum1 (.ref r) st = _
    unfold itEnum1
    rw [e]
  rw [this]; rfl
theorem lcDyn_seq {g : T → Sl → Option Sl} {tt : M Bool} {elt : M T} {ρ : Sl} {f : Sto → Nat → Option (Option T)} {st : Sto} {ts : List T} (hf : ∀ i, f st i = some (ts[i]?))
    (hp : ∀ t ∈ ts, ∀ ρ1, g t ρ = some ρ1 → (∀ b st', tt ρ1 st = .ok b st' → st' = st) ∧ (∀ y st', elt ρ1 st = .ok y st' → st' = st)) :
    ∀ (n i : Nat), i ≤ ts.length → ts.length < i + n → lcDyn g tt elt ρ f n i st = lcL g tt elt ρ (ts.drop i) st
  | 0, i, hi, h => by omega
  | n + 1, i, hi', h => by
    unfold lcDyn
    rw [hf i]
    by_cases hi : i < ts.length
    · rw [List.getElem?_eq_getElem hi, List.drop_eq_getElem_cons hi]
      unfold lcL
      simp only
      cases hg : g ts[i] ρ with
      | none => rfl
      | some ρ1 =>
        obtain ⟨p1, p2⟩ := hp _ (List.getElem_mem hi) ρ1 hg
        simp only
        cases ht : tt ρ1 st with
        | bad => rfl
        | exc _ _ => rfl
        | ok b st' =>
          obtain rfl := p1 b st' ht
          cases b with
          | false =>
            show lcDyn g tt elt ρ f n (i + 1) st' = lcL g tt elt ρ (ts.drop (i + 1)) st'
            exact lcDyn_seq hf hp n (i + 1) (by omega) (by omega)
          | true =>
            show R.bind (noExc (elt ρ1 st')) _ = R.bind (noExc (elt ρ1 st')) _
            cases he : elt ρ1 st' with
            | bad => rfl
            | exc _ _ => rfl
            | ok y st2 =>
              obtain rfl := p2 y st2 he
              show R.bind (lcDyn g tt elt ρ f n (i + 1) st2) _ = R.bind (lcL g tt elt ρ (ts.drop (i + 1)) st2) _
              rw [lcDyn_seq hf hp n (i + 1) (by omega) (by omega)]
    · rw [List.getElem?_eq_none (by omega), List.drop_eq_nil_of_le (by omega)]
      rfl
end Mi

/-! MiPlain: plain facts that the laws' plain parts share. -/
namespace Mi
open PySem L2
theorem lc_map {g : T → Sl → Option Sl} {tt : M Bool} {elt : M T} {ρ : Sl} {st : Sto} (f : T → T) (ts : List T) (hz : ts.length ≤ sizeLine) (h : ∀ t ∈ ts, ∃ ρ1, g t ρ = some ρ1 ∧ tt ρ1 st = .ok true st ∧ elt ρ1 st = .ok (f t) st) :
    lcW g tt elt ρ (.seq ts) st = .ok (ts.map f) st := by
  have := lc_pure (g := g) (tt := tt) (elt := elt) (ρ := ρ) (st := st) (fun t => some (f t)) ts fun t ht => by
    obtain ⟨ρ1, h1, h2, h3⟩ := h t ht
    exact ⟨ρ1, h1, .inl ⟨_, rfl, h2, h3⟩⟩
  show (if ts.length ≤ sizeLine then lcL g tt elt ρ ts st else .bad) = _
  rw [if_pos hz, this, List.filterMap_eq_map']
@[simp] theorem Ok_all {Q : T → Sto → Prop} {E : Exn → Sto → Prop} {st : Sto} (ts : List T) (p : T → Bool) : Ok (fAll [.lst (ts.map fun t => .bl (p t))] st) Q E ↔ Q (.bl (ts.all p)) st := by
  have e : blsOf (ts.map fun t => .bl (p t)) = some (ts.map p) := by
    induction ts with
    | nil => rfl
    | cons t ts ih => simp [blsOf, ih]
  have e2 : fAll [.lst (ts.map fun t => .bl (p t))] st = .ok (.bl (ts.all p)) st := by
    unfold fAll
    simp [lstR, e, List.all_map]
  rw [e2]; rfl
def btw (t : T) (lo hi : Int) : Bool := match t with
  | .int i => decide (lo ≤ i) && decide (i ≤ hi)
  | _ => false
/-- what is asked of a value -/
structure Gd (t : T) : Prop where
  tr : t.tr = true
  nd : t.nd = true
  dp : t.dep ≤ 64
  wt : t.wt ≤ 1000000
theorem Gd.sh {t : T} (h : Gd t) : shaped t = true := T.tr_shaped h.tr h.nd h.dp
theorem Gd.mem {ts : List T} {t : T} (h : Gd (.tup ts)) (m : t ∈ ts) : Gd t := by
  obtain ⟨h1, h2, h3, h4⟩ := h
  simp only [T.tr] at h1
  simp only [T.nd] at h2
  simp only [T.dep] at h3
  simp only [T.wt] at h4
  exact ⟨T.trs_all.mp h1 t m, T.nds_all.mp h2 t m, Nat.le_trans (T.deps_le.mp (Nat.le_refl _) t m) (by omega), by have := T.wt_mem m; omega⟩
theorem sh_nil : shaped (.tup []) = true := by decide +kernel
theorem len_le {ts : List T} (n : Nat) (h : ts.length ≤ n) (hn : n ≤ 16777216 := by decide) : ts.length ≤ sizeLine := Nat.le_trans h hn
theorem nil_or_snoc {α : Type} (es : List α) : es = [] ∨ ∃ l x, es = l ++ [x] := by
  rcases es.eq_nil_or_concat with h | ⟨l, x, h⟩
  · exact .inl h
  · exact .inr ⟨l, x, by simpa using h⟩
def rgI (lo : Int) : Nat → List Int
  | 0 => []
  | n + 1 => lo :: rgI (lo + 1) n
theorem eqvs_ints : ∀ (a b : List Int), T.eqvs (a.map T.int) (b.map T.int) = decide (a = b)
  | [], [] => rfl
  | [], _ :: _ => rfl
  | _ :: _, [] => rfl
  | x :: a, y :: b => by
    simp only [List.map_cons, T.eqvs, eqvs_ints a b, T.eqv, List.cons.injEq]
    by_cases h : x = y <;> simp [h]
theorem inD_ints (n : Int) (l : List Int) : inD (.int n) (l.map T.int) = decide (n ∈ l) := by
  induction l with
  | nil => rfl
  | cons a l ih =>
    unfold inD at ih ⊢
    rw [List.map_cons, List.any_cons, ih]
    simp only [T.eqv, List.mem_cons]
    by_cases h : a = n
    · subst h; simp
    · have : ¬ n = a := fun e => h e.symm
      simp [h, this]
theorem lc_filter {g : T → Sl → Option Sl} {tt : M Bool} {elt : M T} {ρ : Sl} {st : Sto} (p : T → Bool) (ts : List T) (hz : ts.length ≤ sizeLine) (h : ∀ t ∈ ts, ∃ ρ1, g t ρ = some ρ1 ∧ tt ρ1 st = .ok (p t) st ∧ elt ρ1 st = .ok t st) :
    lcW g tt elt ρ (.seq ts) st = .ok (ts.filter p) st := by
  have := lc_pure (g := g) (tt := tt) (elt := elt) (ρ := ρ) (st := st) (fun t => if p t then some t else none) ts fun t ht => by
    obtain ⟨ρ1, h1, h2, h3⟩ := h t ht
    cases hp : p t with
    | true => exact ⟨ρ1, h1, .inl ⟨t, by simp, by rw [h2, hp], h3⟩⟩
    | false => exact ⟨ρ1, h1, .inr ⟨by simp, by rw [h2, hp]⟩⟩
  show (if ts.length ≤ sizeLine then lcL g tt elt ρ ts st else .bad) = _
  rw [if_pos hz, this]
  congr 1
  induction ts with
  | nil => rfl
  | cons t ts ih =>
    simp only [List.filterMap_cons, List.filter_cons]
    cases p t <;> simp
    · simpa using ih (by simp at hz; omega) (fun t ht => h t (List.mem_cons_of_mem _ ht)) (lc_pure _ _ fun t ht => by
        obtain ⟨ρ1, h1, h2, h3⟩ := h t (List.mem_cons_of_mem _ ht)
        cases hp : p t with
        | true => exact ⟨ρ1, h1, .inl ⟨t, by simp [hp], by rw [h2, hp], h3⟩⟩
        | false => exact ⟨ρ1, h1, .inr ⟨by simp [hp], by rw [h2, hp]⟩⟩)
    · simpa using ih (by simp at hz; omega) (fun t ht => h t (List.mem_cons_of_mem _ ht)) (lc_pure _ _ fun t ht => by
        obtain ⟨ρ1, h1, h2, h3⟩ := h t (List.mem_cons_of_mem _ ht)
        cases hp : p t with
        | true => exact ⟨ρ1, h1, .inl ⟨t, by simp [hp], by rw [h2, hp], h3⟩⟩
        | false => exact ⟨ρ1, h1, .inr ⟨by simp [hp], by rw [h2, hp]⟩⟩)
theorem Ok.ex {α : Type} {r : R α} {a : α} {st : Sto} (h : Ok r (fun b s => b = a ∧ ∃ l, s = st ++ l) noE) : ∃ l, r = .ok a (st ++ l) := by
  cases r with
  | ok b s => obtain ⟨h1, l, h2⟩ := h; exact ⟨l, by rw [h1, h2]⟩
  | exc e st => exact h.elim
  | bad => exact h.elim
theorem app_at {α : Type} (S l : List α) (x : α) : (S ++ x :: l)[S.length]? = some x := by simp
theorem app_set {α : Type} (S l : List α) (x y : α) : (S ++ x :: l).set S.length y = S ++ y :: l := by simp [List.set_append]
theorem sh_ints {l : List Int} (h : ∀ a ∈ l, 0 ≤ a ∧ a ≤ 9) : shaped (.lst (l.map T.int)) = true := by
  have hd : T.deps (l.map T.int) ≤ 0 := T.deps_le.mpr fun t ht => by
    obtain ⟨v, _, rfl⟩ := List.mem_map.mp ht
    exact Nat.le_refl _
  refine T.tr_shaped ?_ ?_ ?_
  · simp only [T.tr]
    refine T.trs_all.mpr fun t ht => ?_
    obtain ⟨v, hv, rfl⟩ := List.mem_map.mp ht
    have := h v hv
    simp only [T.tr, decide_eq_true_eq]
    exact Nat.lt_trans (log_lt (n := 4) this.1 (by omega) (by decide)) (by decide)
  · simp only [T.nd]
    refine T.nds_all.mpr fun t ht => ?_
    obtain ⟨v, hv, rfl⟩ := List.mem_map.mp ht
    rfl
  · simp only [T.dep]; omega
theorem Ok_inR {st : Sto} {i : Nat} {ts : List T} {x : T} {Q : T → Sto → Prop} {E : Exn → Sto → Prop} (h : st[i]? = some (.lst ts)) (hx : shaped x = true) (hs : shaped (.lst ts) = true) : Ok (opInB false x (.ref i) st) Q E ↔ Q (.bl (inD x ts)) st := by
  have e : opInB false x (.ref i) st = .ok (.bl (inD x ts)) st := by
    unfold opInB
    simp [lstR_ref h, hx, hs]
  rw [e]; rfl
@[simp] theorem Ok_eqStr {st : Sto} {Q : T → Sto → Prop} {E : Exn → Sto → Prop} (a b : Str) : Ok (opEqB false (.str a) (.str b) st) Q E ↔ Q (.bl (a == b)) st := Iff.rfl
theorem Frm.setNew {i p : Nat} {st st' : Sto} {o : O} (h : Frm i st st') (hp : st.length ≤ p) : Frm i st (st'.set p o) := by
  refine ⟨by simpa using h.1, fun j u n e => ?_⟩
  have hj := (List.getElem?_eq_some_iff.mp e).1
  rw [List.getElem?_set_ne (by omega)]
  exact h.2 j u n e
theorem Frm.at {i p : Nat} {st st' : Sto} {o : O} (h : Frm i st st') (hp : p ≠ i) (e : st[p]? = some o) : st'[p]? = some o := h.2 p o hp e
/-- all below p but place i stays -/
def Fr2 (i p : Nat) (st st' : Sto) : Prop := st.length ≤ st'.length ∧ ∀ j o, j ≠ i → j < p → st[j]? = some o → st'[j]? = some o
theorem Fr2.refl {i p : Nat} {st : Sto} : Fr2 i p st st := ⟨Nat.le_refl _, fun _ _ _ _ h => h⟩
theorem Fr2.trans {i p : Nat} {a b c : Sto} (h : Fr2 i p a b) (h2 : Fr2 i p b c) : Fr2 i p a c := ⟨Nat.le_trans h.1 h2.1, fun j o n q e => h2.2 j o n q (h.2 j o n q e)⟩
theorem Frm.fr2 {i p : Nat} {st st' : Sto} (h : Frm i st st') : Fr2 i p st st' := ⟨h.1, fun j o n _ e => h.2 j o n e⟩
theorem Fr2.set {i p : Nat} {st : Sto} (o : O) : Fr2 i p st (st.set p o) := ⟨by simp, fun j u n q e => by rw [List.getElem?_set_ne (by omega)]; exact e⟩
theorem Fr2.frm {i p : Nat} {st st' : Sto} (h : Fr2 i p st st') (hp : st.length ≤ p) : Frm i st st' := ⟨h.1, fun j o n e => h.2 j o n (by have := (List.getElem?_eq_some_iff.mp e).1; omega) e⟩
theorem wts_le {w : Nat} : ∀ {ts : List T}, (∀ t ∈ ts, t.wt ≤ w) → T.wts ts ≤ ts.length * (w + 2)
  | [], _ => by simp [T.wts]
  | t :: ts, h => by
    have h1 := h t (List.mem_cons_self ..)
    have h2 := wts_le (w := w) (ts := ts) fun u hu => h u (List.mem_cons_of_mem _ hu)
    simp only [T.wts, List.length_cons, Nat.add_mul, Nat.one_mul]; omega
theorem OkS_while {N : Sl → Sto → Prop} {Rt : T → Sto → Prop} {B C : Sl → Sto → Prop} {E : Exn → Sl → Sto → Prop} {ρ : Sl} {st : Sto} (c : M Bool) (b : SM) : OkS (sWhile c b ρ st) N Rt B C E ↔ OkS (whileN c b whileFuel ρ st) N Rt B C E := Iff.rfl
/-- items: plain, not deeper than n, no longer than w -/
structure LS (n w : Nat) (ts : List T) : Prop where
  tr : T.trs ts = true
  nd : T.nds ts = true
  dp : T.deps ts ≤ n
  wt : T.wts ts ≤ w
structure BT (n w : Nat) (t : T) : Prop where
  tr : t.tr = true
  nd : t.nd = true
  dp : t.dep ≤ n
  wt : t.wt ≤ w
theorem LS.nil {n w : Nat} : LS n w [] := ⟨rfl, rfl, by simp [T.deps], by simp [T.wts]⟩
theorem LS.cons {n w v k : Nat} {t : T} {ts : List T} (h : BT n w t) (h2 : LS n v ts) (e : w + 2 + v ≤ k) : LS n k (t :: ts) := by
  refine ⟨by simp [T.trs, h.tr, h2.tr], by simp [T.nds, h.nd, h2.nd], ?_, ?_⟩
  · have := h.dp; have := h2.dp; simp only [T.deps]; omega
  · have := h.wt; have := h2.wt; simp only [T.wts]; omega
theorem LS.app {n w v : Nat} {a b : List T} (h : LS n w a) (h2 : LS n v b) : LS n (w + v) (a ++ b) := by
  refine ⟨T.trs_all.mpr fun t ht => ?_, T.nds_all.mpr fun t ht => ?_, T.deps_le.mpr fun t ht => ?_, ?_⟩
  · exact (List.mem_append.mp ht).elim (T.trs_all.mp h.tr t) (T.trs_all.mp h2.tr t)
  · exact (List.mem_append.mp ht).elim (T.nds_all.mp h.nd t) (T.nds_all.mp h2.nd t)
  · exact (List.mem_append.mp ht).elim (fun q => Nat.le_trans (T.deps_le.mp (Nat.le_refl _) t q) h.dp) (fun q => Nat.le_trans (T.deps_le.mp (Nat.le_refl _) t q) h2.dp)
  · rw [T.wts_app]; have := h.wt; have := h2.wt; omega
theorem LS.sub {n w : Nat} {a b : List T} (h : LS n w a) (hm : ∀ t ∈ b, t ∈ a) (hw : T.wts b ≤ w) : LS n w b :=
  ⟨T.trs_all.mpr fun t ht => T.trs_all.mp h.tr t (hm t ht), T.nds_all.mpr fun t ht => T.nds_all.mp h.nd t (hm t ht), T.deps_le.mpr fun t ht => Nat.le_trans (T.deps_le.mp (Nat.le_refl _) t (hm t ht)) h.dp, hw⟩
theorem LS.self {n w : Nat} {a : List T} (h : LS n w a) : LS n (T.wts a) a := ⟨h.tr, h.nd, h.dp, Nat.le_refl _⟩
theorem LS.mono {n w n' w' : Nat} {a : List T} (h : LS n w a) (hn : n ≤ n') (hw : w ≤ w') : LS n' w' a := ⟨h.tr, h.nd, Nat.le_trans h.dp hn, Nat.le_trans h.wt hw⟩
theorem BT.mono {n w n' w' : Nat} {a : T} (h : BT n w a) (hn : n ≤ n') (hw : w ≤ w') : BT n' w' a := ⟨h.tr, h.nd, Nat.le_trans h.dp hn, Nat.le_trans h.wt hw⟩
theorem LS.tup {n w : Nat} {a : List T} (h : LS n w a) : BT (n + 1) (w + 3) (.tup a) := ⟨by simp [T.tr, h.tr], by simp [T.nd, h.nd], by have := h.dp; simp only [T.dep]; omega, by have := h.wt; simp only [T.wt]; omega⟩
theorem LS.lst {n w : Nat} {a : List T} (h : LS n w a) : BT (n + 1) (w + 3) (.lst a) := ⟨by simp [T.tr, h.tr], by simp [T.nd, h.nd], by have := h.dp; simp only [T.dep]; omega, by have := h.wt; simp only [T.wt]; omega⟩
theorem BT.two {n w v : Nat} {a b : T} (h : BT n w a) (h2 : BT n v b) : BT (n + 1) (w + v + 7) (.tup [a, b]) := (LS.cons h (LS.cons h2 LS.nil (Nat.le_refl (v + 2 + 0))) (Nat.le_refl _)).tup.mono (Nat.le_refl _) (by omega)
theorem BT.gd {n w : Nat} {t : T} (h : BT n w t) (hn : n ≤ 64) (hw : w ≤ 1000000) : Gd t := ⟨h.tr, h.nd, Nat.le_trans h.dp hn, Nat.le_trans h.wt hw⟩
theorem BT.int {v : Int} (h : v.natAbs < 32) : BT 0 7 (.int v) := by
  have : v.natAbs.log2 < 5 ∨ v.natAbs = 0 := by
    by_cases hz : v.natAbs = 0
    · exact .inr hz
    · exact .inl (by rw [Nat.log2_lt hz]; omega)
  have h2 : v.natAbs.log2 ≤ 5 := by
    rcases this with h | h
    · omega
    · rw [h]; decide
  exact ⟨by simp only [T.tr, decide_eq_true_eq]; omega, rfl, by simp [T.dep], by simp only [T.wt]; omega⟩
@[simp] theorem Ok_slT {st : Sto} {Q : T → Sto → Prop} {E : Exn → Sto → Prop} (ts : List T) (lo hi : Option Int) : Ok (opSl (.tup ts) lo hi st) Q E ↔ Q (.tup (cutT ts lo hi)) st := Iff.rfl
theorem cut_to {ts : List T} {j : Nat} (h : j ≤ ts.length) : cutT ts none (some (j : Int)) = ts.take j := by
  unfold cutT
  rw [HT.sIx_none, HT.sIx_nat, Nat.min_eq_left h]
  simp
theorem cut_from {ts : List T} {j : Nat} : cutT ts (some (j : Int)) none = ts.drop j := by
  unfold cutT
  rw [HT.sIx_none, HT.sIx_nat]
  by_cases h : j ≤ ts.length
  · rw [Nat.min_eq_left h, List.take_of_length_le (by simp)]
  · rw [Nat.min_eq_right (by omega)]
    rw [List.drop_eq_nil_of_le (Nat.le_refl _), List.drop_eq_nil_of_le (by omega)]; simp
theorem cut_one {ts : List T} {j : Nat} : cutT ts (some (j : Int)) (some ((j : Int) + 1)) = (ts.drop j).take 1 := by
  unfold cutT
  have e : (j : Int) + 1 = ((j + 1 : Nat) : Int) := by omega
  rw [e, HT.sIx_nat, HT.sIx_nat]
  by_cases h : j < ts.length
  · rw [Nat.min_eq_left (by omega), Nat.min_eq_left (by omega)]
    congr 1; omega
  · rw [Nat.min_eq_right (show ts.length ≤ j + 1 by omega), Nat.min_eq_right (show ts.length ≤ j by omega)]
    rw [List.drop_eq_nil_of_le (Nat.le_refl _), List.drop_eq_nil_of_le (by omega)]; simp
theorem cut_last {l : List T} {x : T} : cutT (l ++ [x]) none (some (-1)) = l := by
  unfold cutT
  have e : HT.sIx (l ++ [x]).length (l ++ [x]).length (some (-1)) = l.length := by
    unfold HT.sIx
    simp; omega
  rw [e, HT.sIx_none]; simp
theorem nd_tup {st : Sto} (ts : List T) : now st (.tup ts) = .tup ts := rfl
theorem eqv_nil (ts : List T) : T.eqv (.tup ts) (.tup []) = ts.isEmpty := by cases ts <;> simp [T.eqv, T.eqvs]
def notTup : T → Bool
  | .tup _ => false
  | _ => true
theorem live_inv {g : GM} {body : SM} {r : Nat} {ts : List T} {N : Sl → Sto → Prop} {Rt : T → Sto → Prop} {B C : Sl → Sto → Prop} {E : Exn → Sl → Sto → Prop} {ρ : Sl} {st : Sto} (I : Sl → Sto → Prop) (h0 : I ρ st) (hst : ∀ ρ st, I ρ st → st[r]? = some (.lst ts))
    (step : ∀ t ρ st, t ∈ ts → I ρ st → Ok (g t ρ st) (fun ρ1 st1 => OkS (body ρ1 st1) I Rt N I E) noE) (done : ∀ ρ st, I ρ st → N ρ st) : OkS (forI g body (.live r) ρ st) N Rt B C E := by
  have key : ∀ (n i : Nat) ρ st, i + n = ts.length + 1 → i ≤ ts.length → I ρ st → OkS (forLive g body r n i ρ st) N Rt B C E := fun n => by
    induction n with
    | zero => intro i ρ st e h; omega
    | succ n ih =>
      intro i ρ st e hle h
      have hs0 := hst ρ st h
      cases hi : ts[i]? with
      | none =>
        have e2 : forLive g body r (n + 1) i ρ st = .nx ρ st := by simp [forLive, hs0, hi]
        rw [e2]
        exact done ρ st h
      | some t =>
        have hs := step t ρ st (List.mem_of_getElem? hi) h
        have hlt := (List.getElem?_eq_some_iff.mp hi).1
        cases hg : g t ρ st with
        | ok ρ1 st1 =>
          have e2 : forLive g body r (n + 1) i ρ st = (body ρ1 st1).turn (forLive g body r n (i + 1)) := by simp [forLive, hs0, hi, hg]
          rw [e2, OkS_turn]
          rw [hg] at hs
          have nx : ∀ ρ st, I ρ st → OkS (forLive g body r n (i + 1) ρ st) N Rt B C E := fun ρ st hi => ih (i + 1) ρ st (by omega) (by omega) hi
          exact OkS.imp hs nx (fun _ _ h => h) (fun _ _ h => h) nx (fun _ _ _ h => h)
        | exc _ _ => rw [hg] at hs; exact hs.elim
        | bad => rw [hg] at hs; exact hs.elim
  show OkS (forLive g body r (liveLen st r + 1) 0 ρ st) N Rt B C E
  have e : liveLen st r = ts.length := by unfold liveLen; rw [hst ρ st h0]
  rw [e]
  exact key _ 0 ρ st (by omega) (Nat.zero_le _) h0
@[simp] theorem Ok_inT {st : Sto} {Q : T → Sto → Prop} {E : Exn → Sto → Prop} (neg : Bool) (x : T) (ts : List T) : Ok (opInB neg x (.tup ts) st) Q E ↔ (shaped x = true ∧ shaped (.lst ts) = true) ∧ Q (.bl (if neg then !inD x ts else inD x ts)) st := by
  unfold opInB
  simp only [Bool.and_eq_true, Ok_iteB, Ok_ok]
@[simp] theorem Ok_inL {st : Sto} {Q : T → Sto → Prop} {E : Exn → Sto → Prop} (neg : Bool) (x : T) (ts : List T) : Ok (opInB neg x (.lst ts) st) Q E ↔ (shaped x = true ∧ shaped (.lst ts) = true) ∧ Q (.bl (if neg then !inD x ts else inD x ts)) st := by
  unfold opInB
  simp only [lstR, Bool.and_eq_true, Ok_iteB, Ok_ok]
theorem inD_nil (x : T) : inD x [] = false := rfl
theorem inD_cons (x t : T) (ts : List T) : inD x (t :: ts) = (T.eqv t x || inD x ts) := rfl
theorem eqv_str (a b : Str) : T.eqv (.str a) (.str b) = (a == b) := by simp [T.eqv]
@[simp] theorem Ok_fIntB {Q : T → Sto → Prop} {E : Exn → Sto → Prop} {st : Sto} (b : Bool) : Ok (fInt [.bl b] st) Q E ↔ Q (.int (if b then 1 else 0)) st := Iff.rfl
@[simp] theorem OkS_nx {N : Sl → Sto → Prop} {Rt : T → Sto → Prop} {B C : Sl → Sto → Prop} {E : Exn → Sl → Sto → Prop} {ρ : Sl} {st : Sto} : OkS (.nx ρ st) N Rt B C E ↔ N ρ st := Iff.rfl
@[simp] theorem OkS_rt {N : Sl → Sto → Prop} {Rt : T → Sto → Prop} {B C : Sl → Sto → Prop} {E : Exn → Sl → Sto → Prop} {t : T} {st : Sto} : OkS (.rt t st) N Rt B C E ↔ Rt t st := Iff.rfl
@[simp] theorem Ok_ixLst {Q : T → Sto → Prop} {E : Exn → Sto → Prop} {st : Sto} (ts : List T) (i : Int) : Ok (opIx (.lst ts) (.int i) st) Q E ↔ ∃ t, atI ts i = some t ∧ Q t st := Ok_ixL i rfl
theorem atI_3 {a b c d : T} {l : List T} : atI (a :: b :: c :: d :: l) 3 = some d := by
  have : (3 : Int) < ((l.length : Int) + 1 + 1 + 1 + 1) := by omega
  simp [atI, ixN, this]
@[simp] theorem Ok_isN {Q : T → Sto → Prop} {E : Exn → Sto → Prop} {st : Sto} (neg : Bool) (x : T) : Ok (opIs neg x .non st) Q E ↔ Q (.bl (if neg then !isNon x else isNon x)) st := Iff.rfl
@[simp] theorem Ok_neStr {st : Sto} {Q : T → Sto → Prop} {E : Exn → Sto → Prop} (a b : Str) : Ok (opEqB true (.str a) (.str b) st) Q E ↔ Q (.bl (!(a == b))) st := Iff.rfl
end Mi

/-! MiPlan: plans as trees: their form, their sizes. -/
namespace Mi
open PySem L2
@[simp] theorem n_draw_seq : (("draw" : Str) = "seq") = False := eq_false (by decide +kernel)
@[simp] theorem n_draw_par : (("draw" : Str) = "par") = False := eq_false (by decide +kernel)
@[simp] theorem n_draw_named : (("draw" : Str) = "named") = False := eq_false (by decide +kernel)
@[simp] theorem n_draw_retry : (("draw" : Str) = "retry") = False := eq_false (by decide +kernel)
@[simp] theorem n_draw_split : (("draw" : Str) = "split") = False := eq_false (by decide +kernel)
@[simp] theorem n_seq_draw : (("seq" : Str) = "draw") = False := eq_false (by decide +kernel)
@[simp] theorem n_seq_par : (("seq" : Str) = "par") = False := eq_false (by decide +kernel)
@[simp] theorem n_seq_named : (("seq" : Str) = "named") = False := eq_false (by decide +kernel)
@[simp] theorem n_seq_retry : (("seq" : Str) = "retry") = False := eq_false (by decide +kernel)
@[simp] theorem n_seq_split : (("seq" : Str) = "split") = False := eq_false (by decide +kernel)
@[simp] theorem n_par_draw : (("par" : Str) = "draw") = False := eq_false (by decide +kernel)
@[simp] theorem n_par_seq : (("par" : Str) = "seq") = False := eq_false (by decide +kernel)
@[simp] theorem n_par_named : (("par" : Str) = "named") = False := eq_false (by decide +kernel)
@[simp] theorem n_par_retry : (("par" : Str) = "retry") = False := eq_false (by decide +kernel)
@[simp] theorem n_par_split : (("par" : Str) = "split") = False := eq_false (by decide +kernel)
@[simp] theorem n_named_draw : (("named" : Str) = "draw") = False := eq_false (by decide +kernel)
@[simp] theorem n_named_seq : (("named" : Str) = "seq") = False := eq_false (by decide +kernel)
@[simp] theorem n_named_par : (("named" : Str) = "par") = False := eq_false (by decide +kernel)
@[simp] theorem n_named_retry : (("named" : Str) = "retry") = False := eq_false (by decide +kernel)
@[simp] theorem n_named_split : (("named" : Str) = "split") = False := eq_false (by decide +kernel)
@[simp] theorem n_retry_draw : (("retry" : Str) = "draw") = False := eq_false (by decide +kernel)
@[simp] theorem n_retry_seq : (("retry" : Str) = "seq") = False := eq_false (by decide +kernel)
@[simp] theorem n_retry_par : (("retry" : Str) = "par") = False := eq_false (by decide +kernel)
@[simp] theorem n_retry_named : (("retry" : Str) = "named") = False := eq_false (by decide +kernel)
@[simp] theorem n_retry_split : (("retry" : Str) = "split") = False := eq_false (by decide +kernel)
@[simp] theorem n_split_draw : (("split" : Str) = "draw") = False := eq_false (by decide +kernel)
@[simp] theorem n_split_seq : (("split" : Str) = "seq") = False := eq_false (by decide +kernel)
@[simp] theorem n_split_par : (("split" : Str) = "par") = False := eq_false (by decide +kernel)
@[simp] theorem n_split_named : (("split" : Str) = "named") = False := eq_false (by decide +kernel)
@[simp] theorem n_split_retry : (("split" : Str) = "retry") = False := eq_false (by decide +kernel)
def stepFm (f p : T → Bool) (t : T) : Bool := match t with
  | .tup (.str w :: ps) =>
    if w = "draw" then (match ps with | [a] => btw a 0 9 | _ => false)
    else if w = "seq" then decide (ps.length ≤ 12) && ps.all f
    else if w = "par" then decide (ps.length ≤ 12) && ps.all p
    else if w = "named" then (match ps with | [a, b] => btw a 0 9 && f b | _ => false)
    else if w = "retry" then (match ps with | [a] => f a | _ => false)
    else false
  | _ => false
def partFm (f f' : T → Bool) (t : T) : Bool := match t with
  | .tup [.str w, q] => if w = "split" then f q else f' t
  | _ => f' t
def fmd : Nat → (T → Bool) × (T → Bool)
  | 0 => (fun _ => false, fun _ => false)
  | d + 1 => (stepFm (fmd d).1 (fmd d).2, partFm (fmd d).1 (stepFm (fmd d).1 (fmd d).2))
abbrev isF (d : Nat) : T → Bool := (fmd d).1
abbrev isP (d : Nat) : T → Bool := (fmd d).2
/-- operations, retries, tuples, depth -/
structure Sz where
  o : Nat
  r : Nat
  n : Nat
  k : Nat
  deriving DecidableEq
def Sz.add (a b : Sz) : Sz := ⟨a.o + b.o, a.r + b.r, a.n + b.n, max a.k (b.k + 1)⟩
def spl (t : T) : Bool := match t with
  | .tup (.str w :: _) => decide (w = "split")
  | _ => false
def headP (w : Str) (ps : List T) : Option (Bool × List T × Sz) :=
  if w = "seq" then (if ps.length ≤ 12 then some (false, ps, ⟨0, 0, 1, 1⟩) else none)
  else if w = "par" then (if ps.length ≤ 12 then some (true, ps, ⟨0, 0, 1, 1⟩) else none)
  else if w = "named" then (match ps with | [a, b] => if btw a 0 9 = true then some (false, [b], ⟨0, 0, 1, 1⟩) else none | _ => none)
  else if w = "retry" then (match ps with | [a] => some (false, [a], ⟨0, 1, 1, 1⟩) | _ => none)
  else if w = "split" then (match ps with | [a] => some (false, [a], ⟨1, 0, 1, 1⟩) | _ => none)
  else none
def szL (f : T → Option Sz) (par : Bool) : List T → Sz → Option Sz
  | [], a => some a
  | p :: ps, a => match f p with
    | none => none
    | some s => if (spl p && !par) = true then none else szL f par ps (a.add s)
def sz : Nat → T → Option Sz
  | 0, _ => none
  | d + 1, .tup (.str w :: ps) => if w = "draw" then (match ps with | [a] => if btw a 0 9 = true then some ⟨1, 0, 1, 1⟩ else none | _ => none)
    else match headP w ps with
      | none => none
      | some (par, inner, a) => szL (sz d) par inner a
  | _ + 1, _ => none
theorem szL_k {f : T → Option Sz} {par : Bool} {d : Nat} (hf : ∀ t s, f t = some s → s.k ≤ d) : ∀ {ps : List T} {a s : Sz}, szL f par ps a = some s → a.k ≤ d + 1 → s.k ≤ d + 1
  | [], a, s, h, ha => by simp only [szL, Option.some.injEq] at h; subst h; exact ha
  | p :: ps, a, s, h, ha => by
    simp only [szL] at h
    split at h
    · cases h
    · rename_i u hu
      split at h
      · cases h
      · exact szL_k hf h (by have := hf _ _ hu; simp only [Sz.add]; omega)
theorem headP_k {w : Str} {ps inner : List T} {par : Bool} {a : Sz} (h : headP w ps = some (par, inner, a)) : a.k = 1 := by
  unfold headP at h
  repeat' split at h
  all_goals first | (cases h; done) | (cases h; rfl)
theorem sz_k : ∀ {d : Nat} {t : T} {s : Sz}, sz d t = some s → s.k ≤ d
  | 0, t, s, h => by simp [sz] at h
  | d + 1, t, s, h => by
    unfold sz at h
    split at h
    · rename_i e; cases e
    · split at h
      · split at h
        · split at h
          · cases h; simp
          · cases h
        · cases h
      · split at h
        · cases h
        · rename_i d' w ps e hne _ par inner a hh
          cases e
          exact szL_k (fun t s h => sz_k h) h (by rw [headP_k hh]; omega)
    · cases h
theorem szL_mono {f g : T → Option Sz} {par : Bool} {d : Nat} (hf : ∀ t s, f t = some s → s.k ≤ d → g t = some s) : ∀ {ps : List T} {a s : Sz}, szL f par ps a = some s → s.k ≤ d + 1 → szL g par ps a = some s ∧ a.k ≤ s.k
  | [], a, s, h, ha => by simp only [szL, Option.some.injEq] at h; subst h; exact ⟨rfl, Nat.le_refl _⟩
  | p :: ps, a, s, h, ha => by
    simp only [szL] at h ⊢
    split at h
    · cases h
    · rename_i u hu
      split at h
      · cases h
      · rename_i hs
        obtain ⟨h1, h2⟩ := szL_mono hf h ha
        simp only [Sz.add] at h2
        rw [hf _ _ hu (by omega)]
        simp only
        rw [if_neg hs]
        exact ⟨h1, by omega⟩
/-- more fuel, or just enough, answers the same -/
theorem sz_at : ∀ {n : Nat} {t : T} {s : Sz}, sz n t = some s → ∀ d, s.k ≤ d → sz d t = some s
  | 0, t, s, h, d, hd => by simp [sz] at h
  | n + 1, t, s, h, d, hd => by
    unfold sz at h
    split at h
    · rename_i e; cases e
    · rename_i n' w ps e
      cases e
      split at h
      · rename_i hw
        split at h
        · split at h
          · rename_i hb
            cases h
            obtain ⟨d, rfl⟩ : ∃ j, d = j + 1 := ⟨d - 1, by simp only at hd; omega⟩
            simp [sz, hw, hb]
          · cases h
        · cases h
      · rename_i hw
        split at h
        · cases h
        · rename_i par inner a hh
          have hk := headP_k hh
          have ha : a.k ≤ s.k := (szL_mono (g := sz n) (d := n) (fun _ _ h _ => h) h (szL_k (fun t s h => sz_k h) h (by rw [hk]; omega))).2
          obtain ⟨d, rfl⟩ : ∃ j, d = j + 1 := ⟨d - 1, by omega⟩
          simp only [sz]
          rw [if_neg hw, hh]
          exact (szL_mono (fun t u hu hk => sz_at hu d hk) h hd).1
    · cases h
theorem szL_all {d : Nat} {f : T → Bool} {par : Bool} (hf : ∀ t, f t = ((sz d t).isSome && !(spl t && !par))) : ∀ {ps : List T} {a : Sz}, ps.all f = (szL (sz d) par ps a).isSome
  | [], a => rfl
  | p :: ps, a => by
    rw [List.all_cons, hf p]
    simp only [szL]
    cases sz d p with
    | none => rfl
    | some s =>
      simp only [Option.isSome_some, Bool.true_and]
      by_cases h : (spl p && !par) = true
      · rw [if_pos h, h]; rfl
      · rw [if_neg h]
        simp only [Bool.not_eq_true] at h
        rw [h]
        simp only [Bool.not_false, Bool.true_and]
        exact szL_all hf
theorem w_ne : ¬ (("seq" : Str) = "split") ∧ ¬ (("par" : Str) = "split") ∧ ¬ (("named" : Str) = "split") ∧ ¬ (("retry" : Str) = "split") ∧ ¬ (("draw" : Str) = "split") := by decide +kernel
theorem fmd_sz : ∀ d t, isF d t = ((sz d t).isSome && !spl t) ∧ isP d t = (sz d t).isSome
  | 0, t => ⟨rfl, rfl⟩
  | d + 1, t => by
    have ih := fmd_sz d
    have hF : ∀ t, isF d t = ((sz d t).isSome && !(spl t && !false)) := fun t => by rw [(ih t).1]; simp
    have hP : ∀ t, isP d t = ((sz d t).isSome && !(spl t && !true)) := fun t => by rw [(ih t).2]; simp
    have key : stepFm (fmd d).1 (fmd d).2 t = ((sz (d + 1) t).isSome && !spl t) := by
      unfold stepFm
      split
      · rename_i w ps
        simp only [sz, spl, headP]
        by_cases h1 : w = "draw"
        · subst h1
          rw [if_pos rfl, if_pos rfl, decide_eq_false w_ne.2.2.2.2]
          match ps with
          | [] => rfl
          | [a] => cases h : btw a 0 9 <;> simp [h]
          | _ :: _ :: _ => rfl
        rw [if_neg h1, if_neg h1]
        by_cases h2 : w = "seq"
        · subst h2
          rw [if_pos rfl, if_pos rfl, decide_eq_false w_ne.1]
          by_cases h : ps.length ≤ 12
          · simp [h, szL_all hF (a := ⟨0, 0, 1, 1⟩), -List.all_eq_true]
          · simp [h]
        rw [if_neg h2, if_neg h2]
        by_cases h3 : w = "par"
        · subst h3
          rw [if_pos rfl, if_pos rfl, decide_eq_false w_ne.2.1]
          by_cases h : ps.length ≤ 12
          · simp [h, szL_all hP (a := ⟨0, 0, 1, 1⟩), -List.all_eq_true]
          · simp [h]
        rw [if_neg h3, if_neg h3]
        by_cases h4 : w = "named"
        · subst h4
          rw [if_pos rfl, if_pos rfl, decide_eq_false w_ne.2.2.1]
          match ps with
          | [] => rfl
          | [a] => rfl
          | [a, b] =>
            have := szL_all hF (ps := [b]) (a := ⟨0, 0, 1, 1⟩)
            simp only [List.all_cons, List.all_nil, Bool.and_true] at this
            cases h : btw a 0 9 <;> simp [h, this]
          | _ :: _ :: _ :: _ => rfl
        rw [if_neg h4, if_neg h4]
        by_cases h5 : w = "retry"
        · subst h5
          rw [if_pos rfl, if_pos rfl, decide_eq_false w_ne.2.2.2.1]
          match ps with
          | [] => rfl
          | [a] =>
            have := szL_all hF (ps := [a]) (a := ⟨0, 1, 1, 1⟩)
            simp only [List.all_cons, List.all_nil, Bool.and_true] at this
            simp [this]
          | _ :: _ :: _ => rfl
        rw [if_neg h5, if_neg h5]
        by_cases h6 : w = "split"
        · simp [h6]
        · simp [h6]
      · rename_i h
        have e : sz (d + 1) t = none := by
          unfold sz
          split
          · rfl
          · exact absurd rfl (h _ _)
          · rfl
        rw [e]; rfl
    refine ⟨key, ?_⟩
    show partFm (fmd d).1 (stepFm (fmd d).1 (fmd d).2) t = _
    unfold partFm
    split
    · rename_i w q
      by_cases h6 : w = "split"
      · subst h6
        rw [if_pos rfl]
        have := szL_all hF (ps := [q]) (a := ⟨1, 0, 1, 1⟩)
        simp only [List.all_cons, List.all_nil, Bool.and_true] at this
        show isF d q = _
        rw [this]
        simp only [sz]
        rw [if_neg (Ne.symm w_ne.2.2.2.2)]
        have e : headP "split" [q] = some (false, [q], ⟨1, 0, 1, 1⟩) := by
          unfold headP
          rw [if_neg (Ne.symm w_ne.1), if_neg (Ne.symm w_ne.2.1), if_neg (Ne.symm w_ne.2.2.1), if_neg (Ne.symm w_ne.2.2.2.1), if_pos rfl]
        rw [e]
      · rw [if_neg h6, key]
        simp [spl, h6]
    · rename_i h
      rw [key]
      cases hs : spl t
      · simp
      · have e : sz (d + 1) t = none := by
          unfold spl at hs
          split at hs
          · rename_i w ps
            have hw := of_decide_eq_true hs
            subst hw
            simp only [sz]
            rw [if_neg (Ne.symm w_ne.2.2.2.2)]
            have e : headP "split" ps = none := by
              unfold headP
              rw [if_neg (Ne.symm w_ne.1), if_neg (Ne.symm w_ne.2.1), if_neg (Ne.symm w_ne.2.2.1), if_neg (Ne.symm w_ne.2.2.2.1), if_pos rfl]
              split
              · exact absurd rfl (h _ _)
              · rfl
            rw [e]
          · cases hs
        rw [e]; rfl
theorem Gd.tail {t : T} {ts : List T} (h : Gd (.tup (t :: ts))) : ∀ u ∈ ts, Gd u := fun u hu => h.mem (List.mem_cons_of_mem _ hu)
theorem beqS (a b : Str) : (a == b) = decide (a = b) := by
  by_cases h : a = b
  · simp [h]
  · simp [h]
theorem cut1 {t : T} {ts : List T} : cutT (t :: ts) (some 1) none = ts := by
  have := cut_from (ts := t :: ts) (j := 1)
  simpa using this
theorem isF0 (t : T) : isF 0 t = false := rfl
theorem isP0 (t : T) : isP 0 t = false := rfl
theorem fm_nt {d : Nat} {t : T} (h : ∀ w ps, t ≠ .tup (.str w :: ps)) : isF d t = false := by
  cases d with
  | zero => rfl
  | succ d =>
    show stepFm (fmd d).1 (fmd d).2 t = false
    unfold stepFm
    split
    · exact absurd rfl (h _ _)
    · rfl
theorem strOk_tr {w : Str} (h : (T.str w).tr = true) : PyData.strOk w = true := by simpa [T.tr] using h
theorem sh_w2 : shaped (.lst [.str "seq", .str "par"]) = true := by decide +kernel
theorem sh_ds : shaped (.lst [.str "draw", .str "split"]) = true := by decide +kernel
theorem sh_rs : shaped (.lst [.str "retry", .str "split"]) = true := by decide +kernel
theorem sh_w5 : shaped (.lst [.str "seq", .str "par", .str "named", .str "retry", .str "split"]) = true := by decide +kernel
theorem cut_m1 {l : List T} {x : T} : cutT (l ++ [x]) (some (-1)) none = [x] := by
  unfold cutT
  have e : HT.sIx (l ++ [x]).length 0 (some (-1)) = l.length := by
    unfold HT.sIx
    simp; omega
  rw [e, HT.sIx_none]; simp
/-- a word of a plan -/
def wrd (w : Str) : Prop := w = "draw" ∨ w = "seq" ∨ w = "par" ∨ w = "named" ∨ w = "retry" ∨ w = "split"
theorem wrd_ok {w : Str} (h : wrd w) : PyData.strOk w = true := by
  rcases h with rfl | rfl | rfl | rfl | rfl | rfl <;> decide +kernel
theorem headP_wrd {w : Str} {ps inner : List T} {par : Bool} {a : Sz} (h : headP w ps = some (par, inner, a)) :
    (w = "seq" ∧ par = false ∧ inner = ps ∧ a = ⟨0, 0, 1, 1⟩ ∧ ps.length ≤ 12) ∨ (w = "par" ∧ par = true ∧ inner = ps ∧ a = ⟨0, 0, 1, 1⟩ ∧ ps.length ≤ 12) ∨
    (w = "named" ∧ par = false ∧ a = ⟨0, 0, 1, 1⟩ ∧ ∃ x y, ps = [x, y] ∧ btw x 0 9 = true ∧ inner = [y]) ∨ (w = "retry" ∧ par = false ∧ a = ⟨0, 1, 1, 1⟩ ∧ ∃ y, ps = [y] ∧ inner = [y]) ∨
    (w = "split" ∧ par = false ∧ a = ⟨1, 0, 1, 1⟩ ∧ ∃ y, ps = [y] ∧ inner = [y]) := by
  unfold headP at h
  split at h
  · split at h
    · cases h; exact .inl ⟨by assumption, rfl, rfl, rfl, by assumption⟩
    · cases h
  · split at h
    · split at h
      · cases h; exact .inr (.inl ⟨by assumption, rfl, rfl, rfl, by assumption⟩)
      · cases h
    · split at h
      · split at h
        · split at h
          · cases h; exact .inr (.inr (.inl ⟨by assumption, rfl, rfl, _, _, rfl, by assumption, rfl⟩))
          · cases h
        · cases h
      · split at h
        · split at h
          · cases h; exact .inr (.inr (.inr (.inl ⟨by assumption, rfl, rfl, _, rfl, rfl⟩)))
          · cases h
        · split at h
          · split at h
            · cases h; exact .inr (.inr (.inr (.inr ⟨by assumption, rfl, rfl, _, rfl, rfl⟩)))
            · cases h
          · cases h
theorem sz_shape {d : Nat} {t : T} {s : Sz} (h : sz d t = some s) : ∃ w ps, t = .tup (.str w :: ps) ∧ ((w = "draw" ∧ ∃ a, ps = [a] ∧ btw a 0 9 = true ∧ s = ⟨1, 0, 1, 1⟩) ∨
    (¬ w = "draw" ∧ ∃ par inner a e, d = e + 1 ∧ headP w ps = some (par, inner, a) ∧ szL (sz e) par inner a = some s)) := by
  unfold sz at h
  split at h
  · cases h
  · rename_i e w ps
    refine ⟨w, ps, rfl, ?_⟩
    split at h
    · rename_i hw
      split at h
      · rename_i a
        split at h
        · rename_i hb
          cases h
          exact .inl ⟨hw, a, rfl, hb, rfl⟩
        · cases h
      · cases h
    · rename_i hw
      split at h
      · cases h
      · rename_i par inner a hh
        exact .inr ⟨hw, par, inner, a, e, rfl, hh, h⟩
  · cases h
theorem szL_snoc {f : T → Option Sz} {par : Bool} {e : T} {u : Sz} (he : f e = some u) (hs : (spl e && !par) = false) : ∀ {es : List T} {a s : Sz}, szL f par es a = some s → szL f par (es ++ [e]) a = some (s.add u)
  | [], a, s, h => by
    simp only [szL, Option.some.injEq] at h
    subst h
    simp [szL, he, hs]
  | p :: ps, a, s, h => by
    simp only [szL, List.cons_append] at h ⊢
    split at h
    · cases h
    · rename_i v hv
      split at h
      · cases h
      · rename_i hh
        rw [if_neg hh]
        exact szL_snoc he hs h
/-- what the laws' generator of plans makes -/
structure GenOk (room deep : Nat) (t : T) (s : Sz) : Prop where
  sz : sz 64 t = some s
  sp : spl t = false
  o1 : 1 ≤ s.o
  o2 : s.o ≤ room
  k2 : s.k + 1 ≤ deep
  n2 : s.n ≤ 2 * (room * deep)
structure PartOk (par : Bool) (size deep : Nat) (t : T) (s : Sz) : Prop where
  sz : sz 64 t = some s
  sp : (spl t && !par) = false
  o1 : 1 ≤ s.o
  o2 : s.o ≤ size
  k2 : s.k + 2 ≤ deep
  n2 : s.n ≤ 2 * (size * (deep - 1))
theorem GenOk.part {par : Bool} {size d : Nat} {t : T} {s : Sz} (g : GenOk size (d + 3) t s) : PartOk par size (d + 4) t s := ⟨g.sz, by simp [g.sp], g.o1, g.o2, by have := g.k2; omega, g.n2⟩
theorem headP_split {q : T} : headP "split" [q] = some (false, [q], ⟨1, 0, 1, 1⟩) := by simp [headP]
theorem GenOk.split {size d : Nat} {t : T} {s : Sz} (g : GenOk size (d + 2) t s) (hd : d ≤ 40) : PartOk true (size + 1) (d + 4) (.tup [.str "split", t]) (Sz.add ⟨1, 0, 1, 1⟩ s) := by
  have hk := g.k2
  have hn := g.n2
  have e1 : size * (d + 2) ≤ (size + 1) * (d + 3) := Nat.mul_le_mul (by omega) (by omega)
  have e2 : (size + 1) * (d + 3) = size * (d + 2) + size + (d + 3) := by simp only [Nat.add_mul, Nat.mul_add]; omega
  refine ⟨?_, by simp, by simp only [Sz.add]; omega, by have := g.o2; simp only [Sz.add]; omega, by simp only [Sz.add]; omega, ?_⟩
  · simp only [Mi.sz]
    rw [if_neg (by simp), headP_split]
    simp only [szL]
    rw [sz_at g.sz 63 (by omega)]
    simp [g.sp]
  · simp only [Sz.add]
    have : d + 4 - 1 = d + 3 := by omega
    rw [this]; omega
/-- a list of parts that is being made -/
structure AccOk (par : Bool) (used deep : Nat) (es : List T) (a : Sz) : Prop where
  sz : szL (Mi.sz 64) par es ⟨0, 0, 1, 1⟩ = some a
  o2 : a.o ≤ used
  k2 : a.k + 1 ≤ deep
  n2 : a.n ≤ 1 + 2 * (used * (deep - 1))
theorem AccOk.nil {par : Bool} {deep : Nat} (h : 2 ≤ deep) : AccOk par 0 deep [] ⟨0, 0, 1, 1⟩ := ⟨rfl, by simp, by simpa using h, by simp⟩
theorem AccOk.snoc {par : Bool} {used size deep : Nat} {es : List T} {a s : Sz} {t : T} (h : AccOk par used deep es a) (p : PartOk par size deep t s) : AccOk par (used + size) deep (es ++ [t]) (a.add s) := by
  have h1 := h.o2
  have h2 := h.k2
  have h3 := h.n2
  have p1 := p.o2
  have p2 := p.k2
  have p3 := p.n2
  refine ⟨szL_snoc p.sz p.sp h.sz, by simp only [Sz.add]; omega, by simp only [Sz.add]; omega, ?_⟩
  simp only [Sz.add, Nat.add_mul]; omega
theorem btw_int {t : T} (h : btw t 0 9 = true) : ∃ v : Int, t = .int v ∧ 0 ≤ v ∧ v ≤ 9 := by
  cases t <;> simp [btw] at h
  exact ⟨_, rfl, h⟩
theorem word_bt {w : Str} (h : wrd w) : (T.str w).tr = true ∧ (T.str w).wt ≤ 52 := by
  rcases h with rfl | rfl | rfl | rfl | rfl | rfl <;> exact ⟨by decide +kernel, by decide +kernel⟩
theorem szL_ls {f : T → Option Sz} {par : Bool} (hf : ∀ t u, f t = some u → t.tr = true ∧ t.nd = true ∧ t.dep ≤ u.k ∧ t.wt + 2 ≤ 70 * u.n) : ∀ {ps : List T} {a s : Sz}, szL f par ps a = some s → 1 ≤ a.k →
    T.trs ps = true ∧ T.nds ps = true ∧ T.deps ps + 1 ≤ s.k ∧ T.wts ps + 70 * a.n ≤ 70 * s.n ∧ a.k ≤ s.k
  | [], a, s, h, ha => by
    simp only [szL, Option.some.injEq] at h
    subst h
    simp [T.trs, T.nds, T.deps, T.wts, ha]
  | p :: ps, a, s, h, ha => by
    simp only [szL] at h
    split at h
    · cases h
    · rename_i u hu
      split at h
      · cases h
      · obtain ⟨h1, h2, h3, h4⟩ := hf _ _ hu
        obtain ⟨g1, g2, g3, g4, g5⟩ := szL_ls hf h (by simp only [Sz.add]; omega)
        simp only [Sz.add] at g4 g5
        refine ⟨by simp [T.trs, h1, g1], by simp [T.nds, h2, g2], by simp only [T.deps]; omega, by simp only [T.wts]; omega, by omega⟩
theorem sz_bt : ∀ {d : Nat} {t : T} {s : Sz}, sz d t = some s → t.tr = true ∧ t.nd = true ∧ t.dep ≤ s.k ∧ t.wt + 2 ≤ 70 * s.n
  | 0, t, s, h => by simp [sz] at h
  | d + 1, t, s, h => by
    have hs := sz_shape h
    clear h
    obtain ⟨w, ps, rfl, h⟩ := hs
    rcases h with ⟨rfl, a, rfl, hb, rfl⟩ | ⟨hw, par, inner, a, e, he, hh, h⟩
    · obtain ⟨v, rfl, v0, v9⟩ := btw_int hb
      have b := BT.int (v := v) (by omega)
      obtain ⟨w1, w2⟩ := word_bt (w := "draw") (.inl rfl)
      have b1 := b.tr
      have b2 := b.wt
      refine ⟨by simp [T.tr, T.trs] at w1 b1 ⊢; exact ⟨w1, b1⟩, by simp [T.nd, T.nds], by simp [T.dep, T.deps], by simp only [T.wt, T.wts] at w2 b2 ⊢; omega⟩
    · obtain rfl : d = e := by omega
      have ha := headP_k hh
      obtain ⟨g1, g2, g3, g4, g5⟩ := szL_ls (fun t u hu => sz_bt hu) h (by omega)
      have hww : wrd w := by
        rcases headP_wrd hh with ⟨rfl, _⟩ | ⟨rfl, _⟩ | ⟨rfl, _⟩ | ⟨rfl, _⟩ | ⟨rfl, _⟩ <;> simp [wrd]
      have han : a.n = 1 := by
        rcases headP_wrd hh with ⟨_, _, _, rfl, _⟩ | ⟨_, _, _, rfl, _⟩ | ⟨_, _, rfl, _⟩ | ⟨_, _, rfl, _⟩ | ⟨_, _, rfl, _⟩ <;> rfl
      obtain ⟨w1, w2⟩ := word_bt hww
      have key : T.trs ps = true ∧ T.nds ps = true ∧ T.deps ps + 1 ≤ s.k ∧ T.wts ps ≤ T.wts inner + 9 := by
        rcases headP_wrd hh with ⟨_, _, rfl, _⟩ | ⟨_, _, rfl, _⟩ | ⟨_, _, _, x, y, rfl, hb, rfl⟩ | ⟨_, _, _, y, rfl, rfl⟩ | ⟨_, _, _, y, rfl, rfl⟩
        · exact ⟨g1, g2, g3, by omega⟩
        · exact ⟨g1, g2, g3, by omega⟩
        · obtain ⟨v, rfl, v0, v9⟩ := btw_int hb
          have b := BT.int (v := v) (by omega)
          have b1 := b.tr
          have b2 := b.wt
          refine ⟨by simp only [T.trs, Bool.and_true] at g1 ⊢; rw [b1, g1]; rfl, by simp only [T.nds, T.nd, Bool.and_true, Bool.true_and] at g2 ⊢; exact g2, by simp only [T.deps, T.dep] at g3 ⊢; omega, by simp only [T.wts] at b2 ⊢; omega⟩
        · exact ⟨g1, g2, g3, by omega⟩
        · exact ⟨g1, g2, g3, by omega⟩
      obtain ⟨k1, k2, k3, k4⟩ := key
      refine ⟨by simp only [T.tr, T.trs] at w1 ⊢; simp [w1, k1], by simp only [T.nd, T.nds]; simp [k2], by simp only [T.dep, T.deps]; omega, by simp only [T.wt, T.wts] at w2 ⊢; omega⟩
theorem GenOk.bt {room deep : Nat} {t : T} {s : Sz} (g : GenOk room deep t s) : BT deep (140 * (room * deep)) t := by
  obtain ⟨h1, h2, h3, h4⟩ := sz_bt g.sz
  have := g.k2
  have := g.n2
  exact ⟨h1, h2, by omega, by omega⟩
theorem repr_tree {st : Sto} {t : T} (h : t.tr = true) (hd : t.dep ≤ 64) (hw : t.wt ≤ 1000000) : reprOf st t = some t.text := by
  obtain ⟨d, h1, h2, h3, h4, h5⟩ := T.tr_pd h
  unfold reprOf T.text
  rw [T.tr_now h, h1]
  have : d.shown.length ≤ sizeLine := Nat.le_trans (Nat.le_trans h3 hw) (by decide)
  simp [h2, h4, hd, this]
end Mi

/-! MiCount: how often a word stands in a text, from below. -/
namespace Mi
open PySem L2 PySem.Builtin PySem.Builtin.Str PySem.StrLaws
/-- n places of w in l, none of which overlap -/
inductive Hs (w : List Nat) : Nat → List Nat → Prop where
  | nil (l : List Nat) : Hs w 0 l
  | skip {n : Nat} {l : List Nat} (c : Nat) : Hs w n l → Hs w n (c :: l)
  | take {n : Nat} {l : List Nat} : Hs w n l → Hs w (n + 1) (w ++ l)
theorem Hs.skips {w : List Nat} {n : Nat} {l : List Nat} (h : Hs w n l) : ∀ k : List Nat, Hs w n (k ++ l)
  | [] => h
  | c :: k => (h.skips k).skip c
theorem Hs.less {w : List Nat} {n : Nat} {l : List Nat} (h : Hs w n l) : Hs w (n - 1) l := by
  induction h with
  | nil l => exact .nil l
  | skip c _ ih => exact ih.skip c
  | take h _ => exact h.skips w
theorem Hs.app {w : List Nat} {n m : Nat} {a b : List Nat} (h : Hs w n a) (g : Hs w m b) : Hs w (n + m) (a ++ b) := by
  induction h with
  | nil l => rw [Nat.zero_add]; exact g.skips l
  | skip c _ ih => exact ih.skip c
  | take h ih =>
    rename_i n l
    rw [List.append_assoc, show n + 1 + m = (n + m) + 1 by omega]
    exact ih.take
theorem Hs.drop {w : List Nat} {n : Nat} {l : List Nat} (h : Hs w n l) : ∀ {k : Nat}, k ≤ w.length → Hs w (n - 1) (l.drop k) := by
  induction h with
  | nil l => intro k _; exact .nil _
  | @skip n l c h ih =>
    intro k hk
    cases k with
    | zero => exact (h.skip c).less
    | succ k => exact ih (by omega)
  | @take n l h _ =>
    intro k hk
    have e : (w ++ l).drop k = w.drop k ++ l := by rw [List.drop_append_of_le_length hk]
    rw [e]
    exact h.skips _
theorem Hs.tail {w : List Nat} {n : Nat} {l : List Nat} (h : Hs w n l) (hn : ¬ w <+: l) : Hs w n l.tail := by
  cases h with
  | nil => exact .nil _
  | skip c h => exact h
  | take h => exact absurd (List.prefix_append _ _) hn
theorem Hs.of_nil {w : List Nat} {n : Nat} {l : List Nat} (h : Hs w n l) (hw : w ≠ []) (hl : l = []) : n = 0 := by
  cases h with
  | nil => rfl
  | skip c h => cases hl
  | take h => exact absurd (List.append_eq_nil_iff.mp hl).1 hw
theorem subAt_iff (x y : PySem.Str) (i : Nat) (hy : y.cps.toList ≠ []) : (i + y.length ≤ x.length ∧ subAt x y i = true) ↔ y.cps.toList <+: x.cps.toList.drop i := by
  have hl : y.length = y.cps.toList.length := by simp [PySem.Str.length]
  have hx : x.length = x.cps.toList.length := by simp [PySem.Str.length]
  have hz : y.cps.toList.length ≠ 0 := fun h => hy (List.length_eq_zero_iff.mp h)
  unfold subAt
  rw [List.prefix_iff_eq_take, beq_iff_eq, ← Array.toList_inj, Array.toList_extract, List.extract_eq_take_drop]
  rw [show i + y.length - i = y.length by omega, hl, hx]
  constructor
  · rintro ⟨_, h⟩; exact h.symm
  · intro h
    refine ⟨?_, h.symm⟩
    have := congrArg List.length h
    simp only [List.length_take, List.length_drop] at this
    omega
theorem occ_ge (x y : PySem.Str) (hy : y.cps.toList ≠ []) : ∀ (m i : Nat) (st : Array Nat × Nat) (n : Nat), i + m = x.length + 1 → st.fst.size ≤ i → Hs y.cps.toList n (x.cps.toList.drop (max i st.snd)) →
    st.fst.size + n ≤ (forIn (List.range' i m) st (occBody x y x.length (x.length + 1))).run.fst.size
  | 0, i, st, n, hi, hs, h => by
    have hx : x.length = x.cps.toList.length := by simp [PySem.Str.length]
    have := h.of_nil hy (List.drop_eq_nil_of_le (by omega))
    subst this
    exact Nat.le_refl _
  | m + 1, i, st, n, hi, hs, h => by
    have hl : y.length = y.cps.toList.length := by simp [PySem.Str.length]
    have hz : y.cps.toList.length ≠ 0 := fun h => hy (List.length_eq_zero_iff.mp h)
    rw [List.range'_succ, List.forIn_cons]
    unfold occBody
    split
    · rename_i hc
      have hf : max i st.snd = i := by have := hc.1.1.2; omega
      rw [hf] at h
      have h2 := h.drop (k := y.cps.toList.length) (Nat.le_refl _)
      rw [List.drop_drop] at h2
      have := occ_ge x y hy m (i + 1) (st.fst.push i, i + y.length) (n - 1) (by omega) (by simp only [Array.size_push]; omega) (by
        rw [show max (i + 1) (i + y.length) = i + y.cps.toList.length by rw [hl]; omega]; exact h2)
      simp only [Array.size_push] at this
      refine Nat.le_trans ?_ this
      omega
    · rename_i hc
      refine occ_ge x y hy m (i + 1) (st.fst, st.snd) n (by omega) (by show st.fst.size ≤ i + 1; omega) ?_
      by_cases hf : st.snd ≤ i
      · have e1 : max i st.snd = i := by omega
        have e2 : max (i + 1) st.snd = i + 1 := by omega
        rw [e1] at h
        show Hs _ _ (List.drop (max (i + 1) st.snd) _)
        rw [e2, ← List.tail_drop]
        refine h.tail fun hp => hc ?_
        have := (subAt_iff x y i hy).mpr hp
        exact ⟨⟨⟨by omega, hf⟩, this.1⟩, this.2⟩
      · show Hs _ _ (List.drop (max (i + 1) st.snd) _)
        have e1 : max (i + 1) st.snd = max i st.snd := by omega
        rw [e1]
        exact h
theorem count_ge {x y : PySem.Str} (hy : y.cps.toList ≠ []) {n : Nat} (h : Hs y.cps.toList n x.cps.toList) : (n : Int) ≤ Txt.count x y := by
  have := occ_ge x y hy (x.length + 1) 0 (#[], 0) n (by omega) (by simp) (by simpa using h)
  unfold Txt.count
  rw [occ_eq, Array.length_toList, Nat.sub_zero]
  simp only [List.size_toArray, List.length_nil, Nat.zero_add] at this
  exact_mod_cast this
/-- places in a row of texts -/
inductive HsL (w : List Nat) : Nat → List PySem.Str → Prop where
  | nil : HsL w 0 []
  | cons {n m : Nat} {t : PySem.Str} {ts : List PySem.Str} : Hs w n t.cps.toList → HsL w m ts → HsL w (n + m) (t :: ts)
theorem cpsApp (a b : PySem.Str) : (a ++ b).cps.toList = a.cps.toList ++ b.cps.toList := PyProof.Rows.cps_toList_append a b
theorem HsL.join {w : List Nat} {n : Nat} {ts : List PySem.Str} (sep : PySem.Str) (h : HsL w n ts) : Hs w n (Str.join sep ts).cps.toList := by
  induction h with
  | nil => exact .nil _
  | @cons n m t ts h1 h2 ih =>
    cases ts with
    | nil =>
      cases h2
      exact h1
    | cons u r =>
      show Hs w (n + m) ((t ++ sep ++ Str.join sep (u :: r)) : PySem.Str).cps.toList
      rw [cpsApp, cpsApp, List.append_assoc]
      exact h1.app (ih.skips _)
theorem HsL.tuple {w : List Nat} {n : Nat} {ts : List PySem.Str} (h : HsL w n ts) : Hs w n (tupleText ts).cps.toList := by
  unfold tupleText
  rw [cpsApp, cpsApp, List.append_assoc]
  exact Hs.skips ((h.join ", ").app (Hs.nil _)) _
theorem T.pds_text : ∀ {ts : List T} {ds : List PyData}, T.pds ts = some ds → PyData.shownAll ds = ts.map T.text
  | [], ds, h => by simp only [T.pds, Option.some.injEq] at h; subst h; rfl
  | t :: ts, ds, h => by
    simp only [T.pds] at h
    cases h1 : t.pd with
    | none => rw [h1] at h; cases h
    | some d =>
      rw [h1] at h
      cases h2 : T.pds ts with
      | none => rw [h2] at h; cases h
      | some es =>
        rw [h2] at h
        cases h
        show d.shown :: PyData.shownAll es = t.text :: ts.map T.text
        rw [T.pds_text h2]
        simp [T.text, h1]
theorem T.text_tup {ts : List T} (h : T.trs ts = true) : (T.tup ts).text = tupleText (ts.map T.text) := by
  obtain ⟨ds, h1, h2, h3, h4, h5⟩ := T.trs_pd h
  unfold T.text
  rw [show (T.tup ts).pd = some (.tuple ds) by simp [T.pd, h1]]
  show tupleText (PyData.shownAll ds) = _
  rw [T.pds_text h1]; rfl
abbrev wR : List Nat := ("retry" : PySem.Str).cps.toList
abbrev wQ : List Nat := ("'" : PySem.Str).cps.toList
theorem word_has {w : PySem.Str} (h : wrd w) : Hs wR (if w = "retry" then 1 else 0) (T.str w).text.cps.toList ∧ Hs wQ 2 (T.str w).text.cps.toList := by
  have e : (T.str w).text.cps.toList = wQ ++ (w.cps.toList ++ (wQ ++ [])) := by
    rcases h with rfl | rfl | rfl | rfl | rfl | rfl <;> decide +kernel
  rw [e]
  refine ⟨?_, Hs.take (Hs.skips (Hs.take (.nil _)) _)⟩
  split
  · rename_i hw
    subst hw
    exact Hs.skips (Hs.take (.nil _)) _
  · exact .nil _
theorem szL_has {f : T → Option Sz} {par : Bool} (hf : ∀ t u, f t = some u → Hs wR u.r t.text.cps.toList ∧ Hs wQ (2 * u.n) t.text.cps.toList) : ∀ {ps : List T} {a s : Sz}, szL f par ps a = some s →
    ∃ r n, s.r = a.r + r ∧ s.n = a.n + n ∧ HsL wR r (ps.map T.text) ∧ HsL wQ (2 * n) (ps.map T.text)
  | [], a, s, h => by
    simp only [szL, Option.some.injEq] at h
    subst h
    exact ⟨0, 0, by simp, by simp, .nil, .nil⟩
  | p :: ps, a, s, h => by
    simp only [szL] at h
    split at h
    · cases h
    · rename_i u hu
      split at h
      · cases h
      · obtain ⟨r, n, h1, h2, h3, h4⟩ := szL_has hf h
        obtain ⟨g1, g2⟩ := hf _ _ hu
        simp only [Sz.add] at h1 h2
        refine ⟨u.r + r, u.n + n, by omega, by omega, .cons g1 h3, ?_⟩
        have := HsL.cons g2 h4
        rwa [show 2 * u.n + 2 * n = 2 * (u.n + n) by omega] at this
theorem sz_has : ∀ {d : Nat} {t : T} {s : Sz}, sz d t = some s → Hs wR s.r t.text.cps.toList ∧ Hs wQ (2 * s.n) t.text.cps.toList
  | 0, t, s, h => by simp [sz] at h
  | d + 1, t, s, h => by
    have htr := (sz_bt h).1
    have hs := sz_shape h
    clear h
    obtain ⟨w, ps, rfl, h⟩ := hs
    simp only [T.tr] at htr
    rw [T.text_tup htr]
    rcases h with ⟨rfl, a, rfl, hb, rfl⟩ | ⟨hw, par, inner, a, e, he, hh, h⟩
    · obtain ⟨w1, w2⟩ := word_has (w := "draw") (.inl rfl)
      refine ⟨.nil _, ?_⟩
      have := (HsL.cons w2 (HsL.cons (Hs.nil _) HsL.nil : HsL wQ (0 + 0) ([a].map T.text))).tuple
      exact this
    · obtain rfl : d = e := by omega
      obtain ⟨r, n, h1, h2, h3, h4⟩ := szL_has (fun t u hu => sz_has hu) h
      rcases headP_wrd hh with ⟨rfl, _, rfl, rfl, _⟩ | ⟨rfl, _, rfl, rfl, _⟩ | ⟨rfl, _, rfl, x, y, rfl, hb, rfl⟩ | ⟨rfl, _, rfl, y, rfl, rfl⟩ | ⟨rfl, _, rfl, y, rfl, rfl⟩
      · obtain ⟨w1, w2⟩ := word_has (w := "seq") (by simp [wrd])
        have k1 := (HsL.cons w1 h3).tuple
        have k2 := (HsL.cons w2 h4).tuple
        simp only [n_seq_retry, if_false] at k1
        rw [h1, h2]
        refine ⟨k1, ?_⟩
        rwa [show 2 + 2 * n = 2 * (1 + n) by omega] at k2
      · obtain ⟨w1, w2⟩ := word_has (w := "par") (by simp [wrd])
        have k1 := (HsL.cons w1 h3).tuple
        have k2 := (HsL.cons w2 h4).tuple
        simp only [n_par_retry, if_false] at k1
        rw [h1, h2]
        refine ⟨k1, ?_⟩
        rwa [show 2 + 2 * n = 2 * (1 + n) by omega] at k2
      · obtain ⟨w1, w2⟩ := word_has (w := "named") (by simp [wrd])
        have k1 := (HsL.cons w1 (HsL.cons (Hs.nil x.text.cps.toList) h3)).tuple
        have k2 := (HsL.cons w2 (HsL.cons (Hs.nil x.text.cps.toList) h4)).tuple
        simp only [n_named_retry, if_false] at k1
        rw [h1, h2]
        rw [Nat.zero_add] at k1 k2
        refine ⟨k1, ?_⟩
        rwa [show 2 + 2 * n = 2 * (1 + n) by omega] at k2
      · obtain ⟨w1, w2⟩ := word_has (w := "retry") (by simp [wrd])
        have k1 := (HsL.cons w1 h3).tuple
        have k2 := (HsL.cons w2 h4).tuple
        simp only [if_true] at k1
        rw [h1, h2]
        refine ⟨k1, ?_⟩
        rwa [show 2 + 2 * n = 2 * (1 + n) by omega] at k2
      · obtain ⟨w1, w2⟩ := word_has (w := "split") (by simp [wrd])
        have k1 := (HsL.cons w1 h3).tuple
        have k2 := (HsL.cons w2 h4).tuple
        simp only [n_split_retry, if_false] at k1
        rw [h1, h2]
        refine ⟨k1, ?_⟩
        rwa [show 2 + 2 * n = 2 * (1 + n) by omega] at k2
/-- few in the text: few in the plan -/
theorem sz_count {d : Nat} {t : T} {s : Sz} (h : sz d t = some s) : (s.r : Int) ≤ Txt.count t.text "retry" ∧ ((2 * s.n : Nat) : Int) ≤ Txt.count t.text "'" := by
  obtain ⟨h1, h2⟩ := sz_has h
  exact ⟨count_ge (by decide +kernel) h1, count_ge (by decide +kernel) h2⟩
/-- what _law_right_plan returns -/
structure PlanR (room : Nat) (t : T) (s : Sz) : Prop where
  sz : sz 10 t = some s
  sp : spl t = false
  o1 : 1 ≤ s.o
  o2 : s.o ≤ room
  r8 : s.r ≤ 8
  n50 : s.n ≤ 50
  k9 : s.k ≤ 9
theorem PlanR.bt {room : Nat} {t : T} {s : Sz} (g : PlanR room t s) : BT 10 3500 t := by
  obtain ⟨h1, h2, h3, h4⟩ := sz_bt g.sz
  have := sz_k g.sz
  have := g.n50
  exact ⟨h1, h2, by omega, by omega⟩
theorem planR_few : PlanR 3 (.tup [.str "seq", .tup [.str "draw", .int 1], .tup [.str "par", .tup [.str "draw", .int 2], .tup [.str "draw", .int 1]]]) ⟨3, 0, 5, 3⟩ :=
  ⟨by decide +kernel, by decide +kernel, by decide, by decide, by decide, by decide, by decide⟩
end Mi

/-! MiGraph: the graph of a plan: what Graph holds, in the store and plainly. -/
namespace Mi
open PySem L2
theorem Ok_congr {α : Type} {r : R α} {Q Q' : α → Sto → Prop} {E : Exn → Sto → Prop} (h : ∀ a st, Q a st ↔ Q' a st) : Ok r Q E ↔ Ok r Q' E := by
  cases r with
  | ok a st => exact h a st
  | exc e st => exact Iff.rfl
  | bad => exact Iff.rfl
def insF (st : Sto) (c : Nat) (t : T) : Option (List (Str × T)) := (insAt st c t).map (·.2)
def dctF (st : Sto) (t : T) : Option (List (Key × T)) := (dctAt st t).map (·.2)
/-- the object has no field of this name -/
def noKey (fs : List (Str × T)) (f : Str) : Prop := fs.lookup f = none
theorem insF_at {st : Sto} {c i : Nat} {t : T} {fs : List (Str × T)} : insAt st c t = some (i, fs) ↔ t = .ref i ∧ insF st c t = some fs := by
  unfold insF
  constructor
  · intro h
    refine ⟨?_, by rw [h]; rfl⟩
    unfold insAt at h
    split at h
    · split at h
      · split at h
        · cases h; rfl
        · cases h
      · cases h
    · cases h
  · rintro ⟨rfl, h⟩
    cases e : insAt st c (.ref i) with
    | none => rw [e] at h; cases h
    | some p =>
      rw [e] at h
      cases h
      have : p.1 = i := by
        simp only [insAt] at e
        split at e
        · split at e
          · cases e; rfl
          · cases e
        · cases e
      rw [← this]
theorem insF_ex {st : Sto} {c : Nat} {t : T} {fs : List (Str × T)} (h : insF st c t = some fs) : ∃ i, insAt st c t = some (i, fs) := by
  unfold insF at h
  cases e : insAt st c t with
  | none => rw [e] at h; cases h
  | some p => rw [e] at h; cases h; exact ⟨p.1, rfl⟩
theorem dctF_at {st : Sto} {i : Nat} {t : T} {fs : List (Key × T)} : dctAt st t = some (i, fs) ↔ t = .ref i ∧ dctF st t = some fs := by
  unfold dctF
  constructor
  · intro h
    refine ⟨?_, by rw [h]; rfl⟩
    unfold dctAt at h
    split at h
    · split at h
      · cases h; rfl
      · cases h
    · cases h
  · rintro ⟨rfl, h⟩
    cases e : dctAt st (.ref i) with
    | none => rw [e] at h; cases h
    | some p =>
      rw [e] at h
      cases h
      have : p.1 = i := by
        simp only [dctAt] at e
        split at e
        · cases e; rfl
        · cases e
      rw [← this]
section
variable {Q : T → Sto → Prop} {E : Exn → Sto → Prop} {ρ : Sl} {y0 : Option T} {st : Sto} {N : Sl → Sto → Prop} {Rt : T → Sto → Prop} {B C : Sl → Sto → Prop} {Ex : Exn → Sl → Sto → Prop}
theorem Ok_fld0 (c : Nat) (f : Str) (m : M T) : Ok (mFld c f m (y0 :: ρ) st) Q E ↔ Ok (m (y0 :: ρ) st) (fun x st1 => ∃ i fs t, insAt st1 c x = some (i, fs) ∧ fs.lookup f = some t ∧ Q t st1) E := by
  unfold mFld
  rw [Ok_bind]
  refine Ok_congr fun x st1 => ?_
  cases h : insAt st1 c x with
  | none => simp
  | some p =>
    obtain ⟨i, fs⟩ := p
    simp only [Option.some.injEq, Prod.mk.injEq]
    cases h2 : fs.lookup f with
    | none =>
      constructor
      · exact fun h => h.elim
      · rintro ⟨_, _, t, ⟨rfl, rfl⟩, h3, _⟩
        rw [h2] at h3; cases h3
    | some t =>
      constructor
      · exact fun h => ⟨_, _, t, ⟨rfl, rfl⟩, h2, h⟩
      · rintro ⟨_, _, u, ⟨rfl, rfl⟩, h3, h4⟩
        rw [h2] at h3; cases h3; exact h4
theorem OkS_fld0 (c : Nat) (f : Str) (mo mv : M T) : OkS (sFld c f mo mv (y0 :: ρ) st) N Rt B C Ex ↔ Ok (mv (y0 :: ρ) st) (fun y st1 => Ok (mo (y0 :: ρ) st1) (fun x st2 => ∃ i fs, insAt st2 c x = some (i, fs) ∧ fs.length < 1000 ∧ N (y0 :: ρ) (st2.set i (.ins c (putT f y fs)))) (fun e st => Ex e (y0 :: ρ) st)) (fun e st => Ex e (y0 :: ρ) st) := by
  unfold sFld
  rw [OkS_of]
  refine Ok_congr fun y st1 => ?_
  rw [OkS_of]
  refine Ok_congr fun x st2 => ?_
  cases h : insAt st2 c x with
  | none => simp [OkS]
  | some p =>
    obtain ⟨i, fs⟩ := p
    simp only [Option.some.injEq, Prod.mk.injEq]
    by_cases hl : fs.length < 1000
    · simp only [hl, if_true, OkS_nx]
      exact ⟨fun h => ⟨_, _, ⟨rfl, rfl⟩, hl, h⟩, fun ⟨_, _, ⟨e1, e2⟩, _, h⟩ => by subst e1; subst e2; exact h⟩
    · simp only [hl, if_false]
      exact ⟨fun h => h.elim, fun ⟨_, _, ⟨e1, e2⟩, h, _⟩ => by subst e1; subst e2; exact absurd h hl⟩
theorem OkS_fldAdd0 (c : Nat) (f : Str) (mo : M T) (b : Int) : OkS (sFldAdd c f mo (mC (.int b)) (y0 :: ρ) st) N Rt B C Ex ↔ Ok (mo (y0 :: ρ) st) (fun x st1 => ∃ i fs a, insAt st1 c x = some (i, fs) ∧ fs.lookup f = some (.int a) ∧ fs.length < 1000 ∧ N (y0 :: ρ) (st1.set i (.ins c (putT f (.int (a + b)) fs)))) (fun e st => Ex e (y0 :: ρ) st) := by
  unfold sFldAdd
  rw [OkS_of]
  refine Ok_congr fun x st1 => ?_
  cases h : insAt st1 c x with
  | none => simp [OkS]
  | some p =>
    obtain ⟨i, fs⟩ := p
    simp only [Option.some.injEq, Prod.mk.injEq]
    constructor
    · intro hh
      split at hh
      · rename_i a ea
        rw [OkS_of] at hh
        simp only [Ok_C, h] at hh
        by_cases hl : fs.length < 1000
        · simp only [hl, if_true, OkS_nx] at hh
          exact ⟨_, _, a, ⟨rfl, rfl⟩, ea, hl, hh⟩
        · simp [hl, OkS] at hh
      · exact hh.elim
    · rintro ⟨_, _, a, ⟨rfl, rfl⟩, ea, hl, hn⟩
      rw [ea]
      simp only [OkS_of, Ok_C, h, hl, if_true, OkS_nx]
      exact hn
@[simp] theorem Ok_dictS : Ok (mDictS (y0 :: ρ) st) Q E ↔ Q (.ref st.length) (st ++ [.dct []]) := Iff.rfl
theorem OkS_dput0 (mo mi mv : M T) : OkS (sDPut mo mi mv (y0 :: ρ) st) N Rt B C Ex ↔ Ok (mv (y0 :: ρ) st) (fun v st1 => Ok (mo (y0 :: ρ) st1) (fun x st2 => Ok (mi (y0 :: ρ) st2) (fun y st3 => ∃ i kvs k, dctAt st3 x = some (i, kvs) ∧ keyT y = some k ∧ kvs.length < sizeLine ∧ N (y0 :: ρ) (st3.set i (.dct (putKT kvs k v))))
    (fun e st => Ex e (y0 :: ρ) st)) (fun e st => Ex e (y0 :: ρ) st)) (fun e st => Ex e (y0 :: ρ) st) := by
  unfold sDPut
  rw [OkS_of]
  refine Ok_congr fun v st1 => ?_
  rw [OkS_of]
  refine Ok_congr fun x st2 => ?_
  rw [OkS_of]
  refine Ok_congr fun y st3 => ?_
  cases h : dctAt st3 x with
  | none => simp [OkS]
  | some p =>
    obtain ⟨i, kvs⟩ := p
    cases h2 : keyT y with
    | none => simp [OkS]
    | some k =>
      simp only [Option.some.injEq, Prod.mk.injEq]
      by_cases hl : kvs.length < sizeLine
      · simp only [hl, if_true, OkS_nx]
        exact ⟨fun h => ⟨_, _, _, ⟨rfl, rfl⟩, rfl, hl, h⟩, fun ⟨_, _, _, ⟨e1, e2⟩, e3, _, h⟩ => by subst e1; subst e2; subst e3; exact h⟩
      · simp only [hl, if_false]
        exact ⟨fun h => h.elim, fun ⟨_, _, _, ⟨e1, e2⟩, e3, h, _⟩ => by subst e1; subst e2; exact absurd h hl⟩
theorem Ok_methO0 (c n : Nat) (f : Str) (F : List T → Sto → R T) (mo : M T) (ma : M (List T)) : Ok (mMethO c n f F mo ma (y0 :: ρ) st) Q E ↔ Ok (mo (y0 :: ρ) st) (fun x st1 => ∃ i fs, insAt st1 c x = some (i, fs) ∧ fs.lookup f = none ∧ Ok (ma (y0 :: ρ) st1) (fun ts st2 => ts.length + 1 = n ∧ Ok (F (x :: ts) st2) Q E) E) E := by
  unfold mMethO
  rw [Ok_bind]
  refine Ok_congr fun x st1 => ?_
  cases h : insAt st1 c x with
  | none => simp
  | some p =>
    obtain ⟨i, fs⟩ := p
    simp only [Option.some.injEq, Prod.mk.injEq]
    cases h2 : fs.lookup f with
    | none =>
      simp only [Ok_bind, Ok_iteB]
      exact ⟨fun h => ⟨_, _, ⟨rfl, rfl⟩, h2, h⟩, fun ⟨_, _, ⟨e1, e2⟩, _, h⟩ => h⟩
    | some t =>
      constructor
      · exact fun h => h.elim
      · rintro ⟨_, _, ⟨rfl, rfl⟩, h3, _⟩
        rw [h2] at h3; cases h3
@[simp] theorem Ok_fld (c : Nat) (f : Str) (m : M T) : Ok (mFld c f m (y0 :: ρ) st) Q E ↔ Ok (m (y0 :: ρ) st) (fun x st1 => ∃ fs, insF st1 c x = some fs ∧ ∃ t, fs.lookup f = some t ∧ Q t st1) E :=
  (Ok_fld0 c f m).trans (Ok_congr fun x st1 => ⟨fun ⟨i, fs, t, h1, h2, h3⟩ => ⟨fs, (insF_at.mp h1).2, t, h2, h3⟩, fun ⟨fs, h1, t, h2, h3⟩ => by obtain ⟨i, e⟩ := insF_ex h1; exact ⟨i, fs, t, e, h2, h3⟩⟩)
@[simp] theorem OkS_fld (c : Nat) (f : Str) (mo mv : M T) : OkS (sFld c f mo mv (y0 :: ρ) st) N Rt B C Ex ↔ Ok (mv (y0 :: ρ) st) (fun y st1 => Ok (mo (y0 :: ρ) st1) (fun x st2 => ∃ i, x = .ref i ∧ ∃ fs, insF st2 c x = some fs ∧ fs.length < 1000 ∧ N (y0 :: ρ) (st2.set i (.ins c (putT f y fs)))) (fun e st => Ex e (y0 :: ρ) st)) (fun e st => Ex e (y0 :: ρ) st) :=
  (OkS_fld0 c f mo mv).trans (Ok_congr fun y st1 => Ok_congr fun x st2 => ⟨fun ⟨i, fs, h1, h2, h3⟩ => ⟨i, (insF_at.mp h1).1, fs, (insF_at.mp h1).2, h2, h3⟩, fun ⟨i, h0, fs, h1, h2, h3⟩ => ⟨i, fs, insF_at.mpr ⟨h0, h1⟩, h2, h3⟩⟩)
@[simp] theorem OkS_fldAdd (c : Nat) (f : Str) (mo : M T) (b : Int) : OkS (sFldAdd c f mo (mC (.int b)) (y0 :: ρ) st) N Rt B C Ex ↔ Ok (mo (y0 :: ρ) st) (fun x st1 => ∃ i, x = .ref i ∧ ∃ fs, insF st1 c x = some fs ∧ ∃ a, fs.lookup f = some (.int a) ∧ fs.length < 1000 ∧ N (y0 :: ρ) (st1.set i (.ins c (putT f (.int (a + b)) fs)))) (fun e st => Ex e (y0 :: ρ) st) :=
  (OkS_fldAdd0 c f mo b).trans (Ok_congr fun x st1 => ⟨fun ⟨i, fs, t, h1, h2, h3⟩ => ⟨i, (insF_at.mp h1).1, fs, (insF_at.mp h1).2, t, h2, h3⟩, fun ⟨i, h0, fs, h1, t, h2, h3⟩ => ⟨i, fs, t, insF_at.mpr ⟨h0, h1⟩, h2, h3⟩⟩)
@[simp] theorem OkS_dput (mo mi mv : M T) : OkS (sDPut mo mi mv (y0 :: ρ) st) N Rt B C Ex ↔ Ok (mv (y0 :: ρ) st) (fun v st1 => Ok (mo (y0 :: ρ) st1) (fun x st2 => Ok (mi (y0 :: ρ) st2) (fun y st3 => ∃ i, x = .ref i ∧ ∃ kvs, dctF st3 x = some kvs ∧ ∃ k, keyT y = some k ∧ kvs.length < sizeLine ∧ N (y0 :: ρ) (st3.set i (.dct (putKT kvs k v))))
    (fun e st => Ex e (y0 :: ρ) st)) (fun e st => Ex e (y0 :: ρ) st)) (fun e st => Ex e (y0 :: ρ) st) :=
  (OkS_dput0 mo mi mv).trans (Ok_congr fun v st1 => Ok_congr fun x st2 => Ok_congr fun y st3 => ⟨fun ⟨i, fs, t, h1, h2, h3⟩ => ⟨i, (dctF_at.mp h1).1, fs, (dctF_at.mp h1).2, t, h2, h3⟩, fun ⟨i, h0, fs, h1, t, h2, h3⟩ => ⟨i, fs, t, dctF_at.mpr ⟨h0, h1⟩, h2, h3⟩⟩)
@[simp] theorem Ok_methO (c n : Nat) (f : Str) (F : List T → Sto → R T) (mo : M T) (ma : M (List T)) : Ok (mMethO c n f F mo ma (y0 :: ρ) st) Q E ↔ Ok (mo (y0 :: ρ) st) (fun x st1 => ∃ fs, insF st1 c x = some fs ∧ noKey fs f ∧ Ok (ma (y0 :: ρ) st1) (fun ts st2 => ts.length + 1 = n ∧ Ok (F (x :: ts) st2) Q E) E) E :=
  (Ok_methO0 c n f F mo ma).trans (Ok_congr fun x st1 => ⟨fun ⟨i, fs, h1, h2, h3⟩ => ⟨fs, (insF_at.mp h1).2, h2, h3⟩, fun ⟨fs, h1, h2, h3⟩ => by obtain ⟨i, e⟩ := insF_ex h1; exact ⟨i, fs, e, h2, h3⟩⟩)
@[simp] theorem Ok_make (n c : Nat) (F : List T → Sto → R T) (m : M (List T)) : Ok (mMake n c F m (y0 :: ρ) st) Q E ↔ Ok (m (y0 :: ρ) st) (fun ts st1 => ts.length + 1 = n ∧ Ok (F (.ref st1.length :: ts) (st1 ++ [.ins c []])) (fun r st2 => r = .non ∧ Q (.ref st1.length) st2) E) E := by
  unfold mMake
  rw [Ok_bind]
  refine Ok_congr fun ts st1 => ?_
  rw [Ok_iteB, Ok_bind]
  refine and_congr Iff.rfl (Ok_congr fun r st2 => ?_)
  cases r <;> simp
@[simp] theorem Ok_star (a : M T) (b : M (List T)) {Q : List T → Sto → Prop} : Ok (mStar a b (y0 :: ρ) st) Q E ↔ Ok (a (y0 :: ρ) st) (fun x st1 => ∃ xs, seqR st1 x = some xs ∧ Ok (b (y0 :: ρ) st1) (fun ys st2 => Q (xs ++ ys) st2) E) E := by
  unfold mStar
  rw [Ok_bind]
  refine Ok_congr fun x st1 => ?_
  cases h : seqR st1 x <;> simp
end
/-! ### Graph -/
def keyL (k : List Int) : T := .tup (k.map .int)
def numL (b : List Nat) : T := .lst (b.map fun (n : Nat) => .int n)
/-- what a Graph holds: uses, homes, before, retries, within, last -/
structure Gs where
  u : List T
  h : List (List Int)
  b : List (List Nat)
  r : List (List Nat)
  w : List (Nat × List Nat)
  l : Nat
def Gs.nil : Gs := ⟨[], [], [], [], [], 0⟩
def flds (n : Nat) (l : Int) : List (Str × T) := [("uses", .ref (n + 1)), ("homes", .ref (n + 2)), ("before", .ref (n + 3)), ("retries", .ref (n + 4)), ("within", .ref (n + 5)), ("last", .int l)]
def wT (w : List (Nat × List Nat)) : List (Key × T) := w.map fun p => (.inl p.1, numL p.2)
/-- a Graph in the store, at the place pre.length -/
def gst (pre post : Sto) (s : Gs) : Sto := pre ++ (.ins 0 (flds pre.length s.l) :: .lst s.u :: .lst (s.h.map keyL) :: .lst (s.b.map numL) :: .lst (s.r.map numL) :: .dct (wT s.w) :: post)
section
variable {pre post : Sto} {s : Gs} {n : Nat} {l : Int}
@[simp] theorem lk_uses : (flds n l).lookup ("uses" : Str) = some (.ref (n + 1)) := by simp [flds, List.lookup]
@[simp] theorem lk_homes : (flds n l).lookup ("homes" : Str) = some (.ref (n + 2)) := by simp [flds, List.lookup, show (("homes" : Str) == "uses") = false by decide +kernel]
@[simp] theorem lk_before : (flds n l).lookup ("before" : Str) = some (.ref (n + 3)) := by simp [flds, List.lookup, show (("before" : Str) == "uses") = false by decide +kernel, show (("before" : Str) == "homes") = false by decide +kernel]
@[simp] theorem lk_retries : (flds n l).lookup ("retries" : Str) = some (.ref (n + 4)) := by simp [flds, List.lookup, show (("retries" : Str) == "uses") = false by decide +kernel, show (("retries" : Str) == "homes") = false by decide +kernel, show (("retries" : Str) == "before") = false by decide +kernel]
@[simp] theorem lk_within : (flds n l).lookup ("within" : Str) = some (.ref (n + 5)) := by simp [flds, List.lookup, show (("within" : Str) == "uses") = false by decide +kernel, show (("within" : Str) == "homes") = false by decide +kernel, show (("within" : Str) == "before") = false by decide +kernel, show (("within" : Str) == "retries") = false by decide +kernel]
@[simp] theorem lk_last : (flds n l).lookup ("last" : Str) = some (.int l) := by simp [flds, List.lookup, show (("last" : Str) == "uses") = false by decide +kernel, show (("last" : Str) == "homes") = false by decide +kernel, show (("last" : Str) == "before") = false by decide +kernel, show (("last" : Str) == "retries") = false by decide +kernel, show (("last" : Str) == "within") = false by decide +kernel]
@[simp] theorem lk_add : (flds n l).lookup ("add" : Str) = none := by simp [flds, List.lookup, show (("add" : Str) == "uses") = false by decide +kernel, show (("add" : Str) == "homes") = false by decide +kernel, show (("add" : Str) == "before") = false by decide +kernel, show (("add" : Str) == "retries") = false by decide +kernel, show (("add" : Str) == "within") = false by decide +kernel, show (("add" : Str) == "last") = false by decide +kernel]
@[simp] theorem lk_put : (flds n l).lookup ("put" : Str) = none := by simp [flds, List.lookup, show (("put" : Str) == "uses") = false by decide +kernel, show (("put" : Str) == "homes") = false by decide +kernel, show (("put" : Str) == "before") = false by decide +kernel, show (("put" : Str) == "retries") = false by decide +kernel, show (("put" : Str) == "within") = false by decide +kernel, show (("put" : Str) == "last") = false by decide +kernel]
@[simp] theorem lk_add_par : (flds n l).lookup ("add_par" : Str) = none := by simp [flds, List.lookup, show (("add_par" : Str) == "uses") = false by decide +kernel, show (("add_par" : Str) == "homes") = false by decide +kernel, show (("add_par" : Str) == "before") = false by decide +kernel, show (("add_par" : Str) == "retries") = false by decide +kernel, show (("add_par" : Str) == "within") = false by decide +kernel, show (("add_par" : Str) == "last") = false by decide +kernel]
@[simp] theorem lk_conc : (flds n l).lookup ("are_concurrent" : Str) = none := by simp [flds, List.lookup, show (("are_concurrent" : Str) == "uses") = false by decide +kernel, show (("are_concurrent" : Str) == "homes") = false by decide +kernel, show (("are_concurrent" : Str) == "before") = false by decide +kernel, show (("are_concurrent" : Str) == "retries") = false by decide +kernel, show (("are_concurrent" : Str) == "within") = false by decide +kernel, show (("are_concurrent" : Str) == "last") = false by decide +kernel]
@[simp] theorem lk_on : (flds n l).lookup ("on_stream" : Str) = none := by simp [flds, List.lookup, show (("on_stream" : Str) == "uses") = false by decide +kernel, show (("on_stream" : Str) == "homes") = false by decide +kernel, show (("on_stream" : Str) == "before") = false by decide +kernel, show (("on_stream" : Str) == "retries") = false by decide +kernel, show (("on_stream" : Str) == "within") = false by decide +kernel, show (("on_stream" : Str) == "last") = false by decide +kernel]
@[simp] theorem nk_add : noKey (flds n l) "add" := lk_add
@[simp] theorem nk_put : noKey (flds n l) "put" := lk_put
@[simp] theorem nk_add_par : noKey (flds n l) "add_par" := lk_add_par
@[simp] theorem nk_conc : noKey (flds n l) "are_concurrent" := lk_conc
@[simp] theorem nk_on : noKey (flds n l) "on_stream" := lk_on
@[simp] theorem flds_len : (flds n l).length = 6 := rfl
@[simp] theorem flds_last {x : Int} : putT "last" (.int x) (flds n l) = flds n x := by simp [flds, putT, show (("uses" : Str) = "last") = False by decide +kernel, show (("homes" : Str) = "last") = False by decide +kernel, show (("before" : Str) = "last") = False by decide +kernel, show (("retries" : Str) = "last") = False by decide +kernel, show (("within" : Str) = "last") = False by decide +kernel]
theorem gst_at (j : Nat) : (gst pre post s)[pre.length + j]? = (O.ins 0 (flds pre.length s.l) :: .lst s.u :: .lst (s.h.map keyL) :: .lst (s.b.map numL) :: .lst (s.r.map numL) :: .dct (wT s.w) :: post)[j]? := by
  unfold gst
  rw [List.getElem?_append_right (by omega)]
  congr 1; omega
@[simp] theorem gst_0 : (gst pre post s)[pre.length]? = some (.ins 0 (flds pre.length s.l)) := gst_at 0
@[simp] theorem gst_1 : (gst pre post s)[pre.length + 1]? = some (.lst s.u) := gst_at 1
@[simp] theorem gst_2 : (gst pre post s)[pre.length + 2]? = some (.lst (s.h.map keyL)) := gst_at 2
@[simp] theorem gst_3 : (gst pre post s)[pre.length + 3]? = some (.lst (s.b.map numL)) := gst_at 3
@[simp] theorem gst_4 : (gst pre post s)[pre.length + 4]? = some (.lst (s.r.map numL)) := gst_at 4
@[simp] theorem gst_5 : (gst pre post s)[pre.length + 5]? = some (.dct (wT s.w)) := gst_at 5
@[simp] theorem gst_ins : insF (gst pre post s) 0 (.ref pre.length) = some (flds pre.length s.l) := by simp [insF, insAt]
@[simp] theorem gst_dct : dctF (gst pre post s) (.ref (pre.length + 5)) = some (wT s.w) := by simp [dctF, dctAt]
@[simp] theorem gst_l1 : lstR (gst pre post s) (.ref (pre.length + 1)) = some s.u := by simp [lstR]
@[simp] theorem gst_l2 : lstR (gst pre post s) (.ref (pre.length + 2)) = some (s.h.map keyL) := by simp [lstR]
@[simp] theorem gst_l3 : lstR (gst pre post s) (.ref (pre.length + 3)) = some (s.b.map numL) := by simp [lstR]
@[simp] theorem gst_l4 : lstR (gst pre post s) (.ref (pre.length + 4)) = some (s.r.map numL) := by simp [lstR]
@[simp] theorem gst_t1 : tyM (gst pre post s) (.ref (pre.length + 1)) = some "list" := by simp [tyM]
@[simp] theorem gst_t2 : tyM (gst pre post s) (.ref (pre.length + 2)) = some "list" := by simp [tyM]
@[simp] theorem gst_t3 : tyM (gst pre post s) (.ref (pre.length + 3)) = some "list" := by simp [tyM]
@[simp] theorem gst_t4 : tyM (gst pre post s) (.ref (pre.length + 4)) = some "list" := by simp [tyM]
theorem set_app {α : Type} (a b : List α) (j : Nat) (x : α) : (a ++ b).set (a.length + j) x = a ++ b.set j x := by
  rw [List.set_append_right _ _ (by omega)]
  congr 2; omega
@[simp] theorem gst_setl {x : Nat} : (gst pre post s).set pre.length (.ins 0 (flds pre.length (x : Int))) = gst pre post { s with l := x } := by
  unfold gst
  exact set_app _ _ 0 _
@[simp] theorem gst_setl1 : (gst pre post s).set pre.length (.ins 0 (flds pre.length ((s.l : Int) + 1))) = gst pre post { s with l := s.l + 1 } := gst_setl (x := s.l + 1)
variable {Q : T → Sto → Prop} {E : Exn → Sto → Prop}
@[simp] theorem gst_app1 {a : T} : Ok (fAppend (.ref (pre.length + 1)) [a] (gst pre post s)) Q E ↔ s.u.length < sizeLine ∧ Q .non (gst pre post { s with u := s.u ++ [a] }) := by
  have e : (gst pre post s).set (pre.length + 1) (.lst (s.u ++ [a])) = gst pre post { s with u := s.u ++ [a] } := by unfold gst; exact set_app _ _ 1 _
  simp [fAppend, atS, e]
@[simp] theorem gst_app2 {a : List Int} : Ok (fAppend (.ref (pre.length + 2)) [keyL a] (gst pre post s)) Q E ↔ s.h.length < sizeLine ∧ Q .non (gst pre post { s with h := s.h ++ [a] }) := by
  have e : (gst pre post s).set (pre.length + 2) (.lst (s.h.map keyL ++ [keyL a])) = gst pre post { s with h := s.h ++ [a] } := by
    rw [show s.h.map keyL ++ [keyL a] = (s.h ++ [a]).map keyL by simp]
    unfold gst; exact set_app _ _ 2 _
  simp [fAppend, atS, e]
@[simp] theorem gst_app3 {a : List Nat} : Ok (fAppend (.ref (pre.length + 3)) [numL a] (gst pre post s)) Q E ↔ s.b.length < sizeLine ∧ Q .non (gst pre post { s with b := s.b ++ [a] }) := by
  have e : (gst pre post s).set (pre.length + 3) (.lst (s.b.map numL ++ [numL a])) = gst pre post { s with b := s.b ++ [a] } := by
    rw [show s.b.map numL ++ [numL a] = (s.b ++ [a]).map numL by simp]
    unfold gst; exact set_app _ _ 3 _
  simp [fAppend, atS, e]
@[simp] theorem gst_app4 {a : List Nat} : Ok (fAppend (.ref (pre.length + 4)) [numL a] (gst pre post s)) Q E ↔ s.r.length < sizeLine ∧ Q .non (gst pre post { s with r := s.r ++ [a] }) := by
  have e : (gst pre post s).set (pre.length + 4) (.lst (s.r.map numL ++ [numL a])) = gst pre post { s with r := s.r ++ [a] } := by
    rw [show s.r.map numL ++ [numL a] = (s.r ++ [a]).map numL by simp]
    unfold gst; exact set_app _ _ 4 _
  simp [fAppend, atS, e]
/-- within[n] = v -/
def putN (w : List (Nat × List Nat)) (n : Nat) (v : List Nat) : List (Nat × List Nat) :=
  if (w.any fun p => decide (p.1 = n)) = true then w.map (fun p => if p.1 = n then (p.1, v) else p) else w ++ [(n, v)]
theorem putN_len (w : List (Nat × List Nat)) (n : Nat) (v : List Nat) : (putN w n v).length ≤ w.length + 1 := by
  unfold putN; split <;> simp
theorem putKT_wT (w : List (Nat × List Nat)) (n : Nat) (v : List Nat) : putKT (wT w) (.inl (n : Int)) (numL v) = wT (putN w n v) := by
  have e : ∀ p : Nat × List Nat, decide ((Sum.inl (p.1 : Int) : Key) = .inl (n : Int)) = decide (p.1 = n) := fun p => by
    rw [decide_eq_decide]
    constructor
    · intro h; have := Sum.inl.inj h; omega
    · rintro rfl; rfl
  unfold putKT putN wT
  rw [List.any_map]
  simp only [Function.comp_def, e]
  split
  · rw [List.map_map, List.map_map]
    refine List.map_congr_left fun p _ => ?_
    simp only [Function.comp_def]
    have := e p
    by_cases h : p.1 = n
    · rw [if_pos h, if_pos (by rw [h])]
    · rw [if_neg h, if_neg (fun hh => h (by have := Sum.inl.inj hh; omega))]
  · simp
theorem gst_put {n : Nat} {v : List Nat} : (gst pre post s).set (pre.length + 5) (.dct (wT (putN s.w n v))) = gst pre post { s with w := putN s.w n v } := by unfold gst; exact set_app _ _ 5 _
end
/-! ### the operations of a plan -/
def gPut (a : T) (key : List Int) (bef ret : List Nat) (s : Gs) : Gs := ⟨s.u ++ [a], s.h ++ [key], s.b ++ [bef], s.r ++ [ret], s.w, s.l⟩
abbrev AddF := T → List Int → List Nat → List Nat → Gs → Gs
def gSpl (key : List Int) (bef ret : List Nat) (n0 : Nat) : List T → Gs → Gs
  | [], s => s
  | p :: ps, s => if spl p then gSpl key bef ret n0 ps (gPut .non key (bef ++ List.range' n0 (s.u.length - n0)) ret s) else gSpl key bef ret n0 ps s
def gSeq (A : AddF) (key : List Int) (bef ret : List Nat) (n0 : Nat) : List T → Gs → Gs
  | [], s => s
  | p :: ps, s => gSeq A key bef ret n0 ps (A p key (bef ++ List.range' n0 (s.u.length - n0)) ret s)
def inner1 : T → T
  | .tup [_, q] => q
  | _ => .non
def isRetry : T → Bool
  | .tup (.str w :: _) => decide (w = "retry")
  | _ => false
def gPar (A : AddF) (key : List Int) (bef ret : List Nat) : List T → Nat → Gs → Gs
  | [], _, s => s
  | p :: ps, j, s => if spl p then gPar A key bef ret ps (j + 1) (A (inner1 p) [(j : Int)] bef ret { s with w := putN s.w j (if isRetry (inner1 p) then ret ++ [s.l] else ret) })
    else gPar A key bef ret ps j (A p key bef ret s)
def intOf : T → Int
  | .int i => i
  | _ => 0
def nspl (ps : List T) : Nat := (ps.filter spl).length
def gAdd : Nat → AddF
  | 0 => fun _ _ _ _ s => s
  | d + 1 => fun t key bef ret s => match t with
    | .tup (.str w :: ps) =>
      if w = "draw" then (match ps with | [a] => gPut a key bef ret s | _ => s)
      else if w = "par" then gPar (gAdd d) key (bef ++ List.range' s.u.length (nspl ps)) ret ps s.u.length (gSpl key bef ret s.u.length ps s)
      else if w = "named" then (match ps with | [a, p] => gAdd d p (key ++ [intOf a]) bef ret s | _ => s)
      else if w = "retry" then (match ps with | [p] => gAdd d p key bef (ret ++ [s.l]) { s with l := s.l + 1 } | _ => s)
      else gSeq (gAdd d) key bef ret s.u.length ps s
    | _ => s
structure Grw (s s' : Gs) (o q x : Nat) : Prop where
  u : s'.u.length = s.u.length + o
  h : s'.h.length = s.h.length + o
  b : s'.b.length = s.b.length + o
  r : s'.r.length = s.r.length + o
  w : s'.w.length ≤ s.w.length + x
  l : s'.l = s.l + q
theorem Grw.refl {s : Gs} : Grw s s 0 0 0 := ⟨rfl, rfl, rfl, rfl, Nat.le_refl _, rfl⟩
theorem Grw.trans {s s1 s2 : Gs} {o r x o' r' x' : Nat} (a : Grw s s1 o r x) (b : Grw s1 s2 o' r' x') : Grw s s2 (o + o') (r + r') (x + x') :=
  ⟨by rw [b.u, a.u]; omega, by rw [b.h, a.h]; omega, by rw [b.b, a.b]; omega, by rw [b.r, a.r]; omega, by have := a.w; have := b.w; omega, by rw [b.l, a.l]; omega⟩
theorem Grw.to {s s1 : Gs} {o r x o' r' x' : Nat} (a : Grw s s1 o r x) (h1 : o = o') (h2 : r = r') (h3 : x ≤ x') : Grw s s1 o' r' x' := by
  subst h1; subst h2; exact ⟨a.u, a.h, a.b, a.r, by have := a.w; omega, a.l⟩
theorem grw_put {a : T} {key : List Int} {bef ret : List Nat} {s : Gs} : Grw s (gPut a key bef ret s) 1 0 0 := ⟨by simp [gPut], by simp [gPut], by simp [gPut], by simp [gPut], by simp [gPut], by simp [gPut]⟩
theorem nspl_cons {p : T} {ps : List T} : nspl (p :: ps) = (if spl p = true then 1 else 0) + nspl ps := by
  unfold nspl
  by_cases h : spl p = true
  · rw [List.filter_cons_of_pos h, if_pos h, List.length_cons]; omega
  · rw [List.filter_cons_of_neg h, if_neg h]; omega
theorem grw_spl {key : List Int} {bef ret : List Nat} {n0 : Nat} : ∀ {ps : List T} {s : Gs}, Grw s (gSpl key bef ret n0 ps s) (nspl ps) 0 0
  | [], s => by simpa [gSpl, nspl] using Grw.refl
  | p :: ps, s => by
    rw [nspl_cons]
    unfold gSpl
    by_cases h : spl p = true
    · rw [if_pos h, if_pos h]
      exact (grw_put.trans grw_spl).to rfl rfl (by omega)
    · rw [if_neg h, if_neg h]
      exact grw_spl.to (by omega) rfl (by omega)
theorem sz_spl {d : Nat} {p : T} {u : Sz} (h : sz d p = some u) (hs : spl p = true) : ∃ y v, p = .tup [.str "split", y] ∧ sz d y = some v ∧ spl y = false ∧ u = Sz.add ⟨1, 0, 1, 1⟩ v := by
  have hq := sz_shape h
  clear h
  obtain ⟨w, ps, rfl, h⟩ := hq
  have hw : w = "split" := of_decide_eq_true hs
  subst hw
  rcases h with ⟨hw, _⟩ | ⟨_, par, inner, a, e, rfl, hh, h⟩
  · exact absurd hw (by simp)
  · unfold headP at hh
    simp at hh
    split at hh
    · rename_i y
      simp only [Option.some.injEq, Prod.mk.injEq] at hh
      obtain ⟨rfl, rfl, rfl⟩ := hh
      simp only [szL] at h
      split at h
      · cases h
      · rename_i v hv
        split at h
        · cases h
        · rename_i hn
          cases h
          exact ⟨y, v, rfl, sz_at hv _ (by have := sz_k hv; omega), by simpa using hn, rfl⟩
    · cases hh
section
variable {d : Nat} {A : AddF} (hA : ∀ t z, sz d t = some z → spl t = false → ∀ key bef ret s, Grw s (A t key bef ret s) z.o z.r z.o)
include hA
theorem grw_seq {key : List Int} {bef ret : List Nat} {n0 : Nat} : ∀ {ps : List T} {s : Gs} {a z : Sz}, szL (sz d) false ps a = some z → ∃ o r, z.o = a.o + o ∧ z.r = a.r + r ∧ Grw s (gSeq A key bef ret n0 ps s) o r o
  | [], s, a, z, h => by
    simp only [szL, Option.some.injEq] at h
    subst h
    exact ⟨0, 0, rfl, rfl, Grw.refl⟩
  | p :: ps, s, a, z, h => by
    simp only [szL] at h
    split at h
    · cases h
    · rename_i u hu
      split at h
      · cases h
      · rename_i hp
        obtain ⟨o, r, h1, h2, h3⟩ := grw_seq (key := key) (bef := bef) (ret := ret) (n0 := n0) (s := A p key (bef ++ List.range' n0 (s.u.length - n0)) ret s) h
        simp only [Sz.add] at h1 h2
        exact ⟨u.o + o, u.r + r, by omega, by omega, (hA p u hu (by simpa using hp) _ _ _ _).trans h3⟩
theorem grw_par {key : List Int} {bef ret : List Nat} : ∀ {ps : List T} {j : Nat} {s : Gs} {a z : Sz}, szL (sz d) true ps a = some z → ∃ o r, z.o = a.o + nspl ps + o ∧ z.r = a.r + r ∧ Grw s (gPar A key bef ret ps j s) o r (nspl ps + o)
  | [], j, s, a, z, h => by
    simp only [szL, Option.some.injEq] at h
    subst h
    exact ⟨0, 0, rfl, rfl, Grw.refl⟩
  | p :: ps, j, s, a, z, h => by
    simp only [szL] at h
    split at h
    · cases h
    · rename_i u hu
      simp only [Bool.not_true, Bool.and_false, Bool.false_eq_true, if_false] at h
      rw [nspl_cons]
      unfold gPar
      by_cases hs : spl p = true
      · rw [if_pos hs, if_pos hs]
        obtain ⟨y, v, rfl, hy, hys, rfl⟩ := sz_spl hu hs
        obtain ⟨o, r, h1, h2, h3⟩ := grw_par (key := key) (bef := bef) (ret := ret) (j := j + 1) (s := A y [(j : Int)] bef ret { s with w := putN s.w j (if isRetry y then ret ++ [s.l] else ret) }) h
        simp only [Sz.add] at h1 h2
        refine ⟨v.o + o, v.r + r, by omega, by omega, ?_⟩
        have g1 : Grw s { s with w := putN s.w j (if isRetry y then ret ++ [s.l] else ret) } 0 0 1 := ⟨rfl, rfl, rfl, rfl, putN_len _ _ _, rfl⟩
        exact ((g1.trans (hA y v hy hys _ _ _ _)).trans h3).to (by omega) (by omega) (by omega)
      · rw [if_neg hs, if_neg hs]
        obtain ⟨o, r, h1, h2, h3⟩ := grw_par (key := key) (bef := bef) (ret := ret) (j := j) (s := A p key bef ret s) h
        simp only [Sz.add] at h1 h2
        exact ⟨u.o + o, u.r + r, by omega, by omega, ((hA p u hu (by simpa using hs) _ _ _ _).trans h3).to rfl rfl (by omega)⟩
end
theorem szL_one {f : T → Option Sz} {par : Bool} {y : T} {a z : Sz} (h : szL f par [y] a = some z) : ∃ v, f y = some v ∧ (spl y && !par) = false ∧ z = a.add v := by
  simp only [szL] at h
  split at h
  · cases h
  · rename_i v hv
    split at h
    · cases h
    · rename_i hn
      cases h
      exact ⟨v, hv, by simpa using hn, rfl⟩
theorem grw_add : ∀ (d : Nat) (t : T) (z : Sz), sz d t = some z → spl t = false → ∀ key bef ret s, Grw s (gAdd d t key bef ret s) z.o z.r z.o
  | 0, t, z, h, _, _, _, _, _ => by simp [sz] at h
  | d + 1, t, z, h, hsp, key, bef, ret, s => by
    have hs := sz_shape h
    clear h
    obtain ⟨w, ps, rfl, h⟩ := hs
    have IH := grw_add d
    rcases h with ⟨rfl, a, rfl, hb, rfl⟩ | ⟨hw, par, inner, a, e, he, hh, h⟩
    · simp only [gAdd, if_true]
      exact grw_put.to rfl rfl (by omega)
    · obtain rfl : d = e := by omega
      rcases headP_wrd hh with ⟨rfl, rfl, rfl, rfl, _⟩ | ⟨rfl, rfl, rfl, rfl, _⟩ | ⟨rfl, rfl, rfl, x, y, rfl, hb, rfl⟩ | ⟨rfl, rfl, rfl, y, rfl, rfl⟩ | ⟨rfl, rfl, rfl, y, rfl, rfl⟩
      · simp only [gAdd, n_seq_draw, n_seq_par, n_seq_named, n_seq_retry, if_false]
        obtain ⟨o, r, h1, h2, h3⟩ := grw_seq (key := key) (bef := bef) (ret := ret) (n0 := s.u.length) (s := s) IH h
        exact h3.to (by simp only at h1; omega) (by simp only at h2; omega) (by simp only at h1; omega)
      · simp only [gAdd, n_par_draw, if_false, if_true]
        obtain ⟨o, r, h1, h2, h3⟩ := grw_par (key := key) (bef := bef ++ List.range' s.u.length (nspl inner)) (ret := ret) (j := s.u.length) (s := gSpl key bef ret s.u.length inner s) IH h
        exact (grw_spl.trans h3).to (by simp only at h1; omega) (by simp only at h2; omega) (by simp only at h1; omega)
      · simp only [gAdd, n_named_draw, n_named_par, if_false, if_true]
        obtain ⟨v, hv, hn, rfl⟩ := szL_one h
        exact (IH y v hv (by simpa using hn) _ _ _ _).to (by simp [Sz.add]) (by simp [Sz.add]) (by simp [Sz.add])
      · simp only [gAdd, n_retry_draw, n_retry_par, n_retry_named, if_false, if_true]
        obtain ⟨v, hv, hn, rfl⟩ := szL_one h
        have g1 : Grw s { s with l := s.l + 1 } 0 1 0 := ⟨rfl, rfl, rfl, rfl, Nat.le_refl _, rfl⟩
        exact (g1.trans (IH y v hv (by simpa using hn) _ _ _ _)).to (by simp [Sz.add]) (by simp [Sz.add]) (by simp [Sz.add])
      · simp [spl] at hsp
/-! ### for the walk -/
structure Fit (s : Gs) (o : Nat) : Prop where
  u : s.u.length + o ≤ 9000
  h : s.h.length + o ≤ 9000
  b : s.b.length + o ≤ 9000
  r : s.r.length + o ≤ 9000
  w : s.w.length + o ≤ 9000
theorem Fit.grw {s s' : Gs} {o p q x : Nat} (f : Fit s o) (g : Grw s s' p q x) {o' : Nat} (h1 : p + o' ≤ o) (h2 : x + o' ≤ o) : Fit s' o' :=
  ⟨by have := f.u; have := g.u; omega, by have := f.h; have := g.h; omega, by have := f.b; have := g.b; omega, by have := f.r; have := g.r; omega, by have := f.w; have := g.w; omega⟩
section
variable {Q : T → Sto → Prop} {E : Exn → Sto → Prop} {st : Sto}
@[simp] theorem Ok_addN (a b : List Nat) : Ok (opAdd (numL a) (numL b) st) Q E ↔ a.length + b.length ≤ sizeLine ∧ Q (numL (a ++ b)) st := by
  show Ok (opAdd (.lst _) (.lst _) st) Q E ↔ _
  rw [Ok_addL]
  simp [numL]
@[simp] theorem seqR_key (k : List Int) : seqR st (keyL k) = some (k.map .int) := rfl
@[simp] theorem seqR_num (k : List Nat) : seqR st (numL k) = some (k.map fun (n : Nat) => .int n) := rfl
theorem key_snoc (k : List Int) (v : Int) : T.tup (k.map T.int ++ [.int v]) = keyL (k ++ [v]) := by simp [keyL]
theorem num_snoc (k : List Nat) (v : Nat) : T.lst ((k.map fun (n : Nat) => T.int n) ++ [.int v]) = numL (k ++ [v]) := by simp [numL]
theorem num_nil : T.lst [] = numL [] := rfl
theorem key_one (v : Int) : T.tup [.int v] = keyL [v] := rfl
theorem num_one (v : Nat) : T.lst [.int v] = numL [v] := rfl
end
end Mi

/-! MiLive: lists that may stand in the store. -/
namespace Mi
open PySem L2
/-- a list: one by itself, or one of the store -/
def LAt (st : Sto) (x : T) (es : List T) : Prop := x = .lst es ∨ ∃ i, x = .ref i ∧ st[i]? = some (.lst es)
theorem LAt.ext {st g : Sto} {x : T} {es : List T} (h : LAt st x es) : LAt (st ++ g) x es := by
  rcases h with rfl | ⟨i, rfl, h⟩
  · exact .inl rfl
  · refine .inr ⟨i, rfl, ?_⟩
    rw [List.getElem?_append_left (List.getElem?_eq_some_iff.mp h).1]; exact h
theorem LAt.lstR {st : Sto} {x : T} {es : List T} (h : LAt st x es) : lstR st x = some es := by
  rcases h with rfl | ⟨i, rfl, h⟩
  · rfl
  · simp [Mi.lstR, h]
theorem LAt.lstD {st : Sto} {x : T} {es : List T} (h : LAt st x es) : lstD st x = some es := by
  rcases h with rfl | ⟨i, rfl, h⟩
  · rfl
  · simp [Mi.lstD, h]
theorem LAt.len {st : Sto} {x : T} {es : List T} (h : LAt st x es) : fLen [x] st = .ok (.int es.length) st := by
  rcases h with rfl | ⟨i, rfl, h⟩
  · rfl
  · simp [fLen, seqR, Mi.lstR, h]
theorem LAt.add {st : Sto} {x y : T} {a b : List T} (h : LAt st x a) (g : LAt st y b) (hz : a.length + b.length ≤ sizeLine) : opAdd x y st = .ok (.lst (a ++ b)) st := by
  have h1 := h.lstD
  have h2 := g.lstD
  rcases h with rfl | ⟨i, rfl, h⟩ <;> rcases g with rfl | ⟨j, rfl, g⟩ <;> simp [opAdd, h1, h2, hz]
theorem lcLv_map {g : T → Sl → Option Sl} {tt : M Bool} {elt : M T} {ρ : Sl} {st : Sto} {r : Nat} {ts : List T} (f : T → T) (hr : st[r]? = some (.lst ts)) (hz : ts.length ≤ sizeLine) (h : ∀ t ∈ ts, ∃ ρ1, g t ρ = some ρ1 ∧ tt ρ1 st = .ok true st ∧ elt ρ1 st = .ok (f t) st) :
    ∀ (n i : Nat), i + n = ts.length + 1 → i ≤ ts.length → lcLv g tt elt ρ r n i st = .ok ((ts.drop i).map f) st
  | 0, i, hn, hi => by omega
  | n + 1, i, hn, _ => by
    unfold lcLv
    rw [hr]
    simp only [hz, if_true]
    by_cases hi : i < ts.length
    · obtain ⟨ρ1, h1, h2, h3⟩ := h ts[i] (List.getElem_mem hi)
      rw [List.getElem?_eq_getElem hi]
      simp only [h1, h2, noExc]
      show (R.bind (noExc (elt ρ1 st)) _) = _
      rw [h3]
      show (R.bind (lcLv g tt elt ρ r n (i + 1) st) _) = _
      rw [lcLv_map f hr hz h n (i + 1) (by omega) (by omega), List.drop_eq_getElem_cons hi]
      rfl
    · rw [List.getElem?_eq_none (by omega), List.drop_eq_nil_of_le (by omega)]
      rfl
theorem lc_at {g : T → Sl → Option Sl} {tt : M Bool} {elt : M T} {ρ : Sl} {st : Sto} {x : T} {ts : List T} (f : T → T) (hx : LAt st x ts) (hz : ts.length ≤ sizeLine) (h : ∀ t ∈ ts, ∃ ρ1, g t ρ = some ρ1 ∧ tt ρ1 st = .ok true st ∧ elt ρ1 st = .ok (f t) st) :
    ∃ it, itSeq x st = .ok it st ∧ lcW g tt elt ρ it st = .ok (ts.map f) st := by
  rcases hx with rfl | ⟨i, rfl, hi⟩
  · exact ⟨_, rfl, lc_map f ts hz h⟩
  · refine ⟨.live i, by simp [itSeq, hi], ?_⟩
    show lcLv g tt elt ρ i (liveLen st i + 1) 0 st = _
    have e : liveLen st i = ts.length := by simp [liveLen, hi]
    rw [e, lcLv_map f hi hz h _ 0 (by omega) (by omega)]
    rfl
/-! ### what _law_listed lists -/
def eSpl (home marks node : List T) (at' n : Nat) : T := .tup [.non, .tup home, .tup (marks ++ [.tup [.tup node, .int 1, .int at']]), .tup (node ++ [.int n])]
def spE (home marks node : List T) : Nat → List Nat → List T
  | _, [] => []
  | at', n :: ns => eSpl home marks node at' n :: spE home marks node (at' + 1) ns
def sepOf : Nat → List T → List Nat
  | _, [] => []
  | n, p :: ps => if spl p then n :: sepOf (n + 1) ps else sepOf (n + 1) ps
abbrev LisF := T → List T → List T → List T → List T
def lsPt (L : LisF) (home marks node : List T) (stage : Int) : Nat → List T → List T
  | _, [] => []
  | n, p :: ps => (if spl p then L (inner1 p) [.tup (node ++ [.int n])] (marks ++ [.tup [.tup node, .int (2 * stage), .int n]]) (node ++ [.int n])
    else L p home (marks ++ [.tup [.tup node, .int (2 * stage), .int n]]) (node ++ [.int n])) ++ lsPt L home marks node stage (n + 1) ps
def listed : Nat → LisF
  | 0 => fun _ _ _ _ => []
  | d + 1 => fun t home marks node => match t with
    | .tup (.str w :: ps) =>
      if w = "draw" then (match ps with | [a] => [.tup [a, .tup home, .tup marks, .non]] | _ => [])
      else if w = "named" then (match ps with | [a, p] => listed d p (home ++ [a]) marks (node ++ [.int 0]) | _ => [])
      else if w = "retry" then (match ps with | [p] => listed d p home marks (node ++ [.int 0]) | _ => [])
      else spE home marks node 0 (sepOf 0 ps) ++ lsPt (listed d) home marks node (if w = "par" then 1 else 0) 0 ps
    | _ => []
/-- the uses alone -/
def usesOf : Nat → T → List T
  | 0 => fun _ => []
  | d + 1 => fun t => match t with
    | .tup (.str w :: ps) =>
      if w = "draw" then (match ps with | [a] => [a] | _ => [])
      else if w = "named" then (match ps with | [_, p] => usesOf d p | _ => [])
      else if w = "retry" then (match ps with | [p] => usesOf d p | _ => [])
      else List.replicate (nspl ps) .non ++ (ps.map fun p => usesOf d (if spl p then inner1 p else p)).flatten
    | _ => []
theorem sepOf_len : ∀ {ps : List T} {n : Nat}, (sepOf n ps).length = nspl ps
  | [], n => rfl
  | p :: ps, n => by
    rw [nspl_cons]
    unfold sepOf
    by_cases h : spl p = true
    · rw [if_pos h, if_pos h, List.length_cons, sepOf_len]; omega
    · rw [if_neg h, if_neg h, sepOf_len]; omega
theorem sepOf_ge : ∀ {ps : List T} {n m : Nat}, m ∈ sepOf n ps → n ≤ m
  | [], n, m, h => by simp [sepOf] at h
  | p :: ps, n, m, h => by
    unfold sepOf at h
    by_cases hp : spl p = true
    · rw [if_pos hp] at h
      rcases List.mem_cons.mp h with rfl | h
      · exact Nat.le_refl _
      · have := sepOf_ge h; omega
    · rw [if_neg hp] at h
      have := sepOf_ge h; omega
theorem sepOf_mem : ∀ {ps : List T} {n i : Nat} {p : T}, ps[i]? = some p → (n + i ∈ sepOf n ps ↔ spl p = true)
  | [], n, i, p, h => by simp at h
  | q :: ps, n, 0, p, h => by
    simp only [List.getElem?_cons_zero, Option.some.injEq] at h
    subst h
    unfold sepOf
    by_cases hp : spl q = true
    · simp [hp]
    · simp only [hp, if_false, Nat.add_zero, Bool.false_eq_true, iff_false]
      intro h
      have := sepOf_ge h; omega
  | q :: ps, n, i + 1, p, h => by
    simp only [List.getElem?_cons_succ] at h
    have ih := sepOf_mem (n := n + 1) h
    rw [show n + 1 + i = n + (i + 1) by omega] at ih
    unfold sepOf
    by_cases hp : spl q = true
    · simp only [hp, if_true, List.mem_cons, ih]
      constructor
      · rintro (h | h)
        · omega
        · exact h
      · exact fun h => .inr h
    · simp only [hp, if_false]
      exact ih
/-- the first of an entry -/
def useT : T → T
  | .tup (a :: _) => a
  | _ => .non
theorem spE_fst {home marks node : List T} : ∀ {ns : List Nat} {a : Nat}, (spE home marks node a ns).map useT = List.replicate ns.length .non
  | [], a => rfl
  | n :: ns, a => by
    simp only [spE, List.map_cons, List.length_cons, List.replicate_succ, spE_fst]
    rfl
section
variable {d : Nat} {L : LisF} (hL : ∀ t z, sz d t = some z → spl t = false → ∀ home marks node, (L t home marks node).map useT = usesOf d t)
include hL
theorem lsPt_fst {par : Bool} {home marks node : List T} {stage : Int} : ∀ {ps : List T} {n : Nat} {a z : Sz}, szL (sz d) par ps a = some z → (lsPt L home marks node stage n ps).map useT = (ps.map fun p => usesOf d (if spl p then inner1 p else p)).flatten
  | [], n, a, z, h => rfl
  | p :: ps, n, a, z, h => by
    simp only [szL] at h
    split at h
    · cases h
    · rename_i u hu
      split at h
      · cases h
      · simp only [lsPt, List.map_append, List.map_cons, List.flatten_cons]
        rw [lsPt_fst h]
        by_cases hp : spl p = true
        · obtain ⟨y, v, rfl, hy, hys, _⟩ := sz_spl hu hp
          simp only [hp, if_true]
          rw [hL _ v (by simpa [inner1] using hy) (by simpa [inner1] using hys)]
        · rw [if_neg hp, if_neg hp, hL _ u hu (by simpa using hp)]
end
theorem listed_fst : ∀ (d : Nat) (t : T) (z : Sz), sz d t = some z → spl t = false → ∀ home marks node, (listed d t home marks node).map useT = usesOf d t
  | 0, t, z, h, _, _, _, _ => by simp [sz] at h
  | d + 1, t, z, h, hsp, home, marks, node => by
    have hs := sz_shape h
    clear h
    obtain ⟨w, ps, rfl, h⟩ := hs
    have IH := listed_fst d
    rcases h with ⟨rfl, a, rfl, hb, rfl⟩ | ⟨hw, par, inner, a, e, he, hh, h⟩
    · simp [listed, usesOf, useT]
    · obtain rfl : d = e := by omega
      rcases headP_wrd hh with ⟨rfl, rfl, rfl, rfl, _⟩ | ⟨rfl, rfl, rfl, rfl, _⟩ | ⟨rfl, rfl, rfl, x, y, rfl, hb, rfl⟩ | ⟨rfl, rfl, rfl, y, rfl, rfl⟩ | ⟨rfl, rfl, rfl, y, rfl, rfl⟩
      · simp only [listed, usesOf, n_seq_draw, n_seq_named, n_seq_retry, if_false, List.map_append]
        rw [spE_fst, lsPt_fst IH h, sepOf_len]
      · simp only [listed, usesOf, n_par_draw, n_par_named, n_par_retry, if_false, List.map_append]
        rw [spE_fst, lsPt_fst IH h, sepOf_len]
      · simp only [listed, usesOf, n_named_draw, if_false, if_true]
        obtain ⟨v, hv, hn, rfl⟩ := szL_one h
        exact IH y v hv (by simpa using hn) _ _ _
      · simp only [listed, usesOf, n_retry_draw, n_retry_named, if_false, if_true]
        obtain ⟨v, hv, hn, rfl⟩ := szL_one h
        exact IH y v hv (by simpa using hn) _ _ _
      · simp [spl] at hsp
theorem szL_uses {d : Nat} {par : Bool} (hU : ∀ t z, sz d t = some z → spl t = false → (usesOf d t).length = z.o) : ∀ {ps : List T} {a z : Sz}, szL (sz d) par ps a = some z → ((ps.map fun p => usesOf d (if spl p then inner1 p else p)).flatten).length + nspl ps + a.o = z.o
  | [], a, z, h => by
    simp only [szL, Option.some.injEq] at h
    subst h
    simp [nspl]
  | p :: ps, a, z, h => by
    simp only [szL] at h
    split at h
    · cases h
    · rename_i u hu
      split at h
      · cases h
      · have ih := szL_uses hU h
        rw [nspl_cons, List.map_cons, List.flatten_cons, List.length_append]
        simp only [Sz.add] at ih
        by_cases hp : spl p = true
        · obtain ⟨y, v, rfl, hy, hys, rfl⟩ := sz_spl hu hp
          rw [if_pos hp, if_pos hp]
          have := hU _ v hy hys
          show (usesOf d y).length + _ + _ + _ = _
          simp only [Sz.add] at ih
          omega
        · rw [if_neg hp, if_neg hp, hU _ u hu (by simpa using hp)]
          omega
theorem usesOf_len : ∀ (d : Nat) (t : T) (z : Sz), sz d t = some z → spl t = false → (usesOf d t).length = z.o
  | 0, t, z, h, _ => by simp [sz] at h
  | d + 1, t, z, h, hsp => by
    have hs := sz_shape h
    clear h
    obtain ⟨w, ps, rfl, h⟩ := hs
    have IH := usesOf_len d
    rcases h with ⟨rfl, a, rfl, hb, rfl⟩ | ⟨hw, par, inner, a, e, he, hh, h⟩
    · simp [usesOf]
    · obtain rfl : d = e := by omega
      rcases headP_wrd hh with ⟨rfl, rfl, rfl, rfl, _⟩ | ⟨rfl, rfl, rfl, rfl, _⟩ | ⟨rfl, rfl, rfl, x, y, rfl, hb, rfl⟩ | ⟨rfl, rfl, rfl, y, rfl, rfl⟩ | ⟨rfl, rfl, rfl, y, rfl, rfl⟩
      · have := szL_uses IH h
        simp only [usesOf, n_seq_draw, n_seq_named, n_seq_retry, if_false, List.length_append, List.length_replicate]
        simp only at this
        omega
      · have := szL_uses IH h
        simp only [usesOf, n_par_draw, n_par_named, n_par_retry, if_false, List.length_append, List.length_replicate]
        simp only at this
        omega
      · simp only [usesOf, n_named_draw, if_false, if_true]
        obtain ⟨v, hv, hn, rfl⟩ := szL_one h
        rw [IH y v hv (by simpa using hn)]
        simp [Sz.add]
      · simp only [usesOf, n_retry_draw, n_retry_named, if_false, if_true]
        obtain ⟨v, hv, hn, rfl⟩ := szL_one h
        rw [IH y v hv (by simpa using hn)]
        simp [Sz.add]
      · simp [spl] at hsp
theorem listed_len {d : Nat} {t : T} {z : Sz} (h : sz d t = some z) (hs : spl t = false) (home marks node : List T) : (listed d t home marks node).length = z.o := by
  rw [← usesOf_len d t z h hs, ← listed_fst d t z h hs home marks node, List.length_map]
theorem gSpl_u {key : List Int} {bef ret : List Nat} {n0 : Nat} : ∀ {ps : List T} {s : Gs}, (gSpl key bef ret n0 ps s).u = s.u ++ List.replicate (nspl ps) .non
  | [], s => by simp [gSpl, nspl]
  | p :: ps, s => by
    rw [nspl_cons]
    unfold gSpl
    by_cases h : spl p = true
    · rw [if_pos h, if_pos h, gSpl_u, Nat.add_comm, List.replicate_succ]
      simp [gPut]
    · rw [if_neg h, if_neg h, gSpl_u, Nat.zero_add]
section
variable {d : Nat} {A : AddF} (hA : ∀ t z, sz d t = some z → spl t = false → ∀ key bef ret s, (A t key bef ret s).u = s.u ++ usesOf d t)
include hA
theorem gSeq_u {key : List Int} {bef ret : List Nat} {n0 : Nat} : ∀ {ps : List T} {s : Gs} {a z : Sz}, szL (sz d) false ps a = some z → (gSeq A key bef ret n0 ps s).u = s.u ++ (ps.map fun p => usesOf d (if spl p then inner1 p else p)).flatten
  | [], s, a, z, h => by simp [gSeq]
  | p :: ps, s, a, z, h => by
    simp only [szL] at h
    split at h
    · cases h
    · rename_i u hu
      split at h
      · cases h
      · rename_i hp
        have hp' : spl p = false := by simpa using hp
        simp only [gSeq]
        rw [gSeq_u h, hA p u hu hp']
        simp [hp']
theorem gPar_u {key : List Int} {bef ret : List Nat} : ∀ {ps : List T} {j : Nat} {s : Gs} {a z : Sz}, szL (sz d) true ps a = some z → (gPar A key bef ret ps j s).u = s.u ++ (ps.map fun p => usesOf d (if spl p then inner1 p else p)).flatten
  | [], j, s, a, z, h => by simp [gPar]
  | p :: ps, j, s, a, z, h => by
    simp only [szL] at h
    split at h
    · cases h
    · rename_i u hu
      split at h
      · cases h
      · unfold gPar
        by_cases hs : spl p = true
        · obtain ⟨y, v, rfl, hy, hys, _⟩ := sz_spl hu hs
          rw [if_pos hs, gPar_u h, hA _ v (by simpa [inner1] using hy) (by simpa [inner1] using hys)]
          simp [hs]
        · rw [if_neg hs, gPar_u h, hA p u hu (by simpa using hs)]
          simp [hs]
end
theorem gAdd_u : ∀ (d : Nat) (t : T) (z : Sz), sz d t = some z → spl t = false → ∀ key bef ret s, (gAdd d t key bef ret s).u = s.u ++ usesOf d t
  | 0, t, z, h, _, _, _, _, _ => by simp [sz] at h
  | d + 1, t, z, h, hsp, key, bef, ret, s => by
    have hs := sz_shape h
    clear h
    obtain ⟨w, ps, rfl, h⟩ := hs
    have IH := gAdd_u d
    rcases h with ⟨rfl, a, rfl, hb, rfl⟩ | ⟨hw, par, inner, a, e, he, hh, h⟩
    · simp [gAdd, usesOf, gPut]
    · obtain rfl : d = e := by omega
      rcases headP_wrd hh with ⟨rfl, rfl, rfl, rfl, _⟩ | ⟨rfl, rfl, rfl, rfl, _⟩ | ⟨rfl, rfl, rfl, x, y, rfl, hb, rfl⟩ | ⟨rfl, rfl, rfl, y, rfl, rfl⟩ | ⟨rfl, rfl, rfl, y, rfl, rfl⟩
      · simp only [gAdd, usesOf, n_seq_draw, n_seq_par, n_seq_named, n_seq_retry, if_false]
        have e0 : nspl inner = 0 := by
          have : ∀ {ps : List T} {a z : Sz}, szL (sz d) false ps a = some z → nspl ps = 0 := by
            intro ps
            induction ps with
            | nil => intro a z _; rfl
            | cons p ps ih =>
              intro a z h
              simp only [szL] at h
              split at h
              · cases h
              · split at h
                · cases h
                · rename_i hp
                  rw [nspl_cons, ih h, if_neg (by simpa using hp)]
          exact this h
        rw [gSeq_u IH h, e0]
        simp
      · simp only [gAdd, usesOf, n_par_draw, n_par_named, n_par_retry, if_false, if_true]
        rw [gPar_u IH h, gSpl_u, List.append_assoc]
      · simp only [gAdd, usesOf, n_named_draw, n_named_par, if_false, if_true]
        obtain ⟨v, hv, hn, rfl⟩ := szL_one h
        exact IH y v hv (by simpa using hn) _ _ _ _
      · simp only [gAdd, usesOf, n_retry_draw, n_retry_par, n_retry_named, if_false, if_true]
        obtain ⟨v, hv, hn, rfl⟩ := szL_one h
        exact IH y v hv (by simpa using hn) _ _ _ _
      · simp [spl] at hsp
end Mi

/-! MiSort: sorted of whole numbers. -/
namespace Mi
open PySem L2
def intsT : List T → Option (List Int)
  | [] => some []
  | .int i :: ts => (intsT ts).map (i :: ·)
  | _ :: _ => none
theorem intsT_map : ∀ ns : List Int, intsT (ns.map T.int) = some ns
  | [] => rfl
  | n :: ns => by simp [intsT, intsT_map ns]
theorem intsT_rep {K : PySem.W.Frag} {ad : Ad} {as : List Addr} {H : Hp} : ∀ {ts : List T} {ns : List Int} {vs : List V}, intsT ts = some ns → Reps K ad as H vs ts → vs = ns.map V.int ∧ ts = ns.map T.int
  | [], ns, vs, h, r => by
    cases r
    simp only [intsT, Option.some.injEq] at h
    subst h; exact ⟨rfl, rfl⟩
  | t :: ts, ns, vs, h, r => by
    cases t <;> simp [intsT] at h
    obtain ⟨ms, h1, rfl⟩ := h
    cases r with
    | cons a b =>
      obtain ⟨e1, e2⟩ := intsT_rep h1 b
      rw [e1, e2, a.intI]
      exact ⟨rfl, rfl⟩
theorem reps_ints {K : PySem.W.Frag} {ad : Ad} {as : List Addr} {H : Hp} : ∀ ns : List Int, Reps K ad as H (ns.map V.int) (ns.map T.int)
  | [] => .nil
  | n :: ns => .cons (.int n) (reps_ints ns)
def leI (a b : Int) : Bool := decide (a ≤ b)
def sortI (ns : List Int) : List Int := ns.mergeSort leI
theorem sortI_perm (ns : List Int) : (sortI ns).Perm ns := List.mergeSort_perm ns leI
theorem sortI_sorted (ns : List Int) : (sortI ns).Pairwise (· ≤ ·) := by
  have := List.pairwise_mergeSort (le := leI) (fun a b c h1 h2 => by simp [leI] at h1 h2 ⊢; omega) (fun a b => by simp [leI]; omega) ns
  exact this.imp fun h => by simpa [leI] using h
theorem sortI_uniq {ns ms : List Int} (h1 : ms.Perm ns) (h2 : ms.Pairwise (· ≤ ·)) : ms = sortI ns :=
  List.Perm.eq_of_pairwise (fun a b _ _ h3 h4 => by omega) h2 (sortI_sorted ns) (h1.trans (sortI_perm ns).symm)
section
variable {X : Cx}
def fSorted (xs : List T) (st : Sto) : R T := match xs with
  | [t] => match lstR st t with
    | some ts => match intsT ts with
      | some ns => if ns.length < 64 then .ok (.lst ((sortI ns).map T.int)) st else .bad
      | none => .bad
    | none => .bad
  | _ => .bad
theorem cm_sorted : CallM X (.builtin "sorted") fSorted := by
  refine ⟨_, cr_sorted, fun ad as st H xs ts Q W A r q => ?_⟩
  unfold fSorted at q
  split at q
  · obtain ⟨v, rfl, rv⟩ := r.one
    split at q
    · rename_i ts e
      split at q
      · rename_i ns en
        split at q
        · rename_i hl
          obtain ⟨a, vs, rfl, h1, h2⟩ := rv.lstR A e
          obtain ⟨rfl, rfl⟩ := intsT_rep en h2
          refine ⟨a, ns, rfl, h1, hl, fun ns' p hp hs hn => ?_⟩
          have := sortI_uniq hp hs
          subst this
          exact post_newLst A hn (reps_ints _) q
        · exact q.elim
      · exact q.elim
    · exact q.elim
  · exact q.elim
end
end Mi

/-! MiCmp: tuples of whole numbers compared. -/
namespace Mi
open PySem L2 PySem.Spec PyProof.Rows
/-- the first pair that differs decides, then the lengths -/
def lexN (r : Int → Int → Bool) (z : Nat → Nat → Bool) (ns ms : List Int) : Bool :=
  Ob.lexAt (fun j => decide (ns.getD j 0 = ms.getD j 0)) (fun j => r (ns.getD j 0) (ms.getD j 0)) (z ns.length ms.length) 0 (min ns.length ms.length)
def rCmpT (K : PySem.W.Frag) (r : Int → Int → Bool) (z : Nat → Nat → Bool) : R2 := fun x y H Q => ∃ (a b : Addr) (ns ms : List Int), x = .ref a ∧ y = .ref b ∧ SqT K H a (ns.map V.int) ∧ SqT K H b (ms.map V.int) ∧ Q (.bl (lexN r z ns ms)) H
theorem cmpT_ok {X : Cx} {op : CmpOp} {r : Int → Int → Bool} {z : Nat → Nat → Bool}
    (ho : ∀ {s : Shared} {l b : Addr} {items items2 : Array Value} {e r' : Nat → Bool}, s.heap.IsTuple l items → s.heap.IsTuple b items2 → (∀ j (h1 : j < items.size) (h2 : j < items2.size), SeqAt.EqAt X.A.in1 s items[j] items2[j] (e j)) →
      (∀ j (h1 : j < items.size) (h2 : j < items2.size), e j = false → Ob.RcOp op X.A.in1 s items[j] items2[j] (r' j)) → Ob.RcOp op X.A s (.ref l) (.ref b) (Ob.lexAt e r' (z items.size items2.size) 0 (min items.size items2.size)))
    (hi : ∀ {s : Shared} (a b : Int) (t u : Tok), Ob.RcOp op X.A.in1 s (.int a t) (.int b u) (r a b))
    (hc : ∀ {s : Shared} {E : Value → Shared → Prop} {Q : Value → Shared → Prop} {a b : Addr}, wpAny (model X.prog X.w) X.A (richCompare op (.ref a) (.ref b)) Q E s → wpAny (model X.prog X.w) X.A (compareOp op (.ref a) (.ref b)) Q E s) : OpR X (compareOp op) (rCmpT X.K r z) := by
  intro pins s σ H x y v u Q I rx ry h
  obtain ⟨a, b, ns, ms, rfl, rfl, ha, hb, q⟩ := h
  cases rx
  cases ry
  obtain ⟨its, r1, p1, _⟩ := I.tuple ha
  obtain ⟨its2, r2, p2, _⟩ := I.tuple hb
  have i1 : IntsAre its ns := Vals.ints r1
  have i2 : IntsAre its2 ms := Vals.ints r2
  have e1 : its.toArray.size = ns.length := by rw [List.size_toArray]; exact i1.length
  have e2 : its2.toArray.size = ms.length := by rw [List.size_toArray]; exact i2.length
  have at1 : ∀ j (h1 : j < its.toArray.size), ∃ t, its.toArray[j] = .int (ns.getD j 0) t := fun j h1 => PyProof.Rows.IntsAre.int_at i1 _ _ (by simp at h1; simp [h1])
  have at2 : ∀ j (h1 : j < its2.toArray.size), ∃ t, its2.toArray[j] = .int (ms.getD j 0) t := fun j h1 => PyProof.Rows.IntsAre.int_at i2 _ _ (by simp at h1; simp [h1])
  have R := ho (s := s) (e := fun j => decide (ns.getD j 0 = ms.getD j 0)) (r' := fun j => r (ns.getD j 0) (ms.getD j 0)) p1 p2 (fun j h1 h2 => by
    obtain ⟨t, et⟩ := at1 j h1
    obtain ⟨t', et'⟩ := at2 j h2
    rw [et, et']
    have z : (ns.getD j 0 == ms.getD j 0) = decide (ns.getD j 0 = ms.getD j 0) := by
      by_cases q : ns.getD j 0 = ms.getD j 0
      · rw [decide_eq_true q]; exact beq_iff_eq.mpr q
      · rw [decide_eq_false q]; exact beq_eq_false_iff_ne.mpr q
    rw [← z]
    exact SeqAt.EqAt.int_int _ _ _ _) (fun j h1 h2 _ => by
    obtain ⟨t, et⟩ := at1 j h1
    obtain ⟨t', et'⟩ := at2 j h2
    rw [et, et']
    exact hi _ _ _ _)
  rw [e1, e2] at R
  exact hc (R X.prog X.w X.xe (EP X pins σ Q) ⟨.bl _, H, I, rfl, q⟩)
theorem op_gtN {X : Cx} (hu : X.A.units < cLine) : OpR X (compareOp .Gt) (rCmpT X.K (fun a b => decide (b < a)) (fun a b => decide (a > b))) :=
  cmpT_ok (fun h1 h2 h3 h4 => Ob.RcOp.tuples_gt h1 h2 hu h3 h4) (fun a b t u => Ob.RcOp.gt_int a b t u) (fun h => h)
theorem op_ltN {X : Cx} (hu : X.A.units < cLine) : OpR X (compareOp .Lt) (rCmpT X.K (fun a b => decide (a < b)) (fun a b => decide (a < b))) :=
  cmpT_ok (fun h1 h2 h3 h4 => Ob.RcOp.tuples_lt h1 h2 hu h3 h4) (fun a b t u => Ob.RcOp.lt_int a b t u) (fun h => h)
theorem op_leN {X : Cx} (hu : X.A.units < cLine) : OpR X (compareOp .LtE) (rCmpT X.K (fun a b => decide (a ≤ b)) (fun a b => decide (a ≤ b))) :=
  cmpT_ok (fun h1 h2 h3 h4 => Ob.RcOp.tuples_le h1 h2 hu h3 h4) (fun a b t u => Ob.RcOp.le_int a b t u) (fun h => h)
theorem op_geN {X : Cx} (hu : X.A.units < cLine) : OpR X (compareOp .GtE) (rCmpT X.K (fun a b => decide (b ≤ a)) (fun a b => decide (a ≥ b))) :=
  cmpT_ok (fun h1 h2 h3 h4 => Ob.RcOp.tuples_ge h1 h2 hu h3 h4) (fun a b t u => Ob.RcOp.ge_int a b t u) (fun h => h)
section
variable {X : Cx}
def opCmpN (r : Int → Int → Bool) (z : Nat → Nat → Bool) (x y : T) (st : Sto) : R T := match x, y with
  | .int i, .int j => .ok (.bl (r i j)) st
  | .tup a, .tup b => match intsT a, intsT b with
    | some ns, some ms => .ok (.bl (lexN r z ns ms)) st
    | _, _ => .bad
  | _, _ => .bad
theorem om_cmpN {o : CmpOp} {r : Int → Int → Bool} {z : Nat → Nat → Bool} (h1 : OpR X (compareOp o) (rI0 fun i j => .bl (r i j))) (h2 : OpR X (compareOp o) (rCmpT X.K r z)) : OpM X (compareOp o) (opCmpN r z) := by
  refine ⟨_, OpR.alt (OpR.rI0 h1) h2, fun ad as st H x y tx ty Q W A rx ry q => ?_⟩
  unfold opCmpN at q
  split at q
  · exact .inl ⟨_, _, rx.intI, ry.intI, trivial, Post.at A (.bl _) q⟩
  · split at q
    · rename_i e1 e2
      obtain ⟨a, xs, rfl, g1, g2⟩ := rx.tupI
      obtain ⟨b, ys, rfl, g3, g4⟩ := ry.tupI
      obtain ⟨rfl, rfl⟩ := intsT_rep e1 g2
      obtain ⟨rfl, rfl⟩ := intsT_rep e2 g4
      exact .inr ⟨a, b, _, _, rfl, rfl, g1, g3, Post.at A (.bl _) q⟩
    · exact q.elim
  · exact q.elim
abbrev opGtN := opCmpN (fun a b => decide (b < a)) (fun a b => decide (a > b))
abbrev opLtN := opCmpN (fun a b => decide (a < b)) (fun a b => decide (a < b))
abbrev opLeN := opCmpN (fun a b => decide (a ≤ b)) (fun a b => decide (a ≤ b))
abbrev opGeN := opCmpN (fun a b => decide (b ≤ a)) (fun a b => decide (a ≥ b))
theorem om_gtN (hu : X.A.units + 64 < cLine) : OpM X (compareOp .Gt) opGtN := om_cmpN op_gt (op_gtN (by omega))
theorem om_ltN (hu : X.A.units + 64 < cLine) : OpM X (compareOp .Lt) opLtN := om_cmpN op_lt (op_ltN (by omega))
theorem om_leN (hu : X.A.units + 64 < cLine) : OpM X (compareOp .LtE) opLeN := om_cmpN op_le (op_leN (by omega))
theorem om_geN (hu : X.A.units + 64 < cLine) : OpM X (compareOp .GtE) opGeN := om_cmpN op_ge (op_geN (by omega))
end
section
variable {Q : T → Sto → Prop} {E : Exn → Sto → Prop} {st : Sto} {r : Int → Int → Bool} {z : Nat → Nat → Bool}
@[simp] theorem Ok_cmpNI (i j : Int) : Ok (opCmpN r z (.int i) (.int j) st) Q E ↔ Q (.bl (r i j)) st := Iff.rfl
@[simp] theorem Ok_cmpNT {ns ms : List Int} : Ok (opCmpN r z (.tup (ns.map T.int)) (.tup (ms.map T.int)) st) Q E ↔ Q (.bl (lexN r z ns ms)) st := by
  show Ok (match intsT (ns.map T.int), intsT (ms.map T.int) with | some ns, some ms => R.ok (T.bl (lexN r z ns ms)) st | _, _ => R.bad) Q E ↔ _
  rw [intsT_map, intsT_map]; rfl
end
end Mi

/-! MiP: plans as a type of their own; what Graph makes of them. -/
namespace Mi
open PySem L2
mutual
inductive P where
  | draw (u : Int)
  | seq (ps : Ps)
  | par (ps : Ps)
  | named (n : Int) (p : P)
  | retry (p : P)
/-- parts; true: a split part -/
inductive Ps where
  | nil
  | cons (b : Bool) (p : P) (ps : Ps)
end
mutual
/-- the tuple -/
def P.t : P → T
  | .draw u => .tup [.str "draw", .int u]
  | .seq ps => .tup (.str "seq" :: ps.ts)
  | .par ps => .tup (.str "par" :: ps.ts)
  | .named n p => .tup [.str "named", .int n, p.t]
  | .retry p => .tup [.str "retry", p.t]
def Ps.ts : Ps → List T
  | .nil => []
  | .cons b p ps => (if b then .tup [.str "split", p.t] else p.t) :: ps.ts
end
mutual
/-- depth -/
def P.dep : P → Nat
  | .draw _ => 1
  | .seq ps => ps.dep + 1
  | .par ps => ps.dep + 1
  | .named _ p => p.dep + 1
  | .retry p => p.dep + 1
def Ps.dep : Ps → Nat
  | .nil => 0
  | .cons b p ps => max (if b then p.dep + 1 else p.dep) ps.dep
end
def Ps.len : Ps → Nat
  | .nil => 0
  | .cons _ _ ps => ps.len + 1
/-- the number of split parts -/
def Ps.k : Ps → Nat
  | .nil => 0
  | .cons b _ ps => (if b then 1 else 0) + ps.k
mutual
/-- operations -/
def P.o : P → Nat
  | .draw _ => 1
  | .seq ps => ps.o
  | .par ps => ps.k + ps.o
  | .named _ p => p.o
  | .retry p => p.o
def Ps.o : Ps → Nat
  | .nil => 0
  | .cons _ p ps => p.o + ps.o
end
mutual
/-- retries -/
def P.q : P → Nat
  | .draw _ => 0
  | .seq ps => ps.q
  | .par ps => ps.q
  | .named _ p => p.q
  | .retry p => p.q + 1
def Ps.q : Ps → Nat
  | .nil => 0
  | .cons _ p ps => p.q + ps.q
end
mutual
/-- tuples -/
def P.tn : P → Nat
  | .draw _ => 1
  | .seq ps => ps.tn + 1
  | .par ps => ps.tn + 1
  | .named _ p => p.tn + 1
  | .retry p => p.tn + 1
def Ps.tn : Ps → Nat
  | .nil => 0
  | .cons b p ps => (if b then 1 else 0) + p.tn + ps.tn
end
mutual
/-- uses and names from 0 to 9, no split part in a seq, at most twelve parts -/
def P.wf : P → Bool
  | .draw u => decide (0 ≤ u ∧ u ≤ 9)
  | .seq ps => decide (ps.k = 0) && decide (ps.len ≤ 12) && ps.wf
  | .par ps => decide (ps.len ≤ 12) && ps.wf
  | .named n p => decide (0 ≤ n ∧ n ≤ 9) && p.wf
  | .retry p => p.wf
def Ps.wf : Ps → Bool
  | .nil => true
  | .cons _ p ps => p.wf && ps.wf
end
def isSplitT (p : P) : T := .tup [.str "split", p.t]
theorem spl_t : ∀ p : P, spl p.t = false
  | .draw _ | .seq _ | .par _ | .named _ _ | .retry _ => by simp [P.t, spl]
theorem spl_s (p : P) : spl (.tup [.str "split", p.t]) = true := by simp [spl]
theorem Ps.ts_len : ∀ ps : Ps, ps.ts.length = ps.len
  | .nil => rfl
  | .cons b p ps => by simp [Ps.ts, Ps.len, Ps.ts_len ps]
theorem nspl_ts : ∀ ps : Ps, nspl ps.ts = ps.k
  | .nil => rfl
  | .cons b p ps => by
    cases b
    · simp [Ps.ts, Ps.k, nspl_cons, spl_t, nspl_ts ps]
    · simp [Ps.ts, Ps.k, nspl_cons, spl_s, nspl_ts ps]
theorem szL_nil_k {f : T → Option Sz} : ∀ {ps : List T} {a z : Sz}, szL f false ps a = some z → nspl ps = 0
  | [], a, z, h => rfl
  | p :: ps, a, z, h => by
    simp only [szL] at h
    split at h
    · cases h
    · split at h
      · cases h
      · rename_i hp
        rw [nspl_cons, szL_nil_k h, if_neg (by simpa using hp)]
/-- every tuple that is a plan is one of these -/
structure IsP (t : T) (z : Sz) (p : P) : Prop where
  t : p.t = t
  o : p.o = z.o
  q : p.q = z.r
  n : p.tn = z.n
  d : p.dep ≤ z.k
  w : p.wf = true
structure IsPs (ts : List T) (a z : Sz) (ps : Ps) : Prop where
  t : ps.ts = ts
  o : ps.k + ps.o + a.o = z.o
  q : ps.q + a.r = z.r
  n : ps.tn + a.n = z.n
  d : ps.dep + 1 ≤ z.k
  d2 : a.k ≤ z.k
  w : ps.wf = true
theorem szL_P {d : Nat} (hP : ∀ t z, sz d t = some z → spl t = false → ∃ p, IsP t z p) {par : Bool} : ∀ {ts : List T} {a z : Sz}, szL (sz d) par ts a = some z → 1 ≤ a.k → ∃ ps, IsPs ts a z ps
  | [], a, z, h, ha => by
    simp only [szL, Option.some.injEq] at h
    subst h
    exact ⟨.nil, rfl, by simp [Ps.k, Ps.o], by simp [Ps.q], by simp [Ps.tn], ha, Nat.le_refl _, rfl⟩
  | t :: ts, a, z, h, ha => by
    simp only [szL] at h
    split at h
    · cases h
    · rename_i u hu
      split at h
      · cases h
      · obtain ⟨ps, h1, h2, h3, hn, h4, h6, h5⟩ := szL_P hP h (by simp only [Sz.add]; omega)
        simp only [Sz.add] at h2 h3 hn h6
        by_cases hs : spl t = true
        · obtain ⟨y, v, rfl, hy, hys, rfl⟩ := sz_spl hu hs
          obtain ⟨p, g1, g2, g3, gn, g4, g5⟩ := hP y v hy hys
          simp only [Sz.add] at h2 h3 hn h6
          exact ⟨.cons true p ps, by simp [Ps.ts, g1, h1], by simp [Ps.k, Ps.o]; omega, by simp [Ps.q]; omega, by simp [Ps.tn]; omega, by simp [Ps.dep]; omega, by omega, by simp [Ps.wf, g5, h5]⟩
        · obtain ⟨p, g1, g2, g3, gn, g4, g5⟩ := hP t u hu (by simpa using hs)
          exact ⟨.cons false p ps, by simp [Ps.ts, g1, h1], by simp [Ps.k, Ps.o]; omega, by simp [Ps.q]; omega, by simp [Ps.tn]; omega, by simp [Ps.dep]; omega, by omega, by simp [Ps.wf, g5, h5]⟩
theorem sz_P : ∀ (d : Nat) (t : T) (z : Sz), sz d t = some z → spl t = false → ∃ p, IsP t z p
  | 0, t, z, h, _ => by simp [sz] at h
  | d + 1, t, z, h, hsp => by
    have hs := sz_shape h
    clear h
    obtain ⟨w, ps, rfl, h⟩ := hs
    have IH := sz_P d
    rcases h with ⟨rfl, a, rfl, hb, rfl⟩ | ⟨hw, par, inner, a, e, he, hh, h⟩
    · obtain ⟨v, rfl, h1, h2⟩ := btw_int hb
      exact ⟨.draw v, rfl, rfl, rfl, rfl, by simp [P.dep], by simp [P.wf, h1, h2]⟩
    · obtain rfl : d = e := by omega
      rcases headP_wrd hh with ⟨rfl, rfl, rfl, rfl, hl⟩ | ⟨rfl, rfl, rfl, rfl, hl⟩ | ⟨rfl, rfl, rfl, x, y, rfl, hb, rfl⟩ | ⟨rfl, rfl, rfl, y, rfl, rfl⟩ | ⟨rfl, rfl, rfl, y, rfl, rfl⟩
      · have hk := szL_nil_k h
        obtain ⟨ps, rfl, h2, h3, hn, h4, h6, h5⟩ := szL_P IH h (Nat.le_refl _)
        rw [nspl_ts] at hk
        rw [Ps.ts_len] at hl
        exact ⟨.seq ps, rfl, by simp only [P.o]; simp only at h2; omega, by simp only [P.q]; simp only at h3; omega, by simp only [P.tn]; simp only at hn; omega, h4, by simp [P.wf, hk, hl, h5]⟩
      · obtain ⟨ps, rfl, h2, h3, hn, h4, h6, h5⟩ := szL_P IH h (Nat.le_refl _)
        rw [Ps.ts_len] at hl
        exact ⟨.par ps, rfl, by simp only [P.o]; simp only at h2; omega, by simp only [P.q]; simp only at h3; omega, by simp only [P.tn]; simp only at hn; omega, h4, by simp [P.wf, hl, h5]⟩
      · obtain ⟨v, hv, hn, rfl⟩ := szL_one h
        obtain ⟨p, rfl, g2, g3, gn, g4, g5⟩ := IH y v hv (by simpa using hn)
        obtain ⟨n, rfl, h1, h2⟩ := btw_int hb
        exact ⟨.named n p, rfl, by simp only [P.o, Sz.add]; omega, by simp only [P.q, Sz.add]; omega, by simp only [P.tn, Sz.add]; omega, by simp only [P.dep, Sz.add]; omega, by simp [P.wf, h1, h2, g5]⟩
      · obtain ⟨v, hv, hn, rfl⟩ := szL_one h
        obtain ⟨p, rfl, g2, g3, gn, g4, g5⟩ := IH y v hv (by simpa using hn)
        exact ⟨.retry p, rfl, by simp only [P.o, Sz.add]; omega, by simp only [P.q, Sz.add]; omega, by simp only [P.tn, Sz.add]; omega, by simp only [P.dep, Sz.add]; omega, by simp [P.wf, g5]⟩
      · simp [spl] at hsp
/-! ### what Graph makes of it -/
mutual
/-- the uses -/
def P.us : P → List T
  | .draw u => [.int u]
  | .seq ps => ps.us
  | .par ps => List.replicate ps.k .non ++ ps.us
  | .named _ p => p.us
  | .retry p => p.us
def Ps.us : Ps → List T
  | .nil => []
  | .cons _ p ps => p.us ++ ps.us
end
mutual
/-- the keys of the streams; n: the number of the first operation; of parts, j: that of the next split -/
def P.hs : P → List Int → Nat → List (List Int)
  | .draw _, key, _ => [key]
  | .seq ps, key, n => ps.hs key 0 n
  | .par ps, key, n => List.replicate ps.k key ++ ps.hs key n (n + ps.k)
  | .named a p, key, n => p.hs (key ++ [a]) n
  | .retry p, key, n => p.hs key n
def Ps.hs : Ps → List Int → Nat → Nat → List (List Int)
  | .nil, _, _, _ => []
  | .cons b p ps, key, j, n => (if b then p.hs [(j : Int)] n else p.hs key n) ++ ps.hs key (if b then j + 1 else j) (n + p.o)
end
mutual
/-- what each operation is after -/
def P.bs : P → List Nat → Nat → List (List Nat)
  | .draw _, bef, _ => [bef]
  | .seq ps, bef, n => ps.bs false bef n n
  | .par ps, bef, n => (List.range ps.k).map (fun i => bef ++ List.range' n i) ++ ps.bs true (bef ++ List.range' n ps.k) n (n + ps.k)
  | .named _ p, bef, n => p.bs bef n
  | .retry p, bef, n => p.bs bef n
def Ps.bs : Ps → Bool → List Nat → Nat → Nat → List (List Nat)
  | .nil, _, _, _, _ => []
  | .cons _ p ps, par, bef, n0, n => p.bs (if par then bef else bef ++ List.range' n0 (n - n0)) n ++ ps.bs par bef n0 (n + p.o)
end
mutual
/-- the retries that it is in -/
def P.rs : P → List Nat → Nat → List (List Nat)
  | .draw _, ret, _ => [ret]
  | .seq ps, ret, l => ps.rs ret l
  | .par ps, ret, l => List.replicate ps.k ret ++ ps.rs ret l
  | .named _ p, ret, l => p.rs ret l
  | .retry p, ret, l => p.rs (ret ++ [l]) (l + 1)
def Ps.rs : Ps → List Nat → Nat → List (List Nat)
  | .nil, _, _ => []
  | .cons _ p ps, ret, l => p.rs ret l ++ ps.rs ret (l + p.q)
end
mutual
theorem P.us_len : ∀ p : P, p.us.length = p.o
  | .draw _ => rfl
  | .seq ps => by simp only [P.us, P.o, Ps.us_len ps]
  | .par ps => by simp only [P.us, P.o, List.length_append, List.length_replicate, Ps.us_len ps]
  | .named _ p => by simp only [P.us, P.o, P.us_len p]
  | .retry p => by simp only [P.us, P.o, P.us_len p]
theorem Ps.us_len : ∀ ps : Ps, ps.us.length = ps.o
  | .nil => rfl
  | .cons _ p ps => by simp only [Ps.us, Ps.o, List.length_append, P.us_len p, Ps.us_len ps]
end
mutual
theorem P.hs_len : ∀ (p : P) (key : List Int) (n : Nat), (p.hs key n).length = p.o
  | .draw _, _, _ => rfl
  | .seq ps, _, _ => by simp only [P.hs, P.o, Ps.hs_len ps]
  | .par ps, _, _ => by simp only [P.hs, P.o, List.length_append, List.length_replicate, Ps.hs_len ps]
  | .named _ p, _, _ => by simp only [P.hs, P.o, P.hs_len p]
  | .retry p, _, _ => by simp only [P.hs, P.o, P.hs_len p]
theorem Ps.hs_len : ∀ (ps : Ps) (key : List Int) (j n : Nat), (ps.hs key j n).length = ps.o
  | .nil, _, _, _ => rfl
  | .cons b p ps, _, _, _ => by cases b <;> simp only [Ps.hs, Ps.o, List.length_append, if_true, if_false, P.hs_len p, Ps.hs_len ps, Bool.false_eq_true]
end
mutual
theorem P.bs_len : ∀ (p : P) (bef : List Nat) (n : Nat), (p.bs bef n).length = p.o
  | .draw _, _, _ => rfl
  | .seq ps, _, _ => by simp only [P.bs, P.o, Ps.bs_len ps]
  | .par ps, _, _ => by simp only [P.bs, P.o, List.length_append, List.length_map, List.length_range, Ps.bs_len ps]
  | .named _ p, _, _ => by simp only [P.bs, P.o, P.bs_len p]
  | .retry p, _, _ => by simp only [P.bs, P.o, P.bs_len p]
theorem Ps.bs_len : ∀ (ps : Ps) (par : Bool) (bef : List Nat) (n0 n : Nat), (ps.bs par bef n0 n).length = ps.o
  | .nil, _, _, _, _ => rfl
  | .cons b p ps, _, _, _, _ => by simp only [Ps.bs, Ps.o, List.length_append, P.bs_len p, Ps.bs_len ps]
end
/-- all that a Graph holds but within -/
structure GP (s s' : Gs) (us : List T) (hs : List (List Int)) (bs rs : List (List Nat)) (q : Nat) : Prop where
  u : s'.u = s.u ++ us
  h : s'.h = s.h ++ hs
  b : s'.b = s.b ++ bs
  r : s'.r = s.r ++ rs
  l : s'.l = s.l + q
theorem GP.refl (s : Gs) : GP s s [] [] [] [] 0 := ⟨by simp, by simp, by simp, by simp, rfl⟩
theorem GP.trans {s s1 s2 : Gs} {us us' : List T} {hs hs' : List (List Int)} {bs bs' rs rs' : List (List Nat)} {q q' : Nat} (a : GP s s1 us hs bs rs q) (b : GP s1 s2 us' hs' bs' rs' q') :
    GP s s2 (us ++ us') (hs ++ hs') (bs ++ bs') (rs ++ rs') (q + q') :=
  ⟨by rw [b.u, a.u, List.append_assoc], by rw [b.h, a.h, List.append_assoc], by rw [b.b, a.b, List.append_assoc], by rw [b.r, a.r, List.append_assoc], by rw [b.l, a.l]; omega⟩
theorem GP.put (a : T) (key : List Int) (bef ret : List Nat) (s : Gs) : GP s (gPut a key bef ret s) [a] [key] [bef] [ret] 0 := ⟨rfl, rfl, rfl, rfl, rfl⟩
theorem GP.spl (key : List Int) (bef ret : List Nat) (n0 : Nat) : ∀ (ps : Ps) (s : Gs), n0 ≤ s.u.length → GP s (gSpl key bef ret n0 ps.ts s) (List.replicate ps.k .non) (List.replicate ps.k key) ((List.range' (s.u.length - n0) ps.k).map fun i => bef ++ List.range' n0 i) (List.replicate ps.k ret) 0
  | .nil, s, _ => by simpa [Ps.ts, gSpl, Ps.k] using GP.refl s
  | .cons b p ps, s, h0 => by
    cases b with
    | false =>
      simp only [Ps.ts, gSpl, Ps.k, spl_t, if_false, Nat.zero_add, Bool.false_eq_true]
      exact GP.spl key bef ret n0 ps s h0
    | true =>
      simp only [Ps.ts, gSpl, Ps.k, spl_s, if_true, Nat.add_comm 1]
      have h := (GP.put .non key (bef ++ List.range' n0 (s.u.length - n0)) ret s).trans (GP.spl key bef ret n0 ps _ (by simp [gPut]; omega))
      simp only [List.replicate_succ, List.range'_succ, List.map_cons]
      have e : (gPut .non key (bef ++ List.range' n0 (s.u.length - n0)) ret s).u.length - n0 = s.u.length - n0 + 1 := by simp [gPut]; omega
      rw [e] at h
      exact h
section
variable {d : Nat} {A : AddF} (hA : ∀ (p : P) key bef ret s, p.wf = true → p.dep ≤ d → GP s (A p.t key bef ret s) p.us (p.hs key s.u.length) (p.bs bef s.u.length) (p.rs ret s.l) p.q)
include hA
theorem GP.seq (key : List Int) (bef ret : List Nat) (n0 : Nat) : ∀ (ps : Ps) (s : Gs), ps.wf = true → ps.dep ≤ d → ps.k = 0 → GP s (gSeq A key bef ret n0 ps.ts s) ps.us (ps.hs key 0 s.u.length) (ps.bs false bef n0 s.u.length) (ps.rs ret s.l) ps.q
  | .nil, s, _, _, _ => GP.refl s
  | .cons b p ps, s, hw, hd, hk => by
    simp only [Ps.wf, Bool.and_eq_true] at hw
    cases b with
    | true => simp only [Ps.k, if_true] at hk; omega
    | false =>
      simp only [Ps.k, if_false, Bool.false_eq_true] at hk
      simp only [Ps.dep, if_false, Bool.false_eq_true] at hd
      simp only [Ps.ts, gSeq, if_false, Bool.false_eq_true, Ps.us, Ps.hs, Ps.bs, Ps.rs, Ps.q]
      have h1 := hA p key (bef ++ List.range' n0 (s.u.length - n0)) ret s hw.1 (by omega)
      have h2 := GP.seq key bef ret n0 ps (A p.t key (bef ++ List.range' n0 (s.u.length - n0)) ret s) hw.2 (by omega) (by omega)
      have e : (A p.t key (bef ++ List.range' n0 (s.u.length - n0)) ret s).u.length = s.u.length + p.o := by rw [h1.u, List.length_append, P.us_len]
      rw [e, h1.l] at h2
      exact h1.trans h2
theorem GP.par (key : List Int) (bef ret : List Nat) (n0 : Nat) : ∀ (ps : Ps) (j : Nat) (s : Gs), ps.wf = true → ps.dep ≤ d → GP s (gPar A key bef ret ps.ts j s) ps.us (ps.hs key j s.u.length) (ps.bs true bef n0 s.u.length) (ps.rs ret s.l) ps.q
  | .nil, j, s, _, _ => GP.refl s
  | .cons b p ps, j, s, hw, hd => by
    simp only [Ps.wf, Bool.and_eq_true] at hw
    cases b with
    | true =>
      simp only [Ps.dep, if_true] at hd
      simp only [Ps.ts, gPar, if_true, spl_s, Ps.us, Ps.hs, Ps.bs, Ps.rs, Ps.q, inner1]
      have h1 := hA p [(j : Int)] bef ret { s with w := putN s.w j (if isRetry p.t then ret ++ [s.l] else ret) } hw.1 (by omega)
      have h2 := GP.par key bef ret n0 ps (j + 1) (A p.t [(j : Int)] bef ret { s with w := putN s.w j (if isRetry p.t then ret ++ [s.l] else ret) }) hw.2 (by omega)
      have e : (A p.t [(j : Int)] bef ret { s with w := putN s.w j (if isRetry p.t then ret ++ [s.l] else ret) }).u.length = s.u.length + p.o := by rw [h1.u, List.length_append, P.us_len]
      rw [e, h1.l] at h2
      have h0 : GP s { s with w := putN s.w j (if isRetry p.t then ret ++ [s.l] else ret) } [] [] [] [] 0 := ⟨by simp, by simp, by simp, by simp, rfl⟩
      have h3 := h0.trans (h1.trans h2)
      rw [Nat.zero_add] at h3
      exact h3
    | false =>
      simp only [Ps.dep, if_false, Bool.false_eq_true] at hd
      simp only [Ps.ts, gPar, if_false, spl_t, Bool.false_eq_true, Ps.us, Ps.hs, Ps.bs, Ps.rs, Ps.q, if_true]
      have h1 := hA p key bef ret s hw.1 (by omega)
      have h2 := GP.par key bef ret n0 ps j (A p.t key bef ret s) hw.2 (by omega)
      have e : (A p.t key bef ret s).u.length = s.u.length + p.o := by rw [h1.u, List.length_append, P.us_len]
      rw [e, h1.l] at h2
      exact h1.trans h2
end
theorem gAdd_P : ∀ (d : Nat) (p : P) key bef ret s, p.wf = true → p.dep ≤ d → GP s (gAdd d p.t key bef ret s) p.us (p.hs key s.u.length) (p.bs bef s.u.length) (p.rs ret s.l) p.q
  | 0, p, key, bef, ret, s, _, h => by cases p <;> simp [P.dep] at h
  | d + 1, .draw u, key, bef, ret, s, _, _ => by
    simp only [P.t, gAdd, if_true]
    exact GP.put _ _ _ _ _
  | d + 1, .seq ps, key, bef, ret, s, hw, h => by
    simp only [P.wf, Bool.and_eq_true, decide_eq_true_eq] at hw
    simp only [P.dep] at h
    simp only [P.t, gAdd, n_seq_draw, n_seq_par, n_seq_named, n_seq_retry, if_false]
    exact GP.seq (gAdd_P d) key bef ret s.u.length ps s hw.2 (by omega) hw.1.1
  | d + 1, .par ps, key, bef, ret, s, hw, h => by
    simp only [P.wf, Bool.and_eq_true, decide_eq_true_eq] at hw
    simp only [P.dep] at h
    simp only [P.t, gAdd, n_par_draw, if_false, if_true]
    have h1 := GP.spl key bef ret s.u.length ps s (Nat.le_refl _)
    rw [Nat.sub_self] at h1
    have h2 := GP.par (gAdd_P d) key (bef ++ List.range' s.u.length (nspl ps.ts)) ret s.u.length ps s.u.length (gSpl key bef ret s.u.length ps.ts s) hw.2 (by omega)
    have e : (gSpl key bef ret s.u.length ps.ts s).u.length = s.u.length + ps.k := by rw [h1.u, List.length_append, List.length_replicate]
    rw [e, h1.l, nspl_ts, Nat.add_zero] at h2
    have h3 := h1.trans h2
    rw [Nat.zero_add, ← List.range_eq_range'] at h3
    rw [nspl_ts]
    exact h3
  | d + 1, .named a p, key, bef, ret, s, hw, h => by
    simp only [P.wf, Bool.and_eq_true, decide_eq_true_eq] at hw
    simp only [P.dep] at h
    simp only [P.t, gAdd, n_named_draw, n_named_par, if_false, if_true, intOf]
    exact gAdd_P d p (key ++ [a]) bef ret s hw.2 (by omega)
  | d + 1, .retry p, key, bef, ret, s, hw, h => by
    simp only [P.wf] at hw
    simp only [P.dep] at h
    simp only [P.t, gAdd, n_retry_draw, n_retry_par, n_retry_named, if_false, if_true]
    have h1 := gAdd_P d p key bef (ret ++ [s.l]) { s with l := s.l + 1 } hw (by omega)
    exact ⟨h1.u, h1.h, h1.b, h1.r, by rw [h1.l]; simp only [P.q]; omega⟩
end Mi

/-! MiAll: all operations of a plan, with what the graph and what the law's own listing say of each. -/
namespace Mi
open PySem L2
/-- where one stands: the node, the kind (0: a part of a seq; 1: a split; 2: a part of a par), the number -/
abbrev Mark := List Nat × Nat × Nat
/-- the stream one is on: its key; its split's place, None for the root; the names -/
structure Hm where
  key : List Int
  r : Option (List Nat)
  ns : List Int
structure Al where
  no : Nat
  use : T
  h : Hm
  bef : List Nat
  ret : List Nat
  ms : List Mark
  own : Option (List Nat)
def Al.push (m : Mark) (a : Al) : Al := { a with ms := m :: a.ms }
/-- the splits of a par -/
def Ps.spl (h : Hm) (bef : List Nat) (n0 : Nat) (node : List Nat) (ret : List Nat) : Ps → Nat → Nat → List Al
  | .nil, _, _ => []
  | .cons b _ ps, a, i => if b then ⟨n0 + a, .non, h, bef ++ List.range' n0 a, ret, [(node, 1, a)], some (node ++ [i])⟩ :: Ps.spl h bef n0 node ret ps (a + 1) (i + 1) else Ps.spl h bef n0 node ret ps a (i + 1)
mutual
def P.all : P → Hm → List Nat → Nat → List Nat → List Nat → Nat → List Al
  | .draw u, h, bef, n, node, ret, l => [⟨n, .int u, h, bef, ret, [], none⟩]
  | .seq ps, h, bef, n, node, ret, l => ps.all false h bef n 0 n node 0 ret l
  | .par ps, h, bef, n, node, ret, l => ps.spl h bef n node ret 0 0 ++ ps.all true h (bef ++ List.range' n ps.k) n n (n + ps.k) node 0 ret l
  | .named a p, h, bef, n, node, ret, l => p.all ⟨h.key ++ [a], h.r, h.ns ++ [a]⟩ bef n (node ++ [0]) ret l
  | .retry p, h, bef, n, node, ret, l => p.all h bef n (node ++ [0]) (ret ++ [l]) (l + 1)
def Ps.all : Ps → Bool → Hm → List Nat → Nat → Nat → Nat → List Nat → Nat → List Nat → Nat → List Al
  | .nil, _, _, _, _, _, _, _, _, _, _ => []
  | .cons b p ps, par, h, bef, n0, j, n, node, i, ret, l =>
    (p.all (if b then ⟨[(j : Int)], some (node ++ [i]), []⟩ else h) (if par then bef else bef ++ List.range' n0 (n - n0)) n (node ++ [i]) ret l).map (Al.push (node, if par then 2 else 0, i)) ++
      ps.all par h bef n0 (if b then j + 1 else j) (n + p.o) node (i + 1) ret (l + p.q)
end
theorem map_push {α : Type} (f : Al → α) (hf : ∀ m a, f (Al.push m a) = f a) (m : Mark) (l : List Al) : (l.map (Al.push m)).map f = l.map f := by
  rw [List.map_map]
  exact List.map_congr_left fun a _ => hf m a
theorem Ps.spl_no (h : Hm) (bef : List Nat) (n0 : Nat) (node ret : List Nat) : ∀ (ps : Ps) (a i : Nat), (ps.spl h bef n0 node ret a i).map Al.no = List.range' (n0 + a) ps.k
  | .nil, _, _ => rfl
  | .cons true p ps, a, i => by simp [Ps.spl, Ps.k, Ps.spl_no h bef n0 node ret ps, Nat.add_comm 1, List.range'_succ, Nat.add_assoc]
  | .cons false p ps, a, i => by simp [Ps.spl, Ps.k, Ps.spl_no h bef n0 node ret ps]
theorem Ps.spl_mem {h : Hm} {bef : List Nat} {n0 : Nat} {node ret : List Nat} : ∀ {ps : Ps} {a i : Nat} {x : Al}, x ∈ ps.spl h bef n0 node ret a i → ∃ c e, a ≤ c ∧ c < a + ps.k ∧ i ≤ e ∧ e < i + ps.len ∧ x = ⟨n0 + c, .non, h, bef ++ List.range' n0 c, ret, [(node, 1, c)], some (node ++ [e])⟩
  | .nil, _, _, x, hx => by cases hx
  | .cons true p ps, a, i, x, hx => by
    simp only [Ps.spl, if_true, List.mem_cons] at hx
    rcases hx with rfl | hx
    · exact ⟨a, i, Nat.le_refl _, by simp only [Ps.k, if_true]; omega, Nat.le_refl _, by simp only [Ps.len]; omega, rfl⟩
    · obtain ⟨c, e, h1, h2, h3, h4, rfl⟩ := Ps.spl_mem hx
      exact ⟨c, e, by omega, by simp [Ps.k]; omega, by omega, by simp [Ps.len]; omega, rfl⟩
  | .cons false p ps, a, i, x, hx => by
    simp only [Ps.spl, if_false, Bool.false_eq_true] at hx
    obtain ⟨c, e, h1, h2, h3, h4, rfl⟩ := Ps.spl_mem hx
    exact ⟨c, e, by omega, by simp [Ps.k]; omega, by omega, by simp [Ps.len]; omega, rfl⟩
mutual
theorem P.all_no : ∀ (p : P) (h : Hm) (bef : List Nat) (n : Nat) (node ret : List Nat) (l : Nat), (p.all h bef n node ret l).map Al.no = List.range' n p.o
  | .draw _, _, _, _, _, _, _ => rfl
  | .seq ps, h, bef, n, node, ret, l => by simp only [P.all, P.o, Ps.all_no ps]
  | .par ps, h, bef, n, node, ret, l => by
    simp only [P.all, P.o, List.map_append, Ps.all_no ps, Ps.spl_no, Nat.add_zero]
    rw [List.range'_append_1]
  | .named a p, h, bef, n, node, ret, l => by simp only [P.all, P.o, P.all_no p]
  | .retry p, h, bef, n, node, ret, l => by simp only [P.all, P.o, P.all_no p]
theorem Ps.all_no : ∀ (ps : Ps) (par : Bool) (h : Hm) (bef : List Nat) (n0 j n : Nat) (node : List Nat) (i : Nat) (ret : List Nat) (l : Nat), (ps.all par h bef n0 j n node i ret l).map Al.no = List.range' n ps.o
  | .nil, _, _, _, _, _, _, _, _, _, _ => rfl
  | .cons b p ps, par, h, bef, n0, j, n, node, i, ret, l => by
    simp only [Ps.all, Ps.o, List.map_append]
    rw [map_push Al.no (fun _ _ => rfl), P.all_no p, Ps.all_no ps, List.range'_append_1]
end
mutual
theorem P.all_use : ∀ (p : P) (h : Hm) (bef : List Nat) (n : Nat) (node ret : List Nat) (l : Nat), (p.all h bef n node ret l).map Al.use = p.us
  | .draw _, _, _, _, _, _, _ => rfl
  | .seq ps, h, bef, n, node, ret, l => by simp only [P.all, P.us, Ps.all_use ps]
  | .par ps, h, bef, n, node, ret, l => by
    have e : ∀ (ps : Ps) (a i : Nat), (ps.spl h bef n node ret a i).map Al.use = List.replicate ps.k .non := by
      intro ps
      induction ps using Ps.rec (motive_1 := fun _ => True) with
      | nil => intro a i; rfl
      | cons b p ps _ ih => intro a i; cases b <;> simp [Ps.spl, Ps.k, ih, Nat.add_comm 1, List.replicate_succ]
      | _ => trivial
    simp only [P.all, P.us, List.map_append, Ps.all_use ps, e]
  | .named a p, h, bef, n, node, ret, l => by simp only [P.all, P.us, P.all_use p]
  | .retry p, h, bef, n, node, ret, l => by simp only [P.all, P.us, P.all_use p]
theorem Ps.all_use : ∀ (ps : Ps) (par : Bool) (h : Hm) (bef : List Nat) (n0 j n : Nat) (node : List Nat) (i : Nat) (ret : List Nat) (l : Nat), (ps.all par h bef n0 j n node i ret l).map Al.use = ps.us
  | .nil, _, _, _, _, _, _, _, _, _, _ => rfl
  | .cons b p ps, par, h, bef, n0, j, n, node, i, ret, l => by
    simp only [Ps.all, Ps.us, List.map_append]
    rw [map_push Al.use (fun _ _ => rfl), P.all_use p, Ps.all_use ps]
end
mutual
theorem P.all_key : ∀ (p : P) (h : Hm) (bef : List Nat) (n : Nat) (node ret : List Nat) (l : Nat), (p.all h bef n node ret l).map (fun x => x.h.key) = p.hs h.key n
  | .draw _, _, _, _, _, _, _ => rfl
  | .seq ps, h, bef, n, node, ret, l => by simp only [P.all, P.hs, Ps.all_key ps]
  | .par ps, h, bef, n, node, ret, l => by
    have e : ∀ (ps : Ps) (a i : Nat), (ps.spl h bef n node ret a i).map (fun x => x.h.key) = List.replicate ps.k h.key := by
      intro ps
      induction ps using Ps.rec (motive_1 := fun _ => True) with
      | nil => intro a i; rfl
      | cons b p ps _ ih => intro a i; cases b <;> simp [Ps.spl, Ps.k, ih, Nat.add_comm 1, List.replicate_succ]
      | _ => trivial
    simp only [P.all, P.hs, List.map_append, Ps.all_key ps, e]
  | .named a p, h, bef, n, node, ret, l => by simp only [P.all, P.hs, P.all_key p]
  | .retry p, h, bef, n, node, ret, l => by simp only [P.all, P.hs, P.all_key p]
theorem Ps.all_key : ∀ (ps : Ps) (par : Bool) (h : Hm) (bef : List Nat) (n0 j n : Nat) (node : List Nat) (i : Nat) (ret : List Nat) (l : Nat), (ps.all par h bef n0 j n node i ret l).map (fun x => x.h.key) = ps.hs h.key j n
  | .nil, _, _, _, _, _, _, _, _, _, _ => rfl
  | .cons b p ps, par, h, bef, n0, j, n, node, i, ret, l => by
    simp only [Ps.all, Ps.hs, List.map_append]
    rw [map_push (fun x => x.h.key) (fun _ _ => rfl), P.all_key p, Ps.all_key ps]
    cases b <;> rfl
end
mutual
theorem P.all_bef : ∀ (p : P) (h : Hm) (bef : List Nat) (n : Nat) (node ret : List Nat) (l : Nat), (p.all h bef n node ret l).map Al.bef = p.bs bef n
  | .draw _, _, _, _, _, _, _ => rfl
  | .seq ps, h, bef, n, node, ret, l => by simp only [P.all, P.bs, Ps.all_bef ps]
  | .par ps, h, bef, n, node, ret, l => by
    have e : ∀ (ps : Ps) (a i : Nat), (ps.spl h bef n node ret a i).map Al.bef = (List.range' a ps.k).map (fun i => bef ++ List.range' n i) := by
      intro ps
      induction ps using Ps.rec (motive_1 := fun _ => True) with
      | nil => intro a i; rfl
      | cons b p ps _ ih => intro a i; cases b <;> simp [Ps.spl, Ps.k, ih, Nat.add_comm 1, List.range'_succ]
      | _ => trivial
    simp only [P.all, P.bs, List.map_append, Ps.all_bef ps, e, List.range_eq_range']
  | .named a p, h, bef, n, node, ret, l => by simp only [P.all, P.bs, P.all_bef p]
  | .retry p, h, bef, n, node, ret, l => by simp only [P.all, P.bs, P.all_bef p]
theorem Ps.all_bef : ∀ (ps : Ps) (par : Bool) (h : Hm) (bef : List Nat) (n0 j n : Nat) (node : List Nat) (i : Nat) (ret : List Nat) (l : Nat), (ps.all par h bef n0 j n node i ret l).map Al.bef = ps.bs par bef n0 n
  | .nil, _, _, _, _, _, _, _, _, _, _ => rfl
  | .cons b p ps, par, h, bef, n0, j, n, node, i, ret, l => by
    simp only [Ps.all, Ps.bs, List.map_append]
    rw [map_push Al.bef (fun _ _ => rfl), P.all_bef p, Ps.all_bef ps]
end
theorem P.all_in {p : P} {h : Hm} {bef : List Nat} {n : Nat} {node ret : List Nat} {l : Nat} {x : Al} (hx : x ∈ p.all h bef n node ret l) : n ≤ x.no ∧ x.no < n + p.o := by
  have := P.all_no p h bef n node ret l
  have hm : x.no ∈ List.range' n p.o := by rw [← this]; exact List.mem_map_of_mem hx
  simp [List.mem_range'_1] at hm
  exact hm
theorem Ps.all_in {ps : Ps} {par : Bool} {h : Hm} {bef : List Nat} {n0 j n : Nat} {node : List Nat} {i : Nat} {ret : List Nat} {l : Nat} {x : Al} (hx : x ∈ ps.all par h bef n0 j n node i ret l) : n ≤ x.no ∧ x.no < n + ps.o := by
  have := Ps.all_no ps par h bef n0 j n node i ret l
  have hm : x.no ∈ List.range' n ps.o := by rw [← this]; exact List.mem_map_of_mem hx
  simp [List.mem_range'_1] at hm
  exact hm
/-! ### what an operation is after -/
/-- x.bef: what bef has below n, nothing from x on -/
structure BefOk (bef : List Nat) (n : Nat) (x : Al) : Prop where
  lt : ∀ m ∈ x.bef, m < x.no
  low : ∀ m, m < n → (m ∈ x.bef ↔ m ∈ bef)
mutual
theorem P.all_befOk : ∀ (p : P) (h : Hm) (bef : List Nat) (n : Nat) (node ret : List Nat) (l : Nat), (∀ m ∈ bef, m < n) → ∀ x ∈ p.all h bef n node ret l, BefOk bef n x
  | .draw _, h, bef, n, node, ret, l, hb => fun x hx => by
    simp only [P.all, List.mem_singleton] at hx
    subst hx
    exact ⟨hb, fun m _ => Iff.rfl⟩
  | .seq ps, h, bef, n, node, ret, l, hb => fun x hx => by
    simp only [P.all] at hx
    obtain ⟨h1, h2⟩ := Ps.all_befOk ps false h bef n 0 n node 0 ret l (Nat.le_refl _) hb x hx
    exact ⟨h1, fun m hm => by rw [h2 m hm]; simp⟩
  | .par ps, h, bef, n, node, ret, l, hb => fun x hx => by
    simp only [P.all, List.mem_append] at hx
    rcases hx with hx | hx
    · obtain ⟨c, e, h1, h2, h3, h4, rfl⟩ := Ps.spl_mem hx
      refine ⟨fun m hm => ?_, fun m hm => ?_⟩
      · simp only [List.mem_append, List.mem_range'_1] at hm
        show m < n + c
        rcases hm with hm | hm
        · have := hb m hm; omega
        · omega
      · simp only [List.mem_append, List.mem_range'_1]
        constructor
        · rintro (h | h)
          · exact h
          · omega
        · exact fun h => .inl h
    · obtain ⟨h1, h2⟩ := Ps.all_befOk ps true h (bef ++ List.range' n ps.k) n n (n + ps.k) node 0 ret l (by omega) (fun m hm => by
        simp only [List.mem_append, List.mem_range'_1] at hm
        rcases hm with hm | hm
        · have := hb m hm; omega
        · omega) x hx
      refine ⟨h1, fun m hm => ?_⟩
      rw [h2 m (by omega)]
      simp only [if_true, List.mem_append, List.mem_range'_1]
      constructor
      · rintro (h | h)
        · exact h
        · omega
      · exact fun h => .inl h
  | .named a p, h, bef, n, node, ret, l, hb => fun x hx => P.all_befOk p _ bef n _ ret l hb x (by simpa only [P.all] using hx)
  | .retry p, h, bef, n, node, ret, l, hb => fun x hx => P.all_befOk p _ bef n _ _ _ hb x (by simpa only [P.all] using hx)
theorem Ps.all_befOk : ∀ (ps : Ps) (par : Bool) (h : Hm) (bef : List Nat) (n0 j n : Nat) (node : List Nat) (i : Nat) (ret : List Nat) (l : Nat), n0 ≤ n → (∀ m ∈ bef, m < n) → ∀ x ∈ ps.all par h bef n0 j n node i ret l, BefOk (if par then bef else bef ++ List.range' n0 (n - n0)) n x
  | .nil, par, h, bef, n0, j, n, node, i, ret, l, h0, hb => fun x hx => by simp only [Ps.all] at hx; cases hx
  | .cons b p ps, par, h, bef, n0, j, n, node, i, ret, l, h0, hb => fun x hx => by
    simp only [Ps.all, List.mem_append, List.mem_map] at hx
    have hB : ∀ m ∈ (if par = true then bef else bef ++ List.range' n0 (n - n0)), m < n := fun m hm => by
      cases par with
      | true => exact hb m hm
      | false =>
        simp only [if_false, Bool.false_eq_true, List.mem_append, List.mem_range'_1] at hm
        rcases hm with hm | hm
        · exact hb m hm
        · omega
    rcases hx with ⟨y, hy, rfl⟩ | hx
    · obtain ⟨h1, h2⟩ := P.all_befOk p _ _ n _ ret l hB y hy
      exact ⟨h1, h2⟩
    · obtain ⟨h1, h2⟩ := Ps.all_befOk ps par h bef n0 _ (n + p.o) node (i + 1) ret _ (by omega) (fun m hm => by have := hb m hm; omega) x hx
      refine ⟨h1, fun m hm => ?_⟩
      rw [h2 m (by omega)]
      cases par with
      | true => exact Iff.rfl
      | false =>
        simp only [if_false, Bool.false_eq_true, List.mem_append, List.mem_range'_1]
        constructor
        · rintro (h | h)
          · exact .inl h
          · right; omega
        · rintro (h | h)
          · exact .inl h
          · right; omega
end
/-- decided by the places -/
def dec : List Mark → List Mark → Bool
  | a :: as, b :: bs => if a = b then dec as bs else if a.2.1 = 2 ∧ b.2.1 = 2 then false else decide (b.2.1 < a.2.1 ∨ b.2.1 = a.2.1 ∧ b.2.2 < a.2.2)
  | _, _ => false
theorem Ps.all_mark {ps : Ps} {par : Bool} {h : Hm} {bef : List Nat} {n0 : Nat} {node ret : List Nat} : ∀ {j n i l : Nat} {x : Al}, x ∈ ps.all par h bef n0 j n node i ret l → ∃ e ms, i ≤ e ∧ x.ms = (node, if par then 2 else 0, e) :: ms := by
  induction ps using Ps.rec (motive_1 := fun _ => True) with
  | nil => intro j n i l x hx; simp only [Ps.all] at hx; cases hx
  | cons b p ps _ ih =>
    intro j n i l x hx
    simp only [Ps.all, List.mem_append, List.mem_map] at hx
    rcases hx with ⟨y, hy, rfl⟩ | hx
    · exact ⟨i, y.ms, Nat.le_refl _, rfl⟩
    · obtain ⟨e, ms, h1, h2⟩ := ih hx
      exact ⟨e, ms, by omega, h2⟩
  | _ => trivial
mutual
theorem P.all_dec : ∀ (p : P) (h : Hm) (bef : List Nat) (n : Nat) (node ret : List Nat) (l : Nat), (∀ m ∈ bef, m < n) → ∀ x ∈ p.all h bef n node ret l, ∀ y ∈ p.all h bef n node ret l, (y.no ∈ x.bef ↔ dec x.ms y.ms = true)
  | .draw _, h, bef, n, node, ret, l, hb => fun x hx y hy => by
    simp only [P.all, List.mem_singleton] at hx hy
    subst hx; subst hy
    constructor
    · intro hm; have := hb _ hm; simp at this
    · intro hm; simp [dec] at hm
  | .seq ps, h, bef, n, node, ret, l, hb => fun x hx y hy => by
    simp only [P.all] at hx hy
    exact Ps.all_dec ps false h bef n 0 n node 0 ret l (Nat.le_refl _) hb x hx y hy
  | .par ps, h, bef, n, node, ret, l, hb => fun x hx y hy => by
    simp only [P.all, List.mem_append] at hx hy
    have hb2 : ∀ m ∈ bef ++ List.range' n ps.k, m < n + ps.k := fun m hm => by
      simp only [List.mem_append, List.mem_range'_1] at hm
      rcases hm with hm | hm
      · have := hb m hm; omega
      · omega
    rcases hx with hx | hx
    · obtain ⟨c, e, h1, h2, h3, h4, rfl⟩ := Ps.spl_mem hx
      rcases hy with hy | hy
      · obtain ⟨c', e', h1', h2', h3', h4', rfl⟩ := Ps.spl_mem hy
        simp only [List.mem_append, List.mem_range'_1, dec]
        by_cases hc : c = c'
        · subst hc
          simp
          intro hm; have := hb _ hm; omega
        · simp [hc]
          intro hm; have := hb _ hm; omega
      · have hi := Ps.all_in hy
        obtain ⟨f, ms, hf, em⟩ := Ps.all_mark hy
        rw [em]
        simp only [if_true, List.mem_append, List.mem_range'_1, dec]
        simp
        constructor
        · intro hm; have := hb _ hm; omega
        · omega
    · obtain ⟨f, ms, hf, em⟩ := Ps.all_mark hx
      obtain ⟨hl, hlow⟩ := Ps.all_befOk ps true h (bef ++ List.range' n ps.k) n n (n + ps.k) node 0 ret l (by omega) hb2 x hx
      rcases hy with hy | hy
      · obtain ⟨c', e', h1', h2', h3', h4', rfl⟩ := Ps.spl_mem hy
        rw [hlow _ (by show n + c' < _; omega), em]
        simp [dec]
        right; omega
      · exact Ps.all_dec ps true h (bef ++ List.range' n ps.k) n n (n + ps.k) node 0 ret l (by omega) hb2 x hx y hy
  | .named a p, h, bef, n, node, ret, l, hb => fun x hx y hy => P.all_dec p _ bef n _ ret l hb x (by simpa only [P.all] using hx) y (by simpa only [P.all] using hy)
  | .retry p, h, bef, n, node, ret, l, hb => fun x hx y hy => P.all_dec p _ bef n _ _ _ hb x (by simpa only [P.all] using hx) y (by simpa only [P.all] using hy)
theorem Ps.all_dec : ∀ (ps : Ps) (par : Bool) (h : Hm) (bef : List Nat) (n0 j n : Nat) (node : List Nat) (i : Nat) (ret : List Nat) (l : Nat), n0 ≤ n → (∀ m ∈ bef, m < n) → ∀ x ∈ ps.all par h bef n0 j n node i ret l, ∀ y ∈ ps.all par h bef n0 j n node i ret l, (y.no ∈ x.bef ↔ dec x.ms y.ms = true)
  | .nil, par, h, bef, n0, j, n, node, i, ret, l, h0, hb => fun x hx => by simp only [Ps.all] at hx; cases hx
  | .cons b p ps, par, h, bef, n0, j, n, node, i, ret, l, h0, hb => fun x hx y hy => by
    simp only [Ps.all, List.mem_append, List.mem_map] at hx hy
    have hB : ∀ m ∈ (if par = true then bef else bef ++ List.range' n0 (n - n0)), m < n := fun m hm => by
      cases par with
      | true => exact hb m hm
      | false =>
        simp only [if_false, Bool.false_eq_true, List.mem_append, List.mem_range'_1] at hm
        rcases hm with hm | hm
        · exact hb m hm
        · omega
    rcases hx with ⟨x, hx, rfl⟩ | hx
    · rcases hy with ⟨y, hy, rfl⟩ | hy
      · have := P.all_dec p _ _ n _ ret l hB x hx y hy
        simp only [Al.push, dec, if_true]
        exact this
      · -- y behind x
        obtain ⟨f, ms, hf, em⟩ := Ps.all_mark hy
        have hi := Ps.all_in hy
        have hj := P.all_in hx
        obtain ⟨hl, _⟩ := P.all_befOk p _ _ n _ ret l hB x hx
        simp only [Al.push, em]
        have h1 : ¬ y.no ∈ x.bef := fun hm => by have := hl _ hm; omega
        cases par with
        | true => simp [dec, h1, show ¬ i = f by omega]
        | false => simp [dec, h1, show ¬ i = f by omega]; omega
    · rcases hy with ⟨y, hy, rfl⟩ | hy
      · -- x behind y
        obtain ⟨f, ms, hf, em⟩ := Ps.all_mark hx
        have hi := P.all_in hy
        obtain ⟨hl, hlow⟩ := Ps.all_befOk ps par h bef n0 _ (n + p.o) node (i + 1) ret _ (by omega) (fun m hm => by have := hb m hm; omega) x hx
        rw [show (Al.push (node, if par = true then 2 else 0, i) y).no = y.no from rfl, hlow _ hi.2]
        simp only [Al.push, em]
        cases par with
        | true =>
          simp [dec, show ¬ f = i by omega]
          intro hm; have := hb _ hm; omega
        | false =>
          simp [dec, show ¬ f = i by omega]
          constructor
          · intro _; omega
          · intro _; right; omega
      · exact Ps.all_dec ps par h bef n0 _ (n + p.o) node (i + 1) ret _ (by omega) (fun m hm => by have := hb m hm; omega) x hx y hy
end
end Mi

/-! MiLis: what _law_listed lists, by the operations of a plan. -/
namespace Mi
open PySem L2
def nodeT (l : List Nat) : List T := l.map fun (n : Nat) => .int n
def ownT : Option (List Nat) → T
  | none => .non
  | some l => .tup (nodeT l)
def homeT (h : Hm) : List T := ownT h.r :: h.ns.map .int
def markT (m : Mark) : T := .tup [.tup (nodeT m.1), .int (m.2.1 : Nat), .int (m.2.2 : Nat)]
def Al.tT (marks : List T) (a : Al) : T := .tup [a.use, .tup (homeT a.h), .tup (marks ++ a.ms.map markT), ownT a.own]
theorem nodeT_snoc (l : List Nat) (n : Nat) : nodeT l ++ [.int n] = nodeT (l ++ [n]) := by simp [nodeT]
theorem tT_push (marks : List T) (m : Mark) (a : Al) : (a.push m).tT marks = a.tT (marks ++ [markT m]) := by simp [Al.tT, Al.push]
theorem spE_spl {h : Hm} {bef : List Nat} {n0 : Nat} {node ret : List Nat} {marks : List T} : ∀ (ps : Ps) (a i : Nat), spE (homeT h) marks (nodeT node) a (sepOf i ps.ts) = (ps.spl h bef n0 node ret a i).map (Al.tT marks)
  | .nil, _, _ => rfl
  | .cons true p ps, a, i => by
    simp only [Ps.ts, sepOf, if_true, spl_s, spE, Ps.spl, List.map_cons]
    rw [spE_spl (bef := bef) (n0 := n0) (ret := ret) ps]
    simp [eSpl, Al.tT, markT, nodeT, ownT]
  | .cons false p ps, a, i => by
    simp only [Ps.ts, sepOf, if_false, Bool.false_eq_true, spl_t, Ps.spl]
    exact spE_spl ps a (i + 1)
section
variable {d : Nat} {L : LisF} (hL : ∀ (p : P) (h : Hm) bef n node ret l marks, p.wf = true → p.dep ≤ d → L p.t (homeT h) marks (nodeT node) = (p.all h bef n node ret l).map (Al.tT marks))
include hL
theorem lsPt_all (par : Bool) (h : Hm) (bef : List Nat) (n0 : Nat) (node ret : List Nat) (marks : List T) : ∀ (ps : Ps) (j n i l : Nat), ps.wf = true → ps.dep ≤ d →
    lsPt L (homeT h) marks (nodeT node) (if par then 1 else 0) i ps.ts = (ps.all par h bef n0 j n node i ret l).map (Al.tT marks)
  | .nil, _, _, _, _, _, _ => rfl
  | .cons b p ps, j, n, i, l, hw, hd => by
    simp only [Ps.wf, Bool.and_eq_true] at hw
    have em : (T.tup [.tup (nodeT node), .int (2 * (if par = true then 1 else 0 : Int)), .int (i : Nat)]) = markT (node, if par then 2 else 0, i) := by cases par <;> simp [markT]
    have ee : ∀ (l : List Al) (m : Mark), (l.map (Al.push m)).map (Al.tT marks) = l.map (Al.tT (marks ++ [markT m])) := fun l m => by
      rw [List.map_map]
      exact List.map_congr_left fun a _ => tT_push marks m a
    simp only [Ps.ts, lsPt, Ps.all, List.map_append]
    rw [lsPt_all par h bef n0 node ret marks ps (if b then j + 1 else j) (n + p.o) (i + 1) (l + p.q) hw.2 (by simp only [Ps.dep] at hd; omega), ee, em]
    congr 1
    cases b with
    | true =>
      simp only [Ps.dep, if_true] at hd
      simp only [if_true, spl_s, inner1, nodeT_snoc]
      exact hL p ⟨[(j : Int)], some (node ++ [i]), []⟩ _ n (node ++ [i]) ret l _ hw.1 (by omega)
    | false =>
      simp only [Ps.dep, if_false, Bool.false_eq_true] at hd
      simp only [if_false, Bool.false_eq_true, spl_t, nodeT_snoc]
      exact hL p h _ n (node ++ [i]) ret l _ hw.1 (by omega)
end
theorem sep_k : ∀ (ps : Ps) (i : Nat), ps.k = 0 → sepOf i ps.ts = []
  | .nil, _, _ => rfl
  | .cons b p ps, i, h => by
    cases b with
    | true => simp only [Ps.k, if_true] at h; omega
    | false =>
      simp only [Ps.k, if_false, Bool.false_eq_true, Nat.zero_add] at h
      simp only [Ps.ts, sepOf, if_false, Bool.false_eq_true, spl_t]
      exact sep_k ps (i + 1) h
theorem listed_all : ∀ (d : Nat) (p : P) (h : Hm) (bef : List Nat) (n : Nat) (node ret : List Nat) (l : Nat) (marks : List T), p.wf = true → p.dep ≤ d →
    listed d p.t (homeT h) marks (nodeT node) = (p.all h bef n node ret l).map (Al.tT marks)
  | 0, p, h, bef, n, node, ret, l, marks, _, hd => by cases p <;> simp [P.dep] at hd
  | d + 1, .draw u, h, bef, n, node, ret, l, marks, _, _ => by simp [P.t, listed, P.all, Al.tT, ownT]
  | d + 1, .seq ps, h, bef, n, node, ret, l, marks, hw, hd => by
    simp only [P.wf, Bool.and_eq_true, decide_eq_true_eq] at hw
    simp only [P.dep] at hd
    simp only [P.t, listed, n_seq_draw, n_seq_named, n_seq_retry, n_seq_par, if_false, P.all]
    rw [sep_k ps 0 hw.1.1]
    exact lsPt_all (listed_all d) false h bef n node ret marks ps 0 n 0 l hw.2 (by omega)
  | d + 1, .par ps, h, bef, n, node, ret, l, marks, hw, hd => by
    simp only [P.wf, Bool.and_eq_true, decide_eq_true_eq] at hw
    simp only [P.dep] at hd
    simp only [P.t, listed, n_par_draw, n_par_named, n_par_retry, if_false, if_true, P.all, List.map_append]
    rw [spE_spl (bef := bef) (n0 := n) (ret := ret) ps 0 0]
    congr 1
    exact lsPt_all (listed_all d) true h (bef ++ List.range' n ps.k) n node ret marks ps n (n + ps.k) 0 l hw.2 (by omega)
  | d + 1, .named a p, h, bef, n, node, ret, l, marks, hw, hd => by
    simp only [P.wf, Bool.and_eq_true, decide_eq_true_eq] at hw
    simp only [P.dep] at hd
    simp only [P.t, listed, n_named_draw, if_false, if_true, P.all]
    have e : homeT h ++ [T.int a] = homeT ⟨h.key ++ [a], h.r, h.ns ++ [a]⟩ := by simp [homeT]
    rw [e, show nodeT node ++ [T.int 0] = nodeT (node ++ [0]) from nodeT_snoc node 0]
    exact listed_all d p _ bef n _ ret l marks hw.2 (by omega)
  | d + 1, .retry p, h, bef, n, node, ret, l, marks, hw, hd => by
    simp only [P.wf] at hw
    simp only [P.dep] at hd
    simp only [P.t, listed, n_retry_draw, n_retry_named, if_false, if_true, P.all]
    rw [show nodeT node ++ [T.int 0] = nodeT (node ++ [0]) from nodeT_snoc node 0]
    exact listed_all d p _ bef n _ _ _ marks hw (by omega)
/-- the root -/
abbrev hm0 : Hm := ⟨[-1], none, []⟩
/-- all operations -/
abbrev P.al (p : P) : List Al := p.all hm0 [] 0 [] [] 0
theorem P.al_len (p : P) : p.al.length = p.o := by
  have := congrArg List.length (P.all_no p hm0 [] 0 [] [] 0)
  simpa using this
theorem P.al_no (p : P) (i : Nat) (h : i < p.al.length) : p.al[i].no = i := by
  have e := P.all_no p hm0 [] 0 [] [] 0
  have : (p.al.map Al.no)[i]'(by simpa using h) = (List.range' 0 p.o)[i]'(by simpa [P.al_len] using h) := by
    simp only [e]
  simpa using this
theorem listed_al (p : P) (hw : p.wf = true) (hd : p.dep ≤ 10) : listed 10 p.t [.non] [] [] = p.al.map (Al.tT []) := listed_all 10 p hm0 [] 0 [] [] 0 [] hw hd
/-- small numbers -/
structure Mok (m : Mark) : Prop where
  n : ∀ a ∈ m.1, a < 32
  k : m.2.1 < 32
  i : m.2.2 < 32
structure Aok (x : Al) : Prop where
  ms : ∀ m ∈ x.ms, Mok m
  own : ∀ o, x.own = some o → ∀ a ∈ o, a < 32
theorem snoc32 {l : List Nat} {i : Nat} (h : ∀ a ∈ l, a < 32) (hi : i < 32) : ∀ a ∈ l ++ [i], a < 32 := fun a ha => by
  rcases List.mem_append.mp ha with ha | ha
  · exact h a ha
  · rw [List.mem_singleton] at ha
    omega
theorem Ps.k_le : ∀ ps : Ps, ps.k ≤ ps.len
  | .nil => Nat.le_refl _
  | .cons b p ps => by
    have := Ps.k_le ps
    cases b <;> simp only [Ps.k, Ps.len, if_true, if_false, Bool.false_eq_true] <;> omega
mutual
theorem P.all_ok : ∀ (p : P) (h : Hm) (bef : List Nat) (n : Nat) (node ret : List Nat) (l : Nat), p.wf = true → (∀ a ∈ node, a < 32) → ∀ x ∈ p.all h bef n node ret l, Aok x
  | .draw _, h, bef, n, node, ret, l, hw, hn => fun x hx => by
    simp only [P.all, List.mem_singleton] at hx
    subst hx
    exact ⟨by simp, by simp⟩
  | .seq ps, h, bef, n, node, ret, l, hw, hn => fun x hx => by
    simp only [P.wf, Bool.and_eq_true, decide_eq_true_eq] at hw
    simp only [P.all] at hx
    exact Ps.all_ok ps false h bef n 0 n node 0 ret l hw.2 hn (by omega) x hx
  | .par ps, h, bef, n, node, ret, l, hw, hn => fun x hx => by
    simp only [P.wf, Bool.and_eq_true, decide_eq_true_eq] at hw
    simp only [P.all, List.mem_append] at hx
    rcases hx with hx | hx
    · obtain ⟨c, e, h1, h2, h3, h4, rfl⟩ := Ps.spl_mem hx
      have := ps.k_le
      refine ⟨fun m hm => ?_, fun o ho a ha => ?_⟩
      · rw [List.mem_singleton] at hm
        subst hm
        exact ⟨hn, show 1 < 32 by decide, by show c < 32; omega⟩
      · cases ho
        rcases List.mem_append.mp ha with ha | ha
        · exact hn a ha
        · rw [List.mem_singleton] at ha
          omega
    · exact Ps.all_ok ps true h _ n n (n + ps.k) node 0 ret l hw.2 hn (by omega) x hx
  | .named a p, h, bef, n, node, ret, l, hw, hn => fun x hx => by
    simp only [P.wf, Bool.and_eq_true, decide_eq_true_eq] at hw
    exact P.all_ok p _ bef n _ ret l hw.2 (snoc32 (i := 0) hn (by decide)) x (by simpa only [P.all] using hx)
  | .retry p, h, bef, n, node, ret, l, hw, hn => fun x hx => by
    simp only [P.wf] at hw
    exact P.all_ok p _ bef n _ _ _ hw (snoc32 (i := 0) hn (by decide)) x (by simpa only [P.all] using hx)
theorem Ps.all_ok : ∀ (ps : Ps) (par : Bool) (h : Hm) (bef : List Nat) (n0 j n : Nat) (node : List Nat) (i : Nat) (ret : List Nat) (l : Nat), ps.wf = true → (∀ a ∈ node, a < 32) → i + ps.len < 32 → ∀ x ∈ ps.all par h bef n0 j n node i ret l, Aok x
  | .nil, par, h, bef, n0, j, n, node, i, ret, l, hw, hn, hi => fun x hx => by simp only [Ps.all] at hx; cases hx
  | .cons b p ps, par, h, bef, n0, j, n, node, i, ret, l, hw, hn, hi => fun x hx => by
    simp only [Ps.wf, Bool.and_eq_true] at hw
    simp only [Ps.len] at hi
    simp only [Ps.all, List.mem_append, List.mem_map] at hx
    rcases hx with ⟨y, hy, rfl⟩ | hx
    · obtain ⟨h1, h2⟩ := P.all_ok p _ _ n (node ++ [i]) ret l hw.1 (snoc32 hn (by omega)) y hy
      refine ⟨fun m hm => ?_, h2⟩
      rcases List.mem_cons.mp hm with rfl | hm
      · exact ⟨hn, show (if par = true then 2 else 0) < 32 by split <;> decide, by show i < 32; omega⟩
      · exact h1 m hm
    · exact Ps.all_ok ps par h bef n0 _ _ node (i + 1) ret _ hw.2 hn (by omega) x hx
end
theorem eqvs_nodes : ∀ (a b : List Nat), T.eqvs (nodeT a) (nodeT b) = decide (a = b)
  | [], [] => rfl
  | [], b :: bs => by simp [nodeT, T.eqvs]
  | a :: as, [] => by simp [nodeT, T.eqvs]
  | a :: as, b :: bs => by
    have := eqvs_nodes as bs
    simp only [nodeT] at this
    simp only [nodeT, List.map_cons, T.eqvs, this, eqv_int]
    by_cases h : a = b
    · subst h; simp
    · have : ¬ (a : Int) = (b : Int) := by omega
      simp [h, this]
theorem eqv_mark (a b : Mark) : T.eqv (markT a) (markT b) = decide (a = b) := by
  obtain ⟨a1, a2, a3⟩ := a
  obtain ⟨b1, b2, b3⟩ := b
  have e1 : ((a2 : Int) == (b2 : Int)) = decide (a2 = b2) := by by_cases h : a2 = b2 <;> simp [h]; omega
  have e2 : ((a3 : Int) == (b3 : Int)) = decide (a3 = b3) := by by_cases h : a3 = b3 <;> simp [h]; omega
  simp only [markT, T.eqv, T.eqvs, eqvs_nodes, Prod.mk.injEq, Bool.and_true, e1, e2, Bool.decide_and]
theorem bt_nat {n : Nat} (h : n < 32) : BT 0 7 (.int (n : Nat)) := BT.int (by omega)
theorem ls_node {l : List Nat} (h : ∀ n ∈ l, n < 32) : LS 0 (9 * l.length) (nodeT l) := by
  induction l with
  | nil => simpa [nodeT] using LS.nil (n := 0) (w := 0)
  | cons a l ih =>
    have := LS.cons (bt_nat (h a List.mem_cons_self)) (ih fun n hn => h n (List.mem_cons_of_mem _ hn)) (k := 9 * (a :: l).length) (by rw [List.length_cons]; omega)
    simpa [nodeT] using this
theorem bt_mark {m : Mark} (h : Mok m) : BT 2 (9 * m.1.length + 100) (markT m) := by
  have h1 := (ls_node h.n).tup
  have h2 := bt_nat h.k
  have h3 := bt_nat h.i
  have := (LS.cons h1 (LS.cons (h2.mono (Nat.zero_le 1) (Nat.le_refl _)) (LS.cons (h3.mono (Nat.zero_le 1) (Nat.le_refl _)) (LS.nil (w := 0)) (Nat.le_refl _)) (Nat.le_refl _)) (Nat.le_refl _)).tup
  exact this.mono (Nat.le_refl _) (by omega)
theorem sh_mark {m : Mark} (h : Mok m) : shaped (markT m) = true := by
  have b := bt_mark h
  exact T.tr_shaped b.tr b.nd (by have := b.dp; omega)
end Mi

/-! MiUse: comprehensions that change the store, small things on sizes. -/
namespace Mi
open PySem L2
theorem lc_inv {g : T → Sl → Option Sl} {tt : M Bool} {elt : M T} {ρ : Sl} (f : T → T) (Inv : Sto → Prop) : ∀ {ts : List T} {st : Sto}, Inv st → (∀ t ∈ ts, ∀ st, Inv st → ∃ ρ1 st', g t ρ = some ρ1 ∧ tt ρ1 st = .ok true st ∧ elt ρ1 st = .ok (f t) st' ∧ Inv st') →
    ∃ st', lcL g tt elt ρ ts st = .ok (ts.map f) st' ∧ Inv st'
  | [], st, h, _ => ⟨st, rfl, h⟩
  | t :: ts, st, h, step => by
    obtain ⟨ρ1, st1, h1, h2, h3, h4⟩ := step t List.mem_cons_self st h
    obtain ⟨st2, h5, h6⟩ := lc_inv f Inv h4 fun u hu => step u (List.mem_cons_of_mem _ hu)
    refine ⟨st2, ?_, h6⟩
    unfold lcL
    rw [h1]
    simp only [h2, noExc]
    show (R.bind (noExc (elt ρ1 st)) _) = _
    rw [h3]
    show (R.bind (lcL g tt elt ρ ts st1) _) = _
    rw [h5]
    rfl
theorem lc_gen {g : T → Sl → Option Sl} {tt : M Bool} {elt : M T} {ρ : Sl} (P : T → Prop) (Inv : Nat → Sto → Prop) (M : Nat) : ∀ {ts : List T} {n : Nat} {st : Sto}, n + ts.length ≤ M → Inv n st → (∀ t ∈ ts, ∀ n st, n < M → Inv n st → ∃ ρ1 y st', g t ρ = some ρ1 ∧ tt ρ1 st = .ok true st ∧ elt ρ1 st = .ok y st' ∧ P y ∧ Inv (n + 1) st') →
    ∃ ys st', lcL g tt elt ρ ts st = .ok ys st' ∧ ys.length = ts.length ∧ (∀ y ∈ ys, P y) ∧ Inv (n + ts.length) st'
  | [], n, st, hM, h, _ => ⟨[], st, rfl, rfl, (fun _ h => by cases h), h⟩
  | t :: ts, n, st, hM, h, step => by
    rw [List.length_cons] at hM
    obtain ⟨ρ1, y, st1, h1, h2, h3, hy, h4⟩ := step t List.mem_cons_self n st (by omega) h
    obtain ⟨ys, st2, h5, h6, h7, h8⟩ := lc_gen P Inv M (by omega) h4 fun u hu => step u (List.mem_cons_of_mem _ hu)
    refine ⟨y :: ys, st2, ?_, by simp [h6], fun z hz => ?_, by rw [List.length_cons, show n + (ts.length + 1) = n + 1 + ts.length by omega]; exact h8⟩
    · unfold lcL
      rw [h1]
      simp only [h2, noExc]
      show (R.bind (noExc (elt ρ1 st)) _) = _
      rw [h3]
      show (R.bind (lcL g tt elt ρ ts st1) _) = _
      rw [h5]
      rfl
    · rcases List.mem_cons.mp hz with rfl | hz
      · exact hy
      · exact h7 z hz
/-- over range(n), within lcW -/
theorem lcW_rg {g : T → Sl → Option Sl} {tt : M Bool} {elt : M T} {ρ : Sl} {n : Nat} {st : Sto} (f : Nat → T) (hn : n ≤ 9000) (Inv : Sto → Prop) (h : Inv st) (step : ∀ i, i < n → ∀ st, Inv st → ∃ ρ1 st', g (.int (i : Nat)) ρ = some ρ1 ∧ tt ρ1 st = .ok true st ∧ elt ρ1 st = .ok (f i) st' ∧ Inv st') :
    ∃ st', lcW g tt elt ρ (.seq (rgT 0 n)) st = .ok ((List.range n).map f) st' ∧ Inv st' := by
  obtain ⟨st', h1, h2⟩ := lc_inv (g := g) (tt := tt) (elt := elt) (ρ := ρ) (fun t => f (match t with | .int i => i.toNat | _ => 0)) Inv (ts := rgT 0 n) h (fun t ht st hst => by
    simp only [rgT, List.mem_map, List.mem_range] at ht
    obtain ⟨i, hi, rfl⟩ := ht
    rw [Int.zero_add]
    obtain ⟨ρ1, st', e1, e2, e3, e4⟩ := step i hi st hst
    exact ⟨ρ1, st', e1, e2, by simpa using e3, e4⟩)
  refine ⟨st', ?_, h2⟩
  show (if (rgT 0 n).length ≤ sizeLine then _ else _) = _
  rw [if_pos (by simp [rgT, sizeLine_eq]; omega), h1]
  congr 1
  simp [rgT]
theorem LS_all {n w : Nat} : ∀ {ts : List T}, (∀ t ∈ ts, BT n w t) → LS n ((w + 2) * ts.length) ts
  | [], _ => by simpa using LS.nil (n := n) (w := 0)
  | t :: ts, h => LS.cons (h t List.mem_cons_self) (LS_all fun u hu => h u (List.mem_cons_of_mem _ hu)) (by rw [List.length_cons, Nat.mul_add]; omega)
theorem BT.bl (b : Bool) : BT 0 7 (.bl b) := by cases b <;> exact ⟨rfl, rfl, Nat.le_refl _, by decide⟩
theorem nat_in (n : Nat) (l : List Nat) : inD (.int (n : Nat)) (l.map fun (n : Nat) => T.int n) = decide (n ∈ l) := by
  have := inD_ints (n : Int) (l.map fun (n : Nat) => (n : Int))
  rw [List.map_map] at this
  rw [show (fun (n : Nat) => T.int n) = (T.int ∘ fun (n : Nat) => (n : Int)) from rfl, this]
  simp
  exact ⟨fun ⟨a, h, e⟩ => by have : a = n := by omega
                             exact this ▸ h, fun h => ⟨n, h, rfl⟩⟩
theorem BT.intW {v : Int} (h : v.natAbs.log2 < 1000) : BT 0 1010 (.int v) := ⟨by simp [T.tr]; omega, rfl, Nat.le_refl _, by simp [T.wt]; omega⟩
theorem sh_nat {n : Nat} (h : n < 32) : shaped (.int (n : Nat)) = true := by
  have b := BT.int (v := (n : Int)) (by omega)
  exact T.tr_shaped b.tr b.nd (by have := b.dp; omega)
theorem ls_nats {l : List Nat} (h : ∀ n ∈ l, n < 32) : LS 0 (9 * l.length) (l.map fun (n : Nat) => T.int n) := by
  have := LS_all (n := 0) (w := 7) (ts := l.map fun (n : Nat) => T.int n) (fun t ht => by
    obtain ⟨n, hn, rfl⟩ := List.mem_map.mp ht
    exact BT.int (by have := h n hn; omega))
  simpa using this
theorem sh_nats {l : List Nat} (h : ∀ n ∈ l, n < 32) : shaped (.lst (l.map fun (n : Nat) => T.int n)) = true := by
  have b := (ls_nats h)
  exact T.tr_shaped (by simpa only [T.tr] using b.tr) (by simpa only [T.nd] using b.nd) (by simp only [T.dep]; have := b.dp; omega)
theorem tr_nat {n : Nat} (h : n ≤ 9000) : (T.int (n : Int)).tr = true := by
  have : ((n : Int)).natAbs.log2 < 1920 := by
    rw [Int.natAbs_natCast]
    have h1 : n.log2 ≤ n := Nat.log2_le_self n
    by_cases h0 : n = 0
    · subst h0; decide
    · have : n.log2 < 14 := (Nat.log2_lt h0).mpr (by omega)
      omega
  simpa [T.tr] using this
end Mi

/-! MiIdx: list.index, sorted of tuples of whole numbers, sorted(set(..)) of them. -/
namespace Mi
open PySem L2
/-- the first place of an equal item -/
def idxT (y : T) : List T → Option Nat
  | [] => none
  | t :: ts => if T.eqv t y then some 0 else (idxT y ts).map (· + 1)
theorem idxT_some {y : T} : ∀ {ts : List T} {j : Nat}, idxT y ts = some j → ∃ t, ts[j]? = some t ∧ T.eqv t y = true ∧ ∀ m u, m < j → ts[m]? = some u → T.eqv u y = false
  | [], j, h => by cases h
  | t :: ts, j, h => by
    unfold idxT at h
    by_cases ht : T.eqv t y = true
    · rw [if_pos ht] at h
      cases h
      exact ⟨t, rfl, ht, fun m u hm => absurd hm (Nat.not_lt_zero _)⟩
    · rw [if_neg ht] at h
      cases e : idxT y ts with
      | none => rw [e] at h; cases h
      | some i =>
        rw [e] at h
        cases h
        obtain ⟨z, h1, h2, h3⟩ := idxT_some e
        refine ⟨z, by simpa using h1, h2, fun m u hm hu => ?_⟩
        cases m with
        | zero => simp at hu; subst hu; simpa using ht
        | succ m => exact h3 m u (Nat.lt_of_succ_lt_succ hm) (by simpa using hu)
theorem pds_at : ∀ {ts : List T} {ds : List PyData}, T.pds ts = some ds → ∀ (j : Nat) (z : PyData), ds[j]? = some z → ∃ t, ts[j]? = some t ∧ t.pd = some z
  | [], ds, h, j, z, hz => by simp only [T.pds, Option.some.injEq] at h; subst h; simp at hz
  | t :: ts, ds, h, j, z, hz => by
    obtain ⟨a, b, h1, h2, rfl⟩ := T.pds_cons h
    cases j with
    | zero => simp at hz; subst hz; exact ⟨t, rfl, h1⟩
    | succ j => simpa using pds_at h2 j z (by simpa using hz)
theorem pds_at' : ∀ {ts : List T} {ds : List PyData}, T.pds ts = some ds → ∀ (j : Nat) (t : T), ts[j]? = some t → ∃ z, ds[j]? = some z ∧ t.pd = some z
  | [], ds, h, j, z, hz => by simp at hz
  | t :: ts, ds, h, j, z, hz => by
    obtain ⟨a, b, h1, h2, rfl⟩ := T.pds_cons h
    cases j with
    | zero => simp at hz; subst hz; exact ⟨a, rfl, h1⟩
    | succ j => simpa using pds_at' h2 j z (by simpa using hz)
section
variable {X : Cx}
def fIndex (x : T) (ys : List T) (st : Sto) : R T := match ys with
  | [y] => match lstR st x with
    | some ts => if shaped (.lst ts) = true ∧ shaped y = true then (match idxT y ts with
      | some j => .ok (.int (j : Nat)) st
      | none => .bad) else .bad
    | none => .bad
  | _ => .bad
theorem mm_index (hu : X.A.units + 65 < cLine) : MethM X "list.index" fIndex := by
  refine ⟨_, mt_indexD hu, fun ad as st H x xs tx ts Q W A r rs q => ?_⟩
  unfold fIndex at q
  split at q
  · obtain ⟨v, rfl, rv⟩ := rs.one
    split at q
    · rename_i us e
      split at q
      · rename_i hs
        split at q
        · rename_i j ej
          obtain ⟨a, vs, rfl, g1, g2⟩ := r.lstR A e
          obtain ⟨dl, h1, s1⟩ := shaped_pd hs.1
          obtain ⟨d, h2, s2⟩ := shaped_pd hs.2
          simp only [T.pd, Option.map_eq_some_iff] at h1
          obtain ⟨ds, h3, rfl⟩ := h1
          have hc := SeqAt.canLay_of_shaped s1
          simp only [PyData.canLay0] at hc
          obtain ⟨t, i1, i2, i3⟩ := idxT_some ej
          obtain ⟨z, z1, z2⟩ := pds_at' h3 j t i1
          refine ⟨a, v, d, ds, j, z, rfl, rfl, .lst g1 (g2.dps h3 hc), rv.dp h2 (SeqAt.canLay_of_shaped s2), s1, s2, z1, by rw [T.eqv_pd _ _ z2 h2]; exact i2, fun m z' hm hz' => ?_, Post.at A (.int _) q⟩
          obtain ⟨u, u1, u2⟩ := pds_at h3 m z' hz'
          rw [T.eqv_pd _ _ u2 h2]
          exact i3 m u hm u1
        · exact q.elim
      · exact q.elim
    · exact q.elim
  · exact q.elim
end
end Mi

/-! MiSrt: sorted of a list of data that are alike. -/
namespace Mi
open PySem L2 PySem.W PyProof.Rows
def isT1 : PyData → Bool
  | .tuple (_ :: _) => true
  | _ => false
def isNT : PyData → Bool
  | .none => false
  | .tuple _ => false
  | _ => true
def okSort (ds : List PyData) : Bool := (ds.all fun d => ds.all fun e => alike d e) && (ds.all isT1 || ds.all isNT)
theorem okSort_all {ds : List PyData} (h : okSort ds = true) : AllAlike ds := by
  unfold okSort at h
  rw [Bool.and_eq_true] at h
  intro d hd e he
  exact List.all_eq_true.mp (List.all_eq_true.mp h.1 d hd) e he
theorem okSort_able {ds : List PyData} (h : okSort ds = true) : Sortable ds := by
  unfold okSort at h
  rw [Bool.and_eq_true, Bool.or_eq_true] at h
  rcases h.2 with h | h
  · refine .inl fun d hd => ?_
    have := List.all_eq_true.mp h d hd
    unfold isT1 at this
    split at this
    · exact ⟨_, _, rfl⟩
    · cases this
  · refine .inr fun d hd => ?_
    have := List.all_eq_true.mp h d hd
    unfold isNT at this
    split at this
    · cases this
    · cases this
    · rename_i n1 n2
      exact ⟨fun e => n1 e, fun xs e => n2 xs e⟩
def leD (a b : PyData) : Bool := !dataLt b a
def leT (a b : T) : Bool := match a.pd, b.pd with
  | some d, some e => leD d e
  | _, _ => true
def sortT (ts : List T) : List T := ts.mergeSort leT
section
variable {X : Cx}
def rSortD (K : PySem.W.Frag) : List V → Hp → VK → Prop := fun xs H Q => ∃ (a : Addr) (vs : List V) (ds : List PyData), xs = [V.ref a] ∧ SqL K H a vs ∧ DpAll K H vs ds ∧ okSort ds = true ∧ SeqAt.shaped (.list ds) = true ∧
  ∀ (p : Addr), H p = none → Q (.ref p) (upd H p (.lst (((vs.zip ds).mergeSort fun x y => leD x.2 y.2).map (·.1))))
theorem dpAll_len {K : PySem.W.Frag} {H : Hp} : ∀ {vs : List V} {ds : List PyData}, DpAll K H vs ds → vs.length = ds.length
  | _, _, .nil => rfl
  | _, _, .cons _ s => congrArg (· + 1) (dpAll_len s)
theorem zip_snd {α β : Type} : ∀ {a : List α} {b : List β}, a.length = b.length → (a.zip b).map (·.2) = b
  | [], [], _ => rfl
  | [], _ :: _, h => by cases h
  | _ :: _, [], h => by cases h
  | a :: as, b :: bs, h => by rw [List.zip_cons_cons, List.map_cons, zip_snd (by simpa using h)]
theorem zip_fst {α β : Type} : ∀ {a : List α} {b : List β}, a.length = b.length → (a.zip b).map (·.1) = a
  | [], [], _ => rfl
  | [], _ :: _, h => by cases h
  | _ :: _, [], h => by cases h
  | a :: as, b :: bs, h => by rw [List.zip_cons_cons, List.map_cons, zip_fst (by simpa using h)]
theorem each_rel {vs : List V} {ds : List PyData} {us : List Value} (r : Vals vs us) (h : vs.length = ds.length) : EachIs (fun v (b : V × PyData) => RelV b.1 v) us (vs.zip ds) := by
  induction r generalizing ds with
  | nil => exact .nil
  | cons a b ih =>
    cases ds with
    | nil => cases h
    | cons d ds => exact .cons a (ih (by simpa using h))
theorem each_reads {h : Heap} {vs : List V} {ds : List PyData} {us : List Value} {as : List Addr} (r : ReadsAll h us ds as) (hl : vs.length = ds.length) : EachIs (fun v (b : V × PyData) => ∃ as, Reads h v b.2 as) us (vs.zip ds) := by
  induction ds generalizing vs us as with
  | nil =>
    cases vs with
    | nil => cases r; exact .nil
    | cons _ _ => cases hl
  | cons d ds ih =>
    cases vs with
    | nil => cases hl
    | cons v vs =>
      cases r with
      | cons r1 r2 => exact .cons ⟨_, r1⟩ (ih r2 (by simpa using hl))
theorem each_vals {us : List Value} {bs : List (V × PyData)} (h : EachIs (fun v (b : V × PyData) => RelV b.1 v) us bs) : Vals (bs.map (·.1)) us := by
  induction h with
  | nil => exact .nil
  | cons a _ ih => exact .cons a ih
theorem cr_sortD (hu : X.A.units + 65 < cLine) : CallR X (.builtin "sorted") (rSortD X.K) := by
  intro pins s σ H xs us Q I r h
  obtain ⟨a, vs, ds, rfl, hs, hd, ok, sh, q⟩ := h
  obtain ⟨its, rv, hl, hz⟩ := I.list hs
  rw [Vals.ref1 r]
  have hlen := dpAll_len hd
  obtain ⟨as, ra⟩ := Dp.readsAll I ds vs its hd rv
  have ed : (vs.zip ds).map (·.2) = ds := zip_snd hlen
  have dp := SeqAt.depth_of_shaped sh
  simp only [PyData.depth] at dp
  have dall : ∀ d ∈ ds, d.depth ≤ 63 := by
    have key : ∀ (ds : List PyData) (n : Nat), PyData.depthAll ds ≤ n → ∀ d ∈ ds, d.depth ≤ n := by
      intro ds
      induction ds with
      | nil => intro n _ d hd; cases hd
      | cons e ds ih =>
        intro n hn d hd
        simp only [PyData.depthAll] at hn
        rcases List.mem_cons.mp hd with rfl | hd
        · omega
        · exact ih n (by omega) d hd
    exact key ds 63 (by omega)
  refine sorted_data (β := V × PyData) (enc := (·.2)) (R := fun v b => RelV b.1 v) hl.isList (each_rel rv hlen) (each_reads ra hlen) (by rw [ed]; exact okSort_all ok) (by rw [ed]; exact okSort_able ok) (by rw [List.length_zip, ← hlen, Nat.min_self]; exact hz) (fun b hb => ?_) fun out h1 h2 => ?_
  · have := dall b.2 (by rw [← ed]; exact List.mem_map_of_mem hb)
    omega
  · obtain ⟨ep, he'⟩ := PyProof.Rows.sortedAll_at s.heap its out.toArray
    have ev := each_vals h2
    have hlen2 : (((vs.zip ds).mergeSort fun x y => leD x.2 y.2).map (·.1)).length ≤ sizeLine := by
      rw [List.length_map, List.length_mergeSort, List.length_zip, ← hlen, Nat.min_self]; exact hz
    exact ⟨.ref _, upd H (s.heap.objs.size + 1) (.lst (((vs.zip ds).mergeSort fun x y => leD x.2 y.2).map (·.1))), I.laid (t' := s.toks) (fun _ _ => PyProof.Rows.sortedAll_old) (Nat.le_succ _) ⟨hlen2, out, ep, ev, he'⟩, rfl, q _ (I.hok.fresh (Nat.le_succ _))⟩
def fSortedD (xs : List T) (st : Sto) : R T := match xs with
  | [t] => match lstR st t with
    | some ts => match T.pds ts with
      | some ds => if okSort ds = true ∧ shaped (.lst ts) = true then .ok (.lst (sortT ts)) st else .bad
      | none => .bad
    | none => .bad
  | _ => .bad
theorem reps_zip {K : PySem.W.Frag} {ad : Ad} {as : List Addr} {H : Hp} {vs : List V} {ts : List T} (r : Reps K ad as H vs ts) : ∀ x ∈ vs.zip ts, Rep K ad as H x.1 x.2 := by
  induction ts generalizing vs with
  | nil => intro x hx; simp at hx
  | cons t ts ih =>
    cases r with
    | cons r1 r2 =>
      intro x hx
      rcases List.mem_cons.mp hx with rfl | hx
      · exact r1
      · exact ih r2 x hx
theorem reps_of {K : PySem.W.Frag} {ad : Ad} {as : List Addr} {H : Hp} : ∀ {l : List (V × T)}, (∀ x ∈ l, Rep K ad as H x.1 x.2) → Reps K ad as H (l.map (·.1)) (l.map (·.2))
  | [], _ => .nil
  | x :: l, h => .cons (h x List.mem_cons_self) (reps_of fun y hy => h y (List.mem_cons_of_mem _ hy))
theorem pds_zip {ts : List T} {ds : List PyData} (h : T.pds ts = some ds) : ts.length = ds.length ∧ ∀ x ∈ ts.zip ds, x.1.pd = some x.2 := by
  induction ts generalizing ds with
  | nil =>
    simp only [T.pds, Option.some.injEq] at h; subst h
    exact ⟨rfl, fun x hx => by simp at hx⟩
  | cons t ts ih =>
    obtain ⟨a, b, h1, h2, rfl⟩ := T.pds_cons h
    obtain ⟨i1, i2⟩ := ih h2
    refine ⟨by simp [i1], fun x hx => ?_⟩
    rcases List.mem_cons.mp hx with rfl | hx
    · exact h1
    · exact i2 x hx
/-- sorted side by side -/
theorem sort_reps {K : PySem.W.Frag} {ad : Ad} {as : List Addr} {H : Hp} {vs : List V} {ts : List T} {ds : List PyData} (r : Reps K ad as H vs ts) (h : T.pds ts = some ds) : Reps K ad as H (((vs.zip ds).mergeSort fun x y => leD x.2 y.2).map (·.1)) (sortT ts) := by
  obtain ⟨l1, hp⟩ := pds_zip h
  have l2 := r.length
  -- three in a row
  let L : List (V × T × PyData) := vs.zip (ts.zip ds)
  have e1 : L.map (fun x => (x.1, x.2.2)) = vs.zip ds := by
    have key : ∀ (vs : List V) (ts : List T) (ds : List PyData), ts.length = ds.length → (vs.zip (ts.zip ds)).map (fun x => (x.1, x.2.2)) = vs.zip ds := by
      intro vs
      induction vs with
      | nil => intro ts ds _; rfl
      | cons v vs ih =>
        intro ts ds hl
        cases ts with
        | nil => cases ds with
          | nil => rfl
          | cons _ _ => cases hl
        | cons t ts => cases ds with
          | nil => cases hl
          | cons d ds => simp [ih ts ds (by simpa using hl)]
    exact key vs ts ds l1
  have e2 : L.map (fun x => x.2.1) = ts := by
    have : L.map (fun x => x.2) = ts.zip ds := zip_snd (by rw [List.length_zip, ← l1, Nat.min_self, l2])
    rw [show (fun x : V × T × PyData => x.2.1) = (fun y : T × PyData => y.1) ∘ (fun x => x.2) from rfl, ← List.map_map, this, zip_fst l1]
  have hL : ∀ x ∈ L, Rep K ad as H x.1 x.2.1 ∧ x.2.1.pd = some x.2.2 := fun x hx => by
    refine ⟨?_, hp x.2 (List.of_mem_zip hx).2⟩
    have : (x.1, x.2.1) ∈ vs.zip ts := by
      have e3 : L.map (fun x => (x.1, x.2.1)) = vs.zip ts := by
        have key : ∀ (vs : List V) (ts : List T) (ds : List PyData), ts.length = ds.length → (vs.zip (ts.zip ds)).map (fun x => (x.1, x.2.1)) = vs.zip ts := by
          intro vs
          induction vs with
          | nil => intro ts ds _; rfl
          | cons v vs ih =>
            intro ts ds hl
            cases ts with
            | nil => cases ds with
              | nil => rfl
              | cons _ _ => cases hl
            | cons t ts => cases ds with
              | nil => cases hl
              | cons d ds => simp [ih ts ds (by simpa using hl)]
        exact key vs ts ds l1
      rw [← e3]
      exact List.mem_map_of_mem (f := fun x : V × T × PyData => (x.1, x.2.1)) hx
    exact reps_zip r _ this
  let S := L.mergeSort fun x y => leD x.2.2 y.2.2
  have s1 : S.map (fun x => (x.1, x.2.2)) = (vs.zip ds).mergeSort fun x y => leD x.2 y.2 := by
    rw [← e1]
    exact List.map_mergeSort (r := fun x y : V × T × PyData => leD x.2.2 y.2.2) (s := fun x y : V × PyData => leD x.2 y.2) (f := fun x => (x.1, x.2.2)) (fun _ _ _ _ => rfl)
  have s2 : S.map (fun x => x.2.1) = sortT ts := by
    unfold sortT
    rw [← e2]
    refine List.map_mergeSort (r := fun x y : V × T × PyData => leD x.2.2 y.2.2) (s := leT) (f := fun x => x.2.1) (fun a ha b hb => ?_)
    unfold leT
    rw [(hL a ha).2, (hL b hb).2]
  rw [← s1, ← s2, List.map_map]
  have := reps_of (K := K) (ad := ad) (as := as) (H := H) (l := S.map fun x => (x.1, x.2.1)) (fun x hx => by
    obtain ⟨y, hy, rfl⟩ := List.mem_map.mp hx
    exact (hL y (List.mem_mergeSort.mp hy)).1)
  rw [List.map_map, List.map_map] at this
  exact this
theorem cm_sortedD (hu : X.A.units + 65 < cLine) : CallM X (.builtin "sorted") fSortedD := by
  refine ⟨_, cr_sortD hu, fun ad as st H xs ts Q W A r q => ?_⟩
  unfold fSortedD at q
  split at q
  · obtain ⟨v, rfl, rv⟩ := r.one
    split at q
    · rename_i us e
      split at q
      · rename_i ds en
        split at q
        · rename_i ho
          obtain ⟨a, vs, rfl, h1, h2⟩ := rv.lstR A e
          obtain ⟨dl, g1, s1⟩ := shaped_pd ho.2
          simp only [T.pd, en, Option.map_some, Option.some.injEq] at g1
          subst g1
          have hc := SeqAt.canLay_of_shaped s1
          simp only [PyData.canLay0] at hc
          exact ⟨a, vs, ds, rfl, h1, h2.dps en hc, ho.1, s1, fun p hp => post_newLst A hp (sort_reps h2 en) q⟩
        · exact q.elim
      · exact q.elim
    · exact q.elim
  · exact q.elim
end
end Mi

/-! MiSet: sorted(set(xs)), xs a list of tuples of whole numbers. -/
namespace Mi
open PySem L2 PySem.W PyProof.Rows
theorem perm_unmap {α β : Type} {f : α → β} {vs M : List β} (h : vs.Perm M) : ∀ L : List α, M = L.map f → ∃ L' : List α, vs = L'.map f ∧ L'.Perm L := by
  induction h with
  | nil =>
    intro L e
    cases L with
    | nil => exact ⟨[], rfl, .nil⟩
    | cons _ _ => cases e
  | cons x _ ih =>
    intro L e
    cases L with
    | nil => cases e
    | cons a L =>
      rw [List.map_cons] at e
      injection e with e1 e2
      obtain ⟨L', h1, h2⟩ := ih L e2
      exact ⟨a :: L', by rw [List.map_cons, h1, e1], h2.cons a⟩
  | swap x y l =>
    intro L e
    match L, e with
    | a :: b :: L, e =>
      simp only [List.map_cons, List.cons.injEq] at e
      exact ⟨b :: a :: L, by simp [e.1, e.2.1, e.2.2], .swap a b L⟩
  | trans _ _ ih1 ih2 =>
    intro L e
    obtain ⟨L1, h1, h2⟩ := ih2 L e
    obtain ⟨L2, h3, h4⟩ := ih1 L1 h1
    exact ⟨L2, h3, h4.trans h2⟩
/-- tuples of whole numbers, by Python's order -/
def tupD (k : List Int) : PyData := .tuple (k.map .int)
theorem leD_tups (a b : List Int) : leD (tupD a) (tupD b) = decide (a ≤ b) := by
  have h := congrFun (congrFun (dataLe_rows (fun k : List Int => k)) a) b
  unfold leD tupD
  rw [dataLt_tuple, ← dataLt_list]
  exact h
theorem tups_all (ks : List (List Int)) : AllAlike (ks.map tupD) := by
  intro d hd e he
  obtain ⟨a, _, rfl⟩ := List.mem_map.mp hd
  obtain ⟨b, _, rfl⟩ := List.mem_map.mp he
  show alike (.tuple _) (.tuple _) = true
  rw [alike]
  exact alike_ints a b
section
variable {P : Program} {w : World} {A : PySem.Around} {E : Value → Shared → Prop} {s : Shared}
theorem reads_tup {h : Heap} {k : List Int} {b : Addr} (x : IsT P w h k b) : ∃ as, Reads h (.ref b) (tupD k) as := by
  obtain ⟨o, items, n, ho, hc, hd, hi⟩ := x
  have hr : ∀ {k : List Int} {vs : List Value}, ItemsAre (intKind P w) k vs → ∃ as, ReadsAll h vs (k.map PyData.int) as := by
    intro k vs hh
    induction hh with
    | nil => exact ⟨_, ReadsAll.nil⟩
    | @cons k0 v ks vs h1 _ ih =>
      obtain ⟨t, rfl⟩ := Value.isInt_shape h1
      obtain ⟨as, h2⟩ := ih
      exact ⟨_, ReadsAll.cons (Reads.int k0 t) h2⟩
  obtain ⟨as, h2⟩ := hr hi
  exact ⟨_, Reads.tuple (vs := items) ho hc hd h2⟩
/-- the members, by their order -/
def ByKey (a b : Addr × List Int) : Bool := decide (a.2 ≤ b.2)
theorem sorted_of_set {a : Addr} {L : List (Addr × List Int)} {es : Array (Int × Value)} {ep : Nat} {t : SetTable} {Q : Value → Shared → Prop} (R : SetTR P w s.heap a L es ep t) (hh : A.handled = none) (hn : ∀ p ∈ L, p.2 ≠ []) (hu : A.units + 65 < cLine)
    (hQ : ∀ s1 p (out : List Value) (c : Nat) (B : List (Addr × List Int)), (∀ b o, s.heap.get? b = some o → s1.heap.get? b = some o) → s1.gens = s.gens → s1.os = s.os → s.heap.objs.size ≤ p → s1.heap.get? p = some (seqObj "list" out.toArray c) →
      B.Perm L → out = (B.mergeSort ByKey).map (fun q => Value.ref q.1) → Q (.ref p) s1) : wpAny (model P w) A (call (.builtin "sorted") [.ref a]) Q E s := by
  have hfew := R.few
  have hsz := R.size
  obtain ⟨o, ho, hex, hd⟩ := R.ob
  refine Calls.call_function_entry kind_sorted plain_sorted entry_sorted (args_sorted1 _) ?_
  unfold Builtin.«sorted»
  refine wpAny_bind (m := checkCount "sorted" 1 1 _) (wpAny_pure ?_)
  refine wpAny_bind (collect_set (A := A.in1) hh ⟨o, ho, hex.1, hd⟩ R.fits (by unfold scanBound; omega) R.tab.ris R.led ?_)
  intro s1 vs keep sizes ge os1 pm
  have er : es.toList.map (·.2) = L.map fun q => Value.ref q.1 := by rw [R.rows]; simp [L2.rowsOf, List.map_map, Function.comp_def]
  obtain ⟨B, rfl, pB⟩ := perm_unmap pm L er
  have lB : B.length < 64 := by rw [pB.length_eq]; exact hfew
  refine wpAny_bind (wpAny_newList ?_ (by rw [List.length_map, sizeLine_eq]; omega))
  have up : ∀ b u, s.heap.get? b = some u → (s1.heap.push (seqObj "list" (B.map fun q => Value.ref q.1).toArray 0)).get? b = some u := fun b u e => Heap.get?_push_of_some _ (keep b u e)
  have here : (s1.heap.push (seqObj "list" (B.map fun q => Value.ref q.1).toArray 0)).get? s1.heap.objs.size = some (seqObj "list" (B.map fun q => Value.ref q.1).toArray 0) := Heap.get?_push_size _ rfl
  have e1 : ∀ B : List (Addr × List Int), EachIs (fun v (b : Addr × List Int) => v = Value.ref b.1) (B.map fun q => Value.ref q.1) B := by
    intro B
    induction B with
    | nil => exact .nil
    | cons b B ih => exact .cons rfl ih
  -- the tuples read off objects that are no lists
  have none_in : ∀ (h : Heap) (k : List Int) (b : Addr) (as : List Addr), Reads h (.ref b) (tupD k) as → as = [] := by
    intro h k b as r
    have all : ∀ (k : List Int) (vs : List Value) (as : List Addr), ReadsAll h vs (k.map PyData.int) as → as = [] := by
      intro k
      induction k with
      | nil => intro vs as r; cases r; rfl
      | cons i k ih =>
        intro vs as r
        cases r with
        | cons r1 r2 =>
          cases r1
          rw [ih _ _ r2]; rfl
    unfold tupD at r
    cases r with
    | tuple _ _ _ r2 => exact all k _ _ r2
  have e3 : ∀ B' : List (Addr × List Int), (∀ q ∈ B', q ∈ L) → EachIs (fun v (b : Addr × List Int) => ∃ as, Reads (s1.heap.push (seqObj "list" (B.map fun q => Value.ref q.1).toArray 0)) v (tupD b.2) as ∧ s1.heap.objs.size ∉ as) (B'.map fun q => Value.ref q.1) B' := by
    intro B'
    induction B' with
    | nil => intro _; exact .nil
    | cons b B' ih =>
      intro hm
      refine .cons ?_ (ih fun q hq => hm q (List.mem_cons_of_mem _ hq))
      obtain ⟨as, r⟩ := reads_tup (P := P) (w := w) (isT_keep (R.tup b (hm b List.mem_cons_self)) up)
      exact ⟨as, r, by rw [none_in _ _ _ _ r]; simp⟩
  have hkeys : B.map (fun b => tupD b.2) = (B.map (·.2)).map tupD := by rw [List.map_map]; rfl
  refine wpAny_bind (wpAny_holding (list_sort_data (s := { s1 with heap := s1.heap.push (seqObj "list" (B.map fun q => Value.ref q.1).toArray 0) }) (enc := fun b : Addr × List Int => tupD b.2) here (e1 B) (e3 B fun q hq => pB.mem_iff.mp hq)
    (by rw [hkeys]; exact tups_all _) (.inl ?_) (by rw [sizeLine_eq]; omega) (fun b hb => ?_) fun out hl ho2 => ?_))
  · intro d hd
    obtain ⟨b, hb, rfl⟩ := List.mem_map.mp hd
    have := hn b (pB.mem_iff.mp hb)
    unfold tupD
    cases hk : b.2 with
    | nil => exact absurd hk this
    | cons i k => exact ⟨_, _, rfl⟩
  · have : (tupD b.2).depth ≤ 1 := by simp only [tupD, PyData.depth, depth_ints]; omega
    show A.in1.units + 1 + (tupD b.2).depth < cLine
    have e : A.in1.units = A.units + 1 := rfl
    omega
  · obtain ⟨c, hc⟩ := sortedHeap_at (vs := B.map fun q => Value.ref q.1) (out := out.toArray) here
    have le : dataLe false (fun b : Addr × List Int => tupD b.2) = ByKey := by
      funext x y
      exact leD_tups x.2 y.2
    rw [le] at ho2
    have eo : ∀ {vs : List Value} {bs : List (Addr × List Int)}, EachIs (fun v (b : Addr × List Int) => v = Value.ref b.1) vs bs → vs = bs.map fun q => Value.ref q.1 := by
      intro vs bs h
      induction h with
      | nil => rfl
      | cons h1 _ ih => rw [List.map_cons, h1, ih]
    refine wpAny_pure ⟨_, rfl, hQ _ s1.heap.objs.size out c B (fun b u e => ?_) ge os1 sizes hc pB (eo ho2)⟩
    have q := keep b u e
    have hlt := Heap.lt_size q
    show (sortedHeap (s1.heap.push (seqObj "list" (B.map fun q => Value.ref q.1).toArray 0)) s1.heap.objs.size (B.map fun q => Value.ref q.1) out.toArray).get? b = some u
    rw [sortedHeap_old (Nat.ne_of_lt hlt) (by rw [size_push']; exact Nat.lt_succ_of_lt hlt)]
    exact up b u e
end
end Mi

/-! MiSet2: sorted(set(xs)) for the mirror. -/
namespace Mi
open PySem L2 PySem.W PyProof.Rows
def leK (a b : List Int) : Bool := decide (a ≤ b)
def dedupK : List (List Int) → List (List Int)
  | [] => []
  | k :: ks => if k ∈ ks then dedupK ks else k :: dedupK ks
theorem dedupK_mem : ∀ {ks : List (List Int)} {k : List Int}, k ∈ dedupK ks ↔ k ∈ ks
  | [], k => Iff.rfl
  | j :: ks, k => by
    unfold dedupK
    by_cases h : j ∈ ks
    · rw [if_pos h, dedupK_mem]
      simp only [List.mem_cons]
      constructor
      · exact fun h => .inr h
      · rintro (rfl | h')
        · exact h
        · exact h'
    · rw [if_neg h, List.mem_cons, List.mem_cons, dedupK_mem]
theorem dedupK_nodup : ∀ {ks : List (List Int)}, (dedupK ks).Nodup
  | [] => List.nodup_nil
  | j :: ks => by
    unfold dedupK
    by_cases h : j ∈ ks
    · rw [if_pos h]; exact dedupK_nodup
    · rw [if_neg h]
      exact List.nodup_cons.mpr ⟨fun hh => h (dedupK_mem.mp hh), dedupK_nodup⟩
def sortK (ks : List (List Int)) : List (List Int) := ks.mergeSort leK
theorem leK_trans (a b c : List Int) (h1 : leK a b = true) (h2 : leK b c = true) : leK a c = true := by
  simp only [leK, decide_eq_true_eq] at *
  exact List.le_trans h1 h2
theorem leK_total (a b : List Int) : (leK a b || leK b a) = true := by
  simp only [leK, Bool.or_eq_true, decide_eq_true_eq]
  exact List.le_total a b
theorem leK_anti {a b : List Int} (h1 : leK a b = true) (h2 : leK b a = true) : a = b := by
  simp only [leK, decide_eq_true_eq] at *
  exact List.le_antisymm h1 h2
theorem sortK_perm (ks : List (List Int)) : (sortK ks).Perm ks := List.mergeSort_perm ks leK
theorem sortK_sorted (ks : List (List Int)) : (sortK ks).Pairwise (fun a b => leK a b = true) := List.pairwise_mergeSort (le := leK) leK_trans leK_total ks
theorem sortK_uniq {ks ms : List (List Int)} (h1 : ms.Perm ks) (h2 : ms.Pairwise (fun a b => leK a b = true)) : ms = sortK ks :=
  List.Perm.eq_of_pairwise (fun a b _ _ h3 h4 => leK_anti h3 h4) h2 (sortK_sorted ks) (h1.trans (sortK_perm ks).symm)
def sortSetK (ks : List (List Int)) : List (List Int) := sortK (dedupK ks)
section
variable {X : Cx}
def rSetSorted (X : Cx) : List V → Hp → VK → Prop := fun vs H Q => ∃ (a : Addr) (L : List (Addr × List Int)), vs = [V.ref a] ∧ H a = some (SetTO X.prog X.w a L) ∧ (∀ p ∈ L, SqT X.K H p.1 (p.2.map V.int)) ∧ (∀ p ∈ L, p.2 ≠ []) ∧
  ∀ (B : List (Addr × List Int)) (p : Addr), B.Perm L → (L.map (·.2)).Nodup → H p = none → Q (.ref p) (upd H p (.lst ((B.mergeSort ByKey).map fun q => V.ref q.1)))
theorem cr_setSorted (hc : X.calm = true) (hu : X.A.units + 65 < cLine) : CallR X (.builtin "sorted") (rSetSorted X) := by
  intro pins s σ H vs us Q I r h
  obtain ⟨a, L, rfl, ha, hk, hn, q⟩ := h
  have R0 : SetT0 X.prog X.w s.heap a L := (I.hok a _ ha).1
  obtain ⟨es, ep, t, R⟩ := R0.full (fun p hp => I.isT (hk p hp))
  rw [Vals.ref1 r]
  refine sorted_of_set R (I.ok.hd hc) hn hu ?_
  intro s1 p out c B keep ge os1 sizes hp pB eo
  have few : (B.mergeSort ByKey).length < 64 := by rw [List.length_mergeSort, pB.length_eq]; exact R.few
  have fresh : H p = none := I.hok.fresh sizes
  have vv : Vals ((B.mergeSort ByKey).map fun q => V.ref q.1) out := by rw [eo]; exact vals_of_refs _
  have J : Inv X pins σ (upd H p (.lst ((B.mergeSort ByKey).map fun q => V.ref q.1))) { s with heap := s1.heap, gens := s1.gens, drawn := s1.drawn, toks := s1.toks } :=
    I.call (ch := []) (Un.laid keep sizes fresh) (I.hok.laid keep sizes ⟨by rw [List.length_map, sizeLine_eq]; omega, out, c, vv, hp⟩) (by rw [ge]; exact I.bare) (fun _ z => nomatch z)
  have e : s1 = { s with heap := s1.heap, gens := s1.gens, drawn := s1.drawn, toks := s1.toks } := by
    obtain ⟨h1, g1, d1, t1, o1⟩ := s1
    obtain ⟨h2, g2, d2, t2, o2⟩ := s
    cases os1
    rfl
  rw [e]
  exact ⟨.ref p, _, J, rfl, q B p pB R.nd fresh⟩
/-- tuples of whole numbers -/
def keysT : List T → Option (List (List Int))
  | [] => some []
  | .tup ts :: us => match intsT ts, keysT us with
    | some k, some ks => some (k :: ks)
    | _, _ => none
  | _ :: _ => none
theorem keysT_map : ∀ ks : List (List Int), keysT (ks.map keyL) = some ks
  | [] => rfl
  | k :: ks => by simp [keysT, keyL, intsT_map, keysT_map ks]
theorem keysT_eq : ∀ {ts : List T} {ks : List (List Int)}, keysT ts = some ks → ts = ks.map keyL
  | [], ks, h => by simp only [keysT, Option.some.injEq] at h; subst h; rfl
  | t :: ts, ks, h => by
    cases t <;> simp only [keysT, reduceCtorEq] at h
    rename_i us
    split at h
    · rename_i k ms h1 h2
      cases h
      rw [keysT_eq h2]
      have : us = k.map T.int := by
        have key : ∀ {us : List T} {k : List Int}, intsT us = some k → us = k.map T.int := by
          intro us
          induction us with
          | nil => intro k h; simp only [intsT, Option.some.injEq] at h; subst h; rfl
          | cons u us ih =>
            intro k h
            cases u <;> simp [intsT] at h
            obtain ⟨m, hm, rfl⟩ := h
            rw [ih hm]; rfl
        exact key h1
      rw [this]; rfl
    · cases h
def fSortSet1 (t : T) (st : Sto) : R T := match lstR st t with
  | some ts => match keysT ts with
    | some ks => if ks.length < 64 ∧ [] ∉ ks then .ok (.lst ((sortSetK ks).map keyL)) st else .bad
    | none => .bad
  | none => .bad
def fSortSet (xs : List T) (st : Sto) : R T := match xs with
  | [t] => fSortSet1 t st
  | _ => .bad
/-- the tuples by their places -/
theorem reps_keys {K : PySem.W.Frag} {ad : Ad} {as : List Addr} {H : Hp} : ∀ {ks : List (List Int)} {vs : List V}, Reps K ad as H vs (ks.map keyL) →
    ∃ ps : List (Addr × List Int), vs = ps.map (fun p => V.ref p.1) ∧ ps.map (·.2) = ks ∧ (∀ p ∈ ps, SqT K H p.1 (p.2.map V.int)) ∧ ∀ p ∈ ps, Rep K ad as H (.ref p.1) (keyL p.2)
  | [], vs, r => by cases r; exact ⟨[], rfl, rfl, by simp, by simp⟩
  | k :: ks, vs, r => by
    cases r with
    | cons r1 r2 =>
      obtain ⟨ps, rfl, rfl, h3, h4⟩ := reps_keys r2
      obtain ⟨a, xs, rfl, g1, g2⟩ := Rep.tupI r1
      obtain ⟨rfl, _⟩ := intsT_rep (intsT_map k) g2
      refine ⟨(a, k) :: ps, rfl, rfl, fun p hp => ?_, fun p hp => ?_⟩
      · rcases List.mem_cons.mp hp with rfl | hp
        · exact g1
        · exact h3 p hp
      · rcases List.mem_cons.mp hp with rfl | hp
        · exact r1
        · exact h4 p hp
theorem bykey_map (B : List (Addr × List Int)) : (B.mergeSort ByKey).map (·.2) = sortK (B.map (·.2)) :=
  List.map_mergeSort (r := ByKey) (s := leK) (f := fun q : Addr × List Int => q.2) (fun _ _ _ _ => rfl)
theorem pm_sortSet {ad : Ad} {W : WX} {e : Expr} {m : M T} {p p2 pos pos2 : Pos} (hc : X.calm = true) (hu : X.A.units + 65 < cLine) (hg : Gl X "sorted") (hm : X.mg "sorted" = none) (hg2 : Gl X "set") (hm2 : X.mg "set" = none) (he : PM X ad W e m) (hs : starEach [e] X.env = (false, eval e X.env) :: starEach [] X.env := by rfl) :
    PM X ad W (.Call (.Name "sorted" p) [.Call (.Name "set" p2) [e] [] pos2] [] pos) (mApp fSortSet (mCons m mNil)) := by
  refine peW (pe_callB (cr_setSorted hc hu) hg hm PyProof.Rows.boot_sorted (pa_cons (pe_callTy (cr_setOfT hc (by omega)) hg2 hm2 (by rfl) (pa_cons he pa_nil hs) (he := hs)) pa_nil)) fun σ H Q h => ?_
  obtain ⟨hd, ρ, as, st, A, E, q⟩ := h
  have q0 : Post X.K (ad.hide hd) (Rep X.K (ad.hide hd)) as H Q (fun u d H' => W u d σ H') ((m ρ st).bind fun x st1 => fSortSet [x] st1) := by
    unfold mApp mCons mNil at q
    cases hm : m ρ st with
    | ok a b => rw [hm] at q; exact q
    | exc a b => rw [hm] at q; exact q
    | bad => rw [hm] at q; exact q.elim
  refine ⟨hd, ρ, as, st, A, E, Post.step q0 fun x st1 as1 H1 vx A1 e1 r1 q1 => ?_⟩
  replace q1 : Post X.K (ad.hide hd) (Rep X.K (ad.hide hd)) as1 H1 Q (fun u d H' => W u d σ H') (fSortSet1 x st1) := q1
  unfold fSortSet1 at q1
  split at q1
  · rename_i ts e2
    split at q1
    · rename_i ks ek
      split at q1
      · rename_i hz
        obtain ⟨a, vs, rfl, g1, g2⟩ := r1.lstR A1 e2
        rw [keysT_eq ek] at g2
        obtain ⟨ps, rfl, rfl, h3, h4⟩ := reps_keys g2
        refine ⟨a, ps, rfl, g1, h3, by simpa using hz.1, fun S L hS sub all => ?_⟩
        have nS : ∀ {q : Addr} {u : HO}, H1 q = some u → q ≠ S := fun e => ne_of_none e hS
        have A2 := A1.fresh (u := SetTO X.prog X.w S L) hS
        refine ⟨S, L, rfl, upd_same, fun p hp => ?_, fun p hp => ?_, fun B p pB nd hp => ?_⟩
        · have := h3 p (sub p hp)
          rcases this with h | h
          · rcases h with h | ⟨o, h⟩
            · exact .inl (.inl (by rw [upd_ne (nS h)]; exact h))
            · exact .inl (.inr ⟨o, by rw [upd_ne (nS h)]; exact h⟩)
          · exact .inr h
        · intro hne
          exact hz.2 (by rw [← hne]; exact List.mem_map_of_mem (sub p hp))
        · have rr : Reps X.K (ad.hide hd) as1 (upd H1 S (SetTO X.prog X.w S L)) ((B.mergeSort ByKey).map fun q => V.ref q.1) (((B.mergeSort ByKey).map (·.2)).map keyL) := by
            have key : ∀ l : List (Addr × List Int), (∀ q ∈ l, q ∈ ps) → Reps X.K (ad.hide hd) as1 (upd H1 S (SetTO X.prog X.w S L)) (l.map fun q => V.ref q.1) ((l.map (·.2)).map keyL) := by
              intro l
              induction l with
              | nil => intro _; exact .nil
              | cons q l ih => intro hq; exact .cons ((h4 q (hq q List.mem_cons_self)).ext (Ext.fresh hS)) (ih fun z hz => hq z (List.mem_cons_of_mem _ hz))
            exact key _ fun q hq => sub q (pB.mem_iff.mp (List.mem_mergeSort.mp hq))
          have ek2 : (B.mergeSort ByKey).map (·.2) = sortSetK (ps.map (·.2)) := by
            refine sortK_uniq (((List.mergeSort_perm B ByKey).map (·.2)).trans ?_) (by rw [bykey_map]; exact sortK_sorted _)
            refine ((pB.map (·.2))).trans ((List.perm_ext_iff_of_nodup nd dedupK_nodup).mpr fun k => ?_)
            rw [dedupK_mem]
            constructor
            · intro h
              obtain ⟨z, hz, rfl⟩ := List.mem_map.mp h
              exact List.mem_map_of_mem (sub z hz)
            · intro h
              obtain ⟨z, hz, rfl⟩ := List.mem_map.mp h
              exact all z hz
          rw [ek2] at rr
          exact post_newLst A2 hp rr (Post.ext (Ext.fresh hS) q1)
      · exact q1.elim
    · exact q1.elim
  · exact q1.elim
end
end Mi

/-! MiKey: the keys of the streams, by the splits' own places. -/
namespace Mi
open PySem L2
/-- what one's key is -/
def HomeOk (h : Hm) (l : List Al) (x : Al) : Prop :=
  (∃ ns, x.h.r = h.r ∧ x.h.ns = h.ns ++ ns ∧ x.h.key = h.key ++ ns) ∨ ∃ y ∈ l, ∃ o, y.own = some o ∧ x.h.r = some o ∧ x.h.key = (y.no : Int) :: x.h.ns
theorem HomeOk.sub {h : Hm} {l l' : List Al} {x : Al} (a : HomeOk h l x) (hs : ∀ y ∈ l, y ∈ l') : HomeOk h l' x := by
  rcases a with a | ⟨y, hy, r⟩
  · exact .inl a
  · exact .inr ⟨y, hs y hy, r⟩
theorem HomeOk.push {h : Hm} {l : List Al} {x : Al} {m : Mark} (a : HomeOk h l x) : HomeOk h (l.map (Al.push m)) (x.push m) := by
  rcases a with a | ⟨y, hy, r⟩
  · exact .inl a
  · exact .inr ⟨y.push m, List.mem_map_of_mem hy, r⟩
/-- .. by a split of the par itself -/
def SplOk (ps : Ps) (node : List Nat) (j i : Nat) (x : Al) : Prop :=
  ∀ (h2 : Hm) (b2 : List Nat) (r2 : List Nat) (n1 a : Nat), n1 + a = j → ∃ y ∈ ps.spl h2 b2 n1 node r2 a i, ∃ o, y.own = some o ∧ x.h.r = some o ∧ x.h.key = (y.no : Int) :: x.h.ns
mutual
theorem P.all_home : ∀ (p : P) (h : Hm) (bef : List Nat) (n : Nat) (node ret : List Nat) (l : Nat), p.wf = true → ∀ x ∈ p.all h bef n node ret l, HomeOk h (p.all h bef n node ret l) x
  | .draw _, h, bef, n, node, ret, l, hw => fun x hx => by
    simp only [P.all, List.mem_singleton] at hx
    subst hx
    exact .inl ⟨[], by simp⟩
  | .seq ps, h, bef, n, node, ret, l, hw => fun x hx => by
    simp only [P.wf, Bool.and_eq_true, decide_eq_true_eq] at hw
    simp only [P.all] at hx ⊢
    rcases Ps.all_home ps false h bef n 0 n node 0 ret l hw.2 x hx with a | a
    · exact a
    · obtain ⟨y, hy, _⟩ := a h [] [] 0 0 rfl
      obtain ⟨c, e, h1, h2, _⟩ := Ps.spl_mem hy
      omega
  | .par ps, h, bef, n, node, ret, l, hw => fun x hx => by
    simp only [P.wf, Bool.and_eq_true, decide_eq_true_eq] at hw
    simp only [P.all, List.mem_append] at hx ⊢
    rcases hx with hx | hx
    · obtain ⟨c, e, h1, h2, h3, h4, rfl⟩ := Ps.spl_mem hx
      exact .inl ⟨[], by simp⟩
    · rcases Ps.all_home ps true h (bef ++ List.range' n ps.k) n n (n + ps.k) node 0 ret l hw.2 x hx with a | a
      · exact a.sub fun y hy => List.mem_append.mpr (.inr hy)
      · obtain ⟨y, hy, r⟩ := a h bef ret n 0 rfl
        exact .inr ⟨y, List.mem_append.mpr (.inl hy), r⟩
  | .named a p, h, bef, n, node, ret, l, hw => fun x hx => by
    simp only [P.wf, Bool.and_eq_true, decide_eq_true_eq] at hw
    simp only [P.all] at hx ⊢
    rcases P.all_home p _ bef n _ ret l hw.2 x hx with ⟨ns, h1, h2, h3⟩ | a
    · exact .inl ⟨[a] ++ ns, h1, by rw [h2]; simp, by rw [h3]; simp⟩
    · exact .inr a
  | .retry p, h, bef, n, node, ret, l, hw => fun x hx => by
    simp only [P.wf] at hw
    simp only [P.all] at hx ⊢
    exact P.all_home p h bef n _ _ _ hw x hx
theorem Ps.all_home : ∀ (ps : Ps) (par : Bool) (h : Hm) (bef : List Nat) (n0 j n : Nat) (node : List Nat) (i : Nat) (ret : List Nat) (l : Nat), ps.wf = true → ∀ x ∈ ps.all par h bef n0 j n node i ret l,
    HomeOk h (ps.all par h bef n0 j n node i ret l) x ∨ SplOk ps node j i x
  | .nil, par, h, bef, n0, j, n, node, i, ret, l, hw => fun x hx => by simp only [Ps.all] at hx; cases hx
  | .cons b p ps, par, h, bef, n0, j, n, node, i, ret, l, hw => fun x hx => by
    simp only [Ps.wf, Bool.and_eq_true] at hw
    simp only [Ps.all, List.mem_append, List.mem_map] at hx ⊢
    rcases hx with ⟨y, hy, rfl⟩ | hx
    · have := P.all_home p _ _ n _ ret l hw.1 y hy
      cases b with
      | false =>
        exact .inl (this.push.sub fun z hz => List.mem_append.mpr (.inl hz))
      | true =>
        rcases this with ⟨ns, h1, h2, h3⟩ | h1
        · refine .inr fun h2' b2 r2 n1 a e => ⟨⟨n1 + a, .non, h2', b2 ++ List.range' n1 a, r2, [(node, 1, a)], some (node ++ [i])⟩, ?_, node ++ [i], rfl, h1, ?_⟩
          · simp only [Ps.spl, if_true]; exact List.mem_cons_self
          · show y.h.key = _ :: y.h.ns
            rw [h3, h2]
            simp [← e]
        · have : HomeOk h _ (y.push _) := HomeOk.push (m := (node, if par = true then 2 else 0, i)) (.inr h1)
          exact .inl (this.sub fun z hz => List.mem_append.mpr (.inl hz))
    · rcases Ps.all_home ps par h bef n0 _ (n + p.o) node (i + 1) ret _ hw.2 x hx with a | a
      · exact .inl (a.sub fun z hz => List.mem_append.mpr (.inr hz))
      · refine .inr fun h2 b2 r2 n1 c e => ?_
        cases b with
        | true =>
          obtain ⟨y, hy, r⟩ := a h2 b2 r2 n1 (c + 1) (by simp only [if_true]; omega)
          exact ⟨y, by simp only [Ps.spl, if_true]; exact List.mem_cons_of_mem _ hy, r⟩
        | false =>
          obtain ⟨y, hy, r⟩ := a h2 b2 r2 n1 c (by simpa using e)
          exact ⟨y, by simpa only [Ps.spl, if_false, Bool.false_eq_true] using hy, r⟩
end
/-! ### the splits' places are all different -/
mutual
theorem P.all_own : ∀ (p : P) (h : Hm) (bef : List Nat) (n : Nat) (node ret : List Nat) (l : Nat), ∀ x ∈ p.all h bef n node ret l, ∀ o, x.own = some o → ∃ e r, o = node ++ e :: r
  | .draw _, h, bef, n, node, ret, l => fun x hx o ho => by
    simp only [P.all, List.mem_singleton] at hx
    subst hx
    cases ho
  | .seq ps, h, bef, n, node, ret, l => fun x hx o ho => by
    simp only [P.all] at hx
    obtain ⟨e, f, r, _, rfl⟩ := Ps.all_own ps false h bef n 0 n node 0 ret l x hx o ho
    exact ⟨e, f :: r, rfl⟩
  | .par ps, h, bef, n, node, ret, l => fun x hx o ho => by
    simp only [P.all, List.mem_append] at hx
    rcases hx with hx | hx
    · obtain ⟨c, e, h1, h2, h3, h4, rfl⟩ := Ps.spl_mem hx
      cases ho
      exact ⟨e, [], rfl⟩
    · obtain ⟨e, f, r, _, rfl⟩ := Ps.all_own ps true h _ n n (n + ps.k) node 0 ret l x hx o ho
      exact ⟨e, f :: r, rfl⟩
  | .named a p, h, bef, n, node, ret, l => fun x hx o ho => by
    obtain ⟨e, r, rfl⟩ := P.all_own p _ bef n _ ret l x (by simpa only [P.all] using hx) o ho
    exact ⟨0, e :: r, by simp⟩
  | .retry p, h, bef, n, node, ret, l => fun x hx o ho => by
    obtain ⟨e, r, rfl⟩ := P.all_own p _ bef n _ _ _ x (by simpa only [P.all] using hx) o ho
    exact ⟨0, e :: r, by simp⟩
theorem Ps.all_own : ∀ (ps : Ps) (par : Bool) (h : Hm) (bef : List Nat) (n0 j n : Nat) (node : List Nat) (i : Nat) (ret : List Nat) (l : Nat), ∀ x ∈ ps.all par h bef n0 j n node i ret l, ∀ o, x.own = some o → ∃ e f r, i ≤ e ∧ o = node ++ e :: f :: r
  | .nil, par, h, bef, n0, j, n, node, i, ret, l => fun x hx => by simp only [Ps.all] at hx; cases hx
  | .cons b p ps, par, h, bef, n0, j, n, node, i, ret, l => fun x hx o ho => by
    simp only [Ps.all, List.mem_append, List.mem_map] at hx
    rcases hx with ⟨y, hy, rfl⟩ | hx
    · obtain ⟨e, r, rfl⟩ := P.all_own p _ _ n _ ret l y hy o ho
      exact ⟨i, e, r, Nat.le_refl _, by simp⟩
    · obtain ⟨e, f, r, h1, rfl⟩ := Ps.all_own ps par h bef n0 _ (n + p.o) node (i + 1) ret _ x hx o ho
      exact ⟨e, f, r, by omega, rfl⟩
end
theorem Ps.spl_one {h : Hm} {bef : List Nat} {n0 : Nat} {node ret : List Nat} : ∀ {ps : Ps} {a i : Nat} {x y : Al}, x ∈ ps.spl h bef n0 node ret a i → y ∈ ps.spl h bef n0 node ret a i → x.own = y.own → x.no = y.no
  | .nil, _, _, x, y, hx, _, _ => by cases hx
  | .cons true p ps, a, i, x, y, hx, hy, he => by
    simp only [Ps.spl, if_true, List.mem_cons] at hx hy
    rcases hx with rfl | hx <;> rcases hy with rfl | hy
    · rfl
    · obtain ⟨c, e, h1, h2, h3, h4, rfl⟩ := Ps.spl_mem hy
      simp at he; omega
    · obtain ⟨c, e, h1, h2, h3, h4, rfl⟩ := Ps.spl_mem hx
      simp at he; omega
    · exact Ps.spl_one hx hy he
  | .cons false p ps, a, i, x, y, hx, hy, he => by
    simp only [Ps.spl, if_false, Bool.false_eq_true] at hx hy
    exact Ps.spl_one hx hy he
mutual
theorem P.all_one : ∀ (p : P) (h : Hm) (bef : List Nat) (n : Nat) (node ret : List Nat) (l : Nat), ∀ x ∈ p.all h bef n node ret l, ∀ y ∈ p.all h bef n node ret l, ∀ o, x.own = some o → y.own = some o → x.no = y.no
  | .draw _, h, bef, n, node, ret, l => fun x hx y hy o ho ho2 => by
    simp only [P.all, List.mem_singleton] at hx
    subst hx
    cases ho
  | .seq ps, h, bef, n, node, ret, l => fun x hx y hy o ho ho2 => by
    simp only [P.all] at hx hy
    exact Ps.all_one ps false h bef n 0 n node 0 ret l x hx y hy o ho ho2
  | .par ps, h, bef, n, node, ret, l => fun x hx y hy o ho ho2 => by
    simp only [P.all, List.mem_append] at hx hy
    rcases hx with hx | hx <;> rcases hy with hy | hy
    · exact Ps.spl_one hx hy (ho.trans ho2.symm)
    · obtain ⟨c, e, h1, h2, h3, h4, rfl⟩ := Ps.spl_mem hx
      obtain ⟨e2, f, r, _, rfl⟩ := Ps.all_own ps true h _ n n (n + ps.k) node 0 ret l y hy o ho2
      simp at ho
    · obtain ⟨c, e, h1, h2, h3, h4, rfl⟩ := Ps.spl_mem hy
      obtain ⟨e2, f, r, _, rfl⟩ := Ps.all_own ps true h _ n n (n + ps.k) node 0 ret l x hx o ho
      simp at ho2
    · exact Ps.all_one ps true h _ n n (n + ps.k) node 0 ret l x hx y hy o ho ho2
  | .named a p, h, bef, n, node, ret, l => fun x hx y hy => P.all_one p _ bef n _ ret l x (by simpa only [P.all] using hx) y (by simpa only [P.all] using hy)
  | .retry p, h, bef, n, node, ret, l => fun x hx y hy => P.all_one p _ bef n _ _ _ x (by simpa only [P.all] using hx) y (by simpa only [P.all] using hy)
theorem Ps.all_one : ∀ (ps : Ps) (par : Bool) (h : Hm) (bef : List Nat) (n0 j n : Nat) (node : List Nat) (i : Nat) (ret : List Nat) (l : Nat), ∀ x ∈ ps.all par h bef n0 j n node i ret l, ∀ y ∈ ps.all par h bef n0 j n node i ret l, ∀ o, x.own = some o → y.own = some o → x.no = y.no
  | .nil, par, h, bef, n0, j, n, node, i, ret, l => fun x hx => by simp only [Ps.all] at hx; cases hx
  | .cons b p ps, par, h, bef, n0, j, n, node, i, ret, l => fun x hx y hy o ho ho2 => by
    simp only [Ps.all, List.mem_append, List.mem_map] at hx hy
    rcases hx with ⟨x, hx, rfl⟩ | hx <;> rcases hy with ⟨y, hy, rfl⟩ | hy
    · exact P.all_one p _ _ n _ ret l x hx y hy o ho ho2
    · obtain ⟨e, r, e1⟩ := P.all_own p _ _ n _ ret l x hx o ho
      obtain ⟨e2, f, r2, h1, e3⟩ := Ps.all_own ps par h bef n0 _ (n + p.o) node (i + 1) ret _ y hy o ho2
      rw [e3] at e1
      simp at e1; omega
    · obtain ⟨e, r, e1⟩ := P.all_own p _ _ n _ ret l y hy o ho2
      obtain ⟨e2, f, r2, h1, e3⟩ := Ps.all_own ps par h bef n0 _ (n + p.o) node (i + 1) ret _ x hx o ho
      rw [e3] at e1
      simp at e1; omega
    · exact Ps.all_one ps par h bef n0 _ (n + p.o) node (i + 1) ret _ x hx y hy o ho ho2
end
/-- small keys -/
structure Kok (m : Nat) (k : List Int) : Prop where
  n : k ≠ []
  l : k.length ≤ m
  i : ∀ a ∈ k, -1 ≤ a ∧ a ≤ 24
mutual
theorem P.hs_ok : ∀ (p : P) (key : List Int) (n m : Nat), p.wf = true → 1 ≤ m → Kok m key → n + p.o ≤ 24 → ∀ k ∈ p.hs key n, Kok (m + p.dep) k
  | .draw _, key, n, m, hw, hm, hk, hn => fun k hk2 => by
    simp only [P.hs, List.mem_singleton] at hk2
    subst hk2
    exact ⟨hk.n, by have := hk.l; omega, hk.i⟩
  | .seq ps, key, n, m, hw, hm, hk, hn => fun k hk2 => by
    simp only [P.wf, Bool.and_eq_true, decide_eq_true_eq] at hw
    simp only [P.o] at hn
    simp only [P.hs] at hk2
    obtain ⟨h1, h2, h3⟩ := Ps.hs_ok ps key 0 n m hw.2 hm hk (by omega) (by omega) k hk2
    exact ⟨h1, by simp only [P.dep]; omega, h3⟩
  | .par ps, key, n, m, hw, hm, hk, hn => fun k hk2 => by
    simp only [P.wf, Bool.and_eq_true, decide_eq_true_eq] at hw
    simp only [P.o] at hn
    simp only [P.hs, List.mem_append] at hk2
    rcases hk2 with hk2 | hk2
    · obtain ⟨_, rfl⟩ := List.mem_replicate.mp hk2
      exact ⟨hk.n, by have := hk.l; omega, hk.i⟩
    · obtain ⟨h1, h2, h3⟩ := Ps.hs_ok ps key n (n + ps.k) m hw.2 hm hk (by omega) (by omega) k hk2
      exact ⟨h1, by simp only [P.dep]; omega, h3⟩
  | .named a p, key, n, m, hw, hm, hk, hn => fun k hk2 => by
    simp only [P.wf, Bool.and_eq_true, decide_eq_true_eq] at hw
    simp only [P.o] at hn
    simp only [P.hs] at hk2
    obtain ⟨h1, h2, h3⟩ := P.hs_ok p (key ++ [a]) n (m + 1) hw.2 (by omega) ⟨by simp, by have := hk.l; simp; omega, fun b hb => by
      rcases List.mem_append.mp hb with hb | hb
      · exact hk.i b hb
      · rw [List.mem_singleton] at hb; omega⟩ hn k hk2
    exact ⟨h1, by simp only [P.dep]; omega, h3⟩
  | .retry p, key, n, m, hw, hm, hk, hn => fun k hk2 => by
    simp only [P.wf] at hw
    simp only [P.o] at hn
    simp only [P.hs] at hk2
    obtain ⟨h1, h2, h3⟩ := P.hs_ok p key n m hw hm hk hn k hk2
    exact ⟨h1, by simp only [P.dep]; omega, h3⟩
theorem Ps.hs_ok : ∀ (ps : Ps) (key : List Int) (j n m : Nat), ps.wf = true → 1 ≤ m → Kok m key → n + ps.o ≤ 24 → j + ps.k ≤ 24 → ∀ k ∈ ps.hs key j n, Kok (m + ps.dep) k
  | .nil, key, j, n, m, hw, hm, hk, hn, hj => fun k hk2 => by simp only [Ps.hs] at hk2; cases hk2
  | .cons b p ps, key, j, n, m, hw, hm, hk, hn, hj => fun k hk2 => by
    simp only [Ps.wf, Bool.and_eq_true] at hw
    simp only [Ps.o] at hn
    simp only [Ps.hs, List.mem_append] at hk2
    cases b with
    | true =>
      simp only [Ps.k, if_true] at hj
      simp only [if_true] at hk2
      rcases hk2 with hk2 | hk2
      · obtain ⟨h1, h2, h3⟩ := P.hs_ok p [(j : Int)] n m hw.1 hm ⟨by simp, by simpa using hm, by simp; omega⟩ (by omega) k hk2
        exact ⟨h1, by simp only [Ps.dep, if_true]; omega, h3⟩
      · obtain ⟨h1, h2, h3⟩ := Ps.hs_ok ps key (j + 1) (n + p.o) m hw.2 hm hk (by omega) (by omega) k hk2
        exact ⟨h1, by simp only [Ps.dep]; omega, h3⟩
    | false =>
      simp only [Ps.k, if_false, Bool.false_eq_true] at hj
      simp only [if_false, Bool.false_eq_true] at hk2
      rcases hk2 with hk2 | hk2
      · obtain ⟨h1, h2, h3⟩ := P.hs_ok p key n m hw.1 hm hk (by omega) k hk2
        exact ⟨h1, by simp only [Ps.dep, if_false, Bool.false_eq_true]; omega, h3⟩
      · obtain ⟨h1, h2, h3⟩ := Ps.hs_ok ps key j (n + p.o) m hw.2 hm hk (by omega) (by omega) k hk2
        exact ⟨h1, by simp only [Ps.dep]; omega, h3⟩
end
theorem bt_key {m : Nat} {k : List Int} (h : Kok m k) : BT 1 (9 * m + 3) (keyL k) := by
  have : LS 0 (9 * (k.map T.int).length) (k.map T.int) := LS_all (w := 7) fun t ht => by
    obtain ⟨a, ha, rfl⟩ := List.mem_map.mp ht
    exact BT.int (by have := h.i a ha; omega)
  exact this.tup.mono (Nat.le_refl _) (by have := h.l; simp; omega)
theorem sh_key {m : Nat} {k : List Int} (h : Kok m k) : shaped (keyL k) = true := by
  have b := bt_key h
  exact T.tr_shaped b.tr b.nd (by have := b.dp; omega)
theorem eqv_key (a b : List Int) : T.eqv (keyL a) (keyL b) = decide (a = b) := by simp only [keyL, T.eqv, eqvs_ints]
theorem ls_keys {m : Nat} {ks : List (List Int)} (h : ∀ k ∈ ks, Kok m k) : LS 1 ((9 * m + 5) * ks.length) (ks.map keyL) := by
  have := LS_all (n := 1) (w := 9 * m + 3) (ts := ks.map keyL) (fun t ht => by
    obtain ⟨k, hk, rfl⟩ := List.mem_map.mp ht
    exact bt_key (h k hk))
  simpa using this
theorem sh_keys {m : Nat} {ks : List (List Int)} (h : ∀ k ∈ ks, Kok m k) : shaped (.lst (ks.map keyL)) = true := by
  have b := ls_keys h
  exact T.tr_shaped (by simpa only [T.tr] using b.tr) (by simpa only [T.nd] using b.nd) (by simp only [T.dep]; have := b.dp; omega)
theorem inD_keys (k : List Int) (ks : List (List Int)) : inD (keyL k) (ks.map keyL) = decide (k ∈ ks) := by
  induction ks with
  | nil => rfl
  | cons j ks ih =>
    rw [List.map_cons, inD_cons, ih, eqv_key]
    by_cases h : j = k
    · subst h; simp
    · simp [h, show ¬ k = j from fun e => h e.symm]
end Mi

/-! MiAd: the addresses of the parts of pars that are no split parts; plans with some of them split. -/
namespace Mi
open PySem L2
mutual
def P.ad : P → List Int → List (List Int)
  | .draw _, _ => []
  | .seq ps, at' => sortK (ps.ad false at' 0)
  | .par ps, at' => sortK (ps.ad true at' 0)
  | .named _ p, at' => p.ad (at' ++ [0])
  | .retry p, at' => p.ad (at' ++ [0])
def Ps.ad : Ps → Bool → List Int → Nat → List (List Int)
  | .nil, _, _, _ => []
  | .cons b p ps, par, at', i => (if par && !b then [at' ++ [(i : Int)]] else []) ++ p.ad (at' ++ [(i : Int)]) ++ ps.ad par at' (i + 1)
end
mutual
def P.ws (some' : List (List Int)) : P → List Int → P
  | .draw u, _ => .draw u
  | .seq ps, at' => .seq (ps.ws some' at' 0)
  | .par ps, at' => .par (ps.ws some' at' 0)
  | .named n p, at' => .named n (p.ws some' (at' ++ [0]))
  | .retry p, at' => .retry (p.ws some' (at' ++ [0]))
def Ps.ws (some' : List (List Int)) : Ps → List Int → Nat → Ps
  | .nil, _, _ => .nil
  | .cons b p ps, at', i => .cons (b || decide (at' ++ [(i : Int)] ∈ some')) (p.ws some' (at' ++ [(i : Int)])) (ps.ws some' at' (i + 1))
end
mutual
theorem P.ad_form : ∀ (p : P) (at' : List Int), ∀ a ∈ p.ad at', ∃ x r, a = at' ++ x :: r
  | .draw _, _ => fun a ha => by cases ha
  | .seq ps, at' => fun a ha => by
    obtain ⟨j, r, _, e⟩ := Ps.ad_form ps false at' 0 a ((sortK_perm _).mem_iff.mp ha)
    exact ⟨_, _, e⟩
  | .par ps, at' => fun a ha => by
    obtain ⟨j, r, _, e⟩ := Ps.ad_form ps true at' 0 a ((sortK_perm _).mem_iff.mp ha)
    exact ⟨_, _, e⟩
  | .named _ p, at' => fun a ha => by
    obtain ⟨x, r, e⟩ := P.ad_form p (at' ++ [0]) a ha
    exact ⟨0, x :: r, by rw [e]; simp⟩
  | .retry p, at' => fun a ha => by
    obtain ⟨x, r, e⟩ := P.ad_form p (at' ++ [0]) a ha
    exact ⟨0, x :: r, by rw [e]; simp⟩
theorem Ps.ad_form : ∀ (ps : Ps) (par : Bool) (at' : List Int) (i : Nat), ∀ a ∈ ps.ad par at' i, ∃ (j : Nat) (r : List Int), i ≤ j ∧ a = at' ++ (j : Int) :: r
  | .nil, _, _, _ => fun a ha => by cases ha
  | .cons b p ps, par, at', i => fun a ha => by
    simp only [Ps.ad, List.mem_append] at ha
    rcases ha with (ha | ha) | ha
    · split at ha
      · rw [List.mem_singleton] at ha
        exact ⟨i, [], Nat.le_refl _, ha⟩
      · cases ha
    · obtain ⟨x, r, e⟩ := P.ad_form p (at' ++ [(i : Int)]) a ha
      exact ⟨i, x :: r, Nat.le_refl _, by rw [e]; simp⟩
    · obtain ⟨j, r, h, e⟩ := Ps.ad_form ps par at' (i + 1) a ha
      exact ⟨j, r, by omega, e⟩
end
mutual
theorem P.ad_nodup : ∀ (p : P) (at' : List Int), (p.ad at').Nodup
  | .draw _, _ => List.nodup_nil
  | .seq ps, at' => (sortK_perm _).nodup_iff.mpr (Ps.ad_nodup ps false at' 0)
  | .par ps, at' => (sortK_perm _).nodup_iff.mpr (Ps.ad_nodup ps true at' 0)
  | .named _ p, at' => P.ad_nodup p _
  | .retry p, at' => P.ad_nodup p _
theorem Ps.ad_nodup : ∀ (ps : Ps) (par : Bool) (at' : List Int) (i : Nat), (ps.ad par at' i).Nodup
  | .nil, _, _, _ => List.nodup_nil
  | .cons b p ps, par, at', i => by
    simp only [Ps.ad]
    rw [List.nodup_append, List.nodup_append]
    refine ⟨⟨by split <;> simp, P.ad_nodup p _, fun a ha c hc => ?_⟩, Ps.ad_nodup ps par at' (i + 1), fun a ha c hc => ?_⟩
    · rintro rfl
      obtain ⟨x, r, e⟩ := P.ad_form p _ a hc
      split at ha
      · rw [List.mem_singleton] at ha
        rw [ha] at e
        simp at e
      · cases ha
    · rintro rfl
      obtain ⟨j, r, h, e⟩ := Ps.ad_form ps par at' (i + 1) a hc
      rcases List.mem_append.mp ha with ha | ha
      · split at ha
        · rw [List.mem_singleton] at ha
          rw [ha] at e
          simp at e
          omega
        · cases ha
      · obtain ⟨x, r2, e2⟩ := P.ad_form p _ a ha
        rw [e2] at e
        simp at e
        omega
end
/-- steps from 0 to 11 -/
def Stp (m : Nat) (a : List Int) : Prop := a.length ≤ m ∧ ∀ s ∈ a, 0 ≤ s ∧ s ≤ 11
theorem Stp.snoc {m : Nat} {a : List Int} {i : Nat} (h : Stp m a) (hi : i ≤ 11) : Stp (m + 1) (a ++ [(i : Int)]) := by
  refine ⟨by have := h.1; simp; omega, fun s hs => ?_⟩
  rcases List.mem_append.mp hs with hs | hs
  · exact h.2 s hs
  · rw [List.mem_singleton] at hs; omega
theorem Stp.mono {m n : Nat} {a : List Int} (h : Stp m a) (hn : m ≤ n) : Stp n a := ⟨Nat.le_trans h.1 hn, h.2⟩
mutual
theorem P.ad_stp : ∀ (p : P) (at' : List Int) (m : Nat), p.wf = true → Stp m at' → ∀ a ∈ p.ad at', Stp (m + p.dep) a
  | .draw _, _, m, hw, h => fun a ha => by cases ha
  | .seq ps, at', m, hw, h => fun a ha => by
    simp only [P.wf, Bool.and_eq_true, decide_eq_true_eq] at hw
    exact (Ps.ad_stp ps false at' 0 m hw.2 h (by omega) a ((sortK_perm _).mem_iff.mp ha)).mono (by simp only [P.dep]; omega)
  | .par ps, at', m, hw, h => fun a ha => by
    simp only [P.wf, Bool.and_eq_true, decide_eq_true_eq] at hw
    exact (Ps.ad_stp ps true at' 0 m hw.2 h (by omega) a ((sortK_perm _).mem_iff.mp ha)).mono (by simp only [P.dep]; omega)
  | .named _ p, at', m, hw, h => fun a ha => by
    simp only [P.wf, Bool.and_eq_true, decide_eq_true_eq] at hw
    exact (P.ad_stp p (at' ++ [0]) (m + 1) hw.2 (h.snoc (i := 0) (by omega)) a ha).mono (by simp only [P.dep]; omega)
  | .retry p, at', m, hw, h => fun a ha => by
    simp only [P.wf] at hw
    exact (P.ad_stp p (at' ++ [0]) (m + 1) hw (h.snoc (i := 0) (by omega)) a ha).mono (by simp only [P.dep]; omega)
theorem Ps.ad_stp : ∀ (ps : Ps) (par : Bool) (at' : List Int) (i m : Nat), ps.wf = true → Stp m at' → i + ps.len ≤ 12 → ∀ a ∈ ps.ad par at' i, Stp (m + ps.dep + 1) a
  | .nil, _, _, _, m, hw, h, hi => fun a ha => by cases ha
  | .cons b p ps, par, at', i, m, hw, h, hi => fun a ha => by
    simp only [Ps.wf, Bool.and_eq_true] at hw
    simp only [Ps.len] at hi
    have hd : p.dep ≤ (Ps.cons b p ps).dep := by simp only [Ps.dep]; cases b <;> simp <;> omega
    have hd2 : ps.dep ≤ (Ps.cons b p ps).dep := by simp only [Ps.dep]; omega
    have hs := h.snoc (i := i) (by omega)
    simp only [Ps.ad, List.mem_append] at ha
    rcases ha with (ha | ha) | ha
    · split at ha
      · rw [List.mem_singleton] at ha
        rw [ha]
        exact hs.mono (by omega)
      · cases ha
    · exact (P.ad_stp p _ (m + 1) hw.1 hs a ha).mono (by omega)
    · exact (Ps.ad_stp ps par at' (i + 1) m hw.2 h (by omega) a ha).mono (by omega)
end
mutual
theorem P.ad_len : ∀ (p : P) (at' : List Int), (p.ad at').length + 1 ≤ p.tn
  | .draw _, _ => by simp [P.ad, P.tn]
  | .seq ps, at' => by
    have := Ps.ad_len ps false at' 0
    simp only [P.ad, P.tn, (sortK_perm _).length_eq]; omega
  | .par ps, at' => by
    have := Ps.ad_len ps true at' 0
    simp only [P.ad, P.tn, (sortK_perm _).length_eq]; omega
  | .named _ p, at' => by
    have := P.ad_len p (at' ++ [0])
    simp only [P.ad, P.tn]; omega
  | .retry p, at' => by
    have := P.ad_len p (at' ++ [0])
    simp only [P.ad, P.tn]; omega
theorem Ps.ad_len : ∀ (ps : Ps) (par : Bool) (at' : List Int) (i : Nat), (ps.ad par at' i).length ≤ ps.tn
  | .nil, _, _, _ => by simp [Ps.ad]
  | .cons b p ps, par, at', i => by
    have h1 := P.ad_len p (at' ++ [(i : Int)])
    have h2 := Ps.ad_len ps par at' (i + 1)
    simp only [Ps.ad, Ps.tn, List.length_append]
    split <;> simp <;> omega
end
/-! ### the program asks of a retry's plan, too, whether its place is one of the addresses: it never is -/
mutual
def P.okS (some' : List (List Int)) : P → List Int → Prop
  | .draw _, _ => True
  | .seq ps, at' => ps.okS some' at' 0
  | .par ps, at' => ps.okS some' at' 0
  | .named _ p, at' => p.okS some' (at' ++ [0])
  | .retry p, at' => at' ++ [0] ∉ some' ∧ p.okS some' (at' ++ [0])
def Ps.okS (some' : List (List Int)) : Ps → List Int → Nat → Prop
  | .nil, _, _ => True
  | .cons _ p ps, at', i => p.okS some' (at' ++ [(i : Int)]) ∧ ps.okS some' at' (i + 1)
end
mutual
theorem P.okS_of (some' : List (List Int)) : ∀ (p : P) (at' : List Int), (∀ a ∈ some', ∀ x r, a = at' ++ x :: r → a ∈ p.ad at') → p.okS some' at'
  | .draw _, _, _ => trivial
  | .seq ps, at', h => Ps.okS_of some' ps false at' 0 fun a ha j x r _ e => (sortK_perm _).mem_iff.mp (h a ha _ _ e)
  | .par ps, at', h => Ps.okS_of some' ps true at' 0 fun a ha j x r _ e => (sortK_perm _).mem_iff.mp (h a ha _ _ e)
  | .named _ p, at', h => P.okS_of some' p _ fun a ha x r e => h a ha 0 (x :: r) (by rw [e]; simp)
  | .retry p, at', h => by
    refine ⟨fun hm => ?_, P.okS_of some' p _ fun a ha x r e => h a ha 0 (x :: r) (by rw [e]; simp)⟩
    obtain ⟨x, r, e⟩ := P.ad_form p (at' ++ [0]) _ (h _ hm 0 [] rfl)
    simp at e
theorem Ps.okS_of (some' : List (List Int)) : ∀ (ps : Ps) (par : Bool) (at' : List Int) (i : Nat), (∀ a ∈ some', ∀ (j : Nat) (x : Int) (r : List Int), i ≤ j → a = at' ++ (j : Int) :: x :: r → a ∈ ps.ad par at' i) → ps.okS some' at' i
  | .nil, _, _, _, _ => trivial
  | .cons b p ps, par, at', i, h => by
    refine ⟨P.okS_of some' p _ fun a ha x r e => ?_, Ps.okS_of some' ps par at' (i + 1) fun a ha j x r hj e => ?_⟩
    · have hm := h a ha i x r (Nat.le_refl _) (by rw [e]; simp)
      simp only [Ps.ad, List.mem_append] at hm
      rcases hm with (hm | hm) | hm
      · split at hm
        · rw [List.mem_singleton] at hm
          rw [hm] at e
          simp at e
        · cases hm
      · exact hm
      · obtain ⟨j, r2, hj, e2⟩ := Ps.ad_form ps par at' (i + 1) a hm
        rw [e2] at e
        simp at e
        omega
    · have hm := h a ha j x r (by omega) e
      simp only [Ps.ad, List.mem_append] at hm
      rcases hm with (hm | hm) | hm
      · split at hm
        · rw [List.mem_singleton] at hm
          rw [hm] at e
          simp at e
        · cases hm
      · obtain ⟨y, r2, e2⟩ := P.ad_form p _ a hm
        rw [e2] at e
        simp at e
        omega
      · exact hm
end
/-! ### sizes of what is made -/
mutual
def P.wu : P → Bool
  | .draw u => decide (0 ≤ u ∧ u ≤ 9)
  | .seq ps => ps.wu
  | .par ps => ps.wu
  | .named n p => decide (0 ≤ n ∧ n ≤ 9) && p.wu
  | .retry p => p.wu
def Ps.wu : Ps → Bool
  | .nil => true
  | .cons _ p ps => p.wu && ps.wu
end
mutual
theorem P.wf_wu : ∀ p : P, p.wf = true → p.wu = true
  | .draw _, h => h
  | .seq ps, h => by simp only [P.wf, Bool.and_eq_true] at h; exact Ps.wf_wu ps h.2
  | .par ps, h => by simp only [P.wf, Bool.and_eq_true] at h; exact Ps.wf_wu ps h.2
  | .named _ p, h => by simp only [P.wf, Bool.and_eq_true] at h; simp only [P.wu, Bool.and_eq_true]; exact ⟨h.1, P.wf_wu p h.2⟩
  | .retry p, h => P.wf_wu p h
theorem Ps.wf_wu : ∀ ps : Ps, ps.wf = true → ps.wu = true
  | .nil, _ => rfl
  | .cons _ p ps, h => by simp only [Ps.wf, Bool.and_eq_true] at h; simp only [Ps.wu, Bool.and_eq_true]; exact ⟨P.wf_wu p h.1, Ps.wf_wu ps h.2⟩
end
mutual
theorem P.ws_wu (some' : List (List Int)) : ∀ (p : P) (at' : List Int), p.wu = true → (p.ws some' at').wu = true
  | .draw _, _, h => h
  | .seq ps, at', h => Ps.ws_wu some' ps at' 0 h
  | .par ps, at', h => Ps.ws_wu some' ps at' 0 h
  | .named _ p, at', h => by simp only [P.wu, P.ws, Bool.and_eq_true] at h ⊢; exact ⟨h.1, P.ws_wu some' p _ h.2⟩
  | .retry p, at', h => P.ws_wu some' p _ h
theorem Ps.ws_wu (some' : List (List Int)) : ∀ (ps : Ps) (at' : List Int) (i : Nat), ps.wu = true → (ps.ws some' at' i).wu = true
  | .nil, _, _, _ => rfl
  | .cons _ p ps, at', i, h => by simp only [Ps.wu, Ps.ws, Bool.and_eq_true] at h ⊢; exact ⟨P.ws_wu some' p _ h.1, Ps.ws_wu some' ps at' (i + 1) h.2⟩
end
mutual
theorem P.ws_tn (some' : List (List Int)) : ∀ (p : P) (at' : List Int), (p.ws some' at').tn + 1 ≤ 2 * p.tn
  | .draw _, _ => by simp [P.ws, P.tn]
  | .seq ps, at' => by have := Ps.ws_tn some' ps at' 0; simp only [P.ws, P.tn]; omega
  | .par ps, at' => by have := Ps.ws_tn some' ps at' 0; simp only [P.ws, P.tn]; omega
  | .named _ p, at' => by have := P.ws_tn some' p (at' ++ [0]); simp only [P.ws, P.tn]; omega
  | .retry p, at' => by have := P.ws_tn some' p (at' ++ [0]); simp only [P.ws, P.tn]; omega
theorem Ps.ws_tn (some' : List (List Int)) : ∀ (ps : Ps) (at' : List Int) (i : Nat), (ps.ws some' at' i).tn ≤ 2 * ps.tn
  | .nil, _, _ => by simp [Ps.ws, Ps.tn]
  | .cons b p ps, at', i => by
    have h1 := P.ws_tn some' p (at' ++ [(i : Int)])
    have h2 := Ps.ws_tn some' ps at' (i + 1)
    simp only [Ps.ws, Ps.tn]
    cases b <;> simp <;> (try split) <;> omega
end
mutual
theorem P.ws_dep (some' : List (List Int)) : ∀ (p : P) (at' : List Int), (p.ws some' at').dep + 1 ≤ 2 * p.dep
  | .draw _, _ => by simp [P.ws, P.dep]
  | .seq ps, at' => by have := Ps.ws_dep some' ps at' 0; simp only [P.ws, P.dep]; omega
  | .par ps, at' => by have := Ps.ws_dep some' ps at' 0; simp only [P.ws, P.dep]; omega
  | .named _ p, at' => by have := P.ws_dep some' p (at' ++ [0]); simp only [P.ws, P.dep]; omega
  | .retry p, at' => by have := P.ws_dep some' p (at' ++ [0]); simp only [P.ws, P.dep]; omega
theorem Ps.ws_dep (some' : List (List Int)) : ∀ (ps : Ps) (at' : List Int) (i : Nat), (ps.ws some' at' i).dep ≤ 2 * ps.dep
  | .nil, _, _ => by simp [Ps.ws, Ps.dep]
  | .cons b p ps, at', i => by
    have h1 := P.ws_dep some' p (at' ++ [(i : Int)])
    have h2 := Ps.ws_dep some' ps at' (i + 1)
    simp only [Ps.ws, Ps.dep]
    cases b <;> simp <;> (try split) <;> omega
end
mutual
/-- how the tuple reads -/
theorem P.bt : ∀ p : P, p.wu = true → p.t.tr = true ∧ p.t.nd = true ∧ p.t.dep ≤ p.dep ∧ p.t.wt + 2 ≤ 70 * p.tn
  | .draw u, h => by
    simp only [P.wu, decide_eq_true_eq] at h
    have b := BT.int (v := u) (by omega)
    have et : PyData.strOk ("draw" : Str) = true := by decide +kernel
    have bt := b.tr
    simp only [T.tr] at bt
    refine ⟨by simp only [P.t, T.tr, T.trs, bt, et]; rfl, rfl, by simp [P.t, T.dep, T.deps, P.dep], ?_⟩
    have := b.wt
    have e : (T.str "draw").wt = 42 := by decide +kernel
    simp only [P.t, T.wt, T.wts, P.tn] at *
    omega
  | .seq ps, h => by
    obtain ⟨h1, h2, h3, h4⟩ := Ps.bt ps h
    have e : (T.str "seq").wt = 32 := by decide +kernel
    have et : PyData.strOk ("seq" : Str) = true := by decide +kernel
    refine ⟨by simp only [P.t, T.tr, T.trs, h1, et]; rfl, by simp only [P.t, T.nd, T.nds, h2]; rfl, by simp only [P.t, T.dep, T.deps, P.dep]; omega, ?_⟩
    simp only [P.t, T.wt, T.wts, P.tn] at *
    omega
  | .par ps, h => by
    obtain ⟨h1, h2, h3, h4⟩ := Ps.bt ps h
    have e : (T.str "par").wt = 32 := by decide +kernel
    have et : PyData.strOk ("par" : Str) = true := by decide +kernel
    refine ⟨by simp only [P.t, T.tr, T.trs, h1, et]; rfl, by simp only [P.t, T.nd, T.nds, h2]; rfl, by simp only [P.t, T.dep, T.deps, P.dep]; omega, ?_⟩
    simp only [P.t, T.wt, T.wts, P.tn] at *
    omega
  | .named n p, h => by
    simp only [P.wu, Bool.and_eq_true, decide_eq_true_eq] at h
    obtain ⟨h1, h2, h3, h4⟩ := P.bt p h.2
    have b := BT.int (v := n) (by omega)
    have bw := b.wt
    have bt := b.tr
    simp only [T.tr] at bt
    have e : (T.str "named").wt = 52 := by decide +kernel
    have et : PyData.strOk ("named" : Str) = true := by decide +kernel
    refine ⟨by simp only [P.t, T.tr, T.trs, h1, et, bt]; rfl, by simp only [P.t, T.nd, T.nds, h2]; rfl, by simp only [P.t, T.dep, T.deps, P.dep]; omega, ?_⟩
    simp only [P.t, T.wt, T.wts, P.tn] at *
    omega
  | .retry p, h => by
    obtain ⟨h1, h2, h3, h4⟩ := P.bt p h
    have e : (T.str "retry").wt = 52 := by decide +kernel
    have et : PyData.strOk ("retry" : Str) = true := by decide +kernel
    refine ⟨by simp only [P.t, T.tr, T.trs, h1, et]; rfl, by simp only [P.t, T.nd, T.nds, h2]; rfl, by simp only [P.t, T.dep, T.deps, P.dep]; omega, ?_⟩
    simp only [P.t, T.wt, T.wts, P.tn] at *
    omega
theorem Ps.bt : ∀ ps : Ps, ps.wu = true → T.trs ps.ts = true ∧ T.nds ps.ts = true ∧ T.deps ps.ts ≤ ps.dep ∧ T.wts ps.ts ≤ 70 * ps.tn
  | .nil, _ => ⟨rfl, rfl, Nat.le_refl _, Nat.le_refl _⟩
  | .cons b p ps, h => by
    simp only [Ps.wu, Bool.and_eq_true] at h
    obtain ⟨h1, h2, h3, h4⟩ := P.bt p h.1
    obtain ⟨g1, g2, g3, g4⟩ := Ps.bt ps h.2
    have e : (T.str "split").wt = 52 := by decide +kernel
    have et : PyData.strOk ("split" : Str) = true := by decide +kernel
    cases b with
    | true =>
      refine ⟨by simp only [Ps.ts, if_true, T.tr, T.trs, h1, et, g1]; rfl, by simp only [Ps.ts, if_true, T.nd, T.nds, h2, g2]; rfl, by simp only [Ps.ts, if_true, T.dep, T.deps, Ps.dep]; omega, ?_⟩
      simp only [Ps.ts, if_true, T.wt, T.wts, Ps.tn] at *
      omega
    | false =>
      refine ⟨by simp only [Ps.ts, if_false, Bool.false_eq_true, T.trs, h1, g1]; rfl, by simp only [Ps.ts, if_false, Bool.false_eq_true, T.nds, h2, g2]; rfl, by simp only [Ps.ts, if_false, Bool.false_eq_true, T.deps, Ps.dep]; omega, ?_⟩
      simp only [Ps.ts, if_false, Bool.false_eq_true, T.wts, Ps.tn] at *
      omega
end
theorem P.gd {p : P} (h : p.wu = true) (hd : p.dep ≤ 64) (hn : p.tn ≤ 1000) : Gd p.t := by
  obtain ⟨h1, h2, h3, h4⟩ := P.bt p h
  exact ⟨h1, h2, by omega, by omega⟩
end Mi

/-! MiOwn: ==, <, .. by own methods; repr by an own method. -/
namespace Mi
open PySem L2 PySem.Spec PyProof.Rows
section
variable {X : Cx} {ad : Ad} {W : WX} {pos : Pos}
/-- an operator that is read at the module's own addresses -/
def OpMA (X : Cx) (ad : Ad) (f : Value → Value → Sem Value) (op : T → T → Sto → R T) : Prop :=
  ∃ r : R2, OpR X f r ∧ ∀ hd as st H x y tx ty Q W, Ab X.K (ad.hide hd) as st H → Rep X.K (ad.hide hd) as H x tx → Rep X.K (ad.hide hd) as H y ty → Post X.K (ad.hide hd) (Rep X.K (ad.hide hd)) as H Q W (op tx ty st) → r x y H Q
theorem OpM.atAd {f : Value → Value → Sem Value} {op : T → T → Sto → R T} (h : OpM X f op) : OpMA X ad f op := by
  obtain ⟨r, h1, h2⟩ := h
  exact ⟨r, h1, fun hd as st H x y tx ty Q W => h2 _ as st H x y tx ty Q W⟩
theorem OpMA.alt {f : Value → Value → Sem Value} {op op' op2 : T → T → Sto → R T} (h : OpMA X ad f op) (h' : OpMA X ad f op')
    (c : ∀ x y st, op2 x y st = op x y st ∨ op2 x y st = op' x y st) : OpMA X ad f op2 := by
  obtain ⟨r, h1, h2⟩ := h
  obtain ⟨r', h1', h2'⟩ := h'
  refine ⟨_, OpR.alt h1 h1', fun hd as st H x y tx ty Q W A rx ry q => ?_⟩
  rcases c tx ty st with e | e
  · rw [e] at q
    exact .inl (h2 hd as st H x y tx ty Q W A rx ry q)
  · rw [e] at q
    exact .inr (h2' hd as st H x y tx ty Q W A rx ry q)
theorem tBinA {r : R2} {op : T → T → Sto → R T} {a b : M T} (hop : ∀ hd as st H x y tx ty Q W, Ab X.K (ad.hide hd) as st H → Rep X.K (ad.hide hd) as H x tx → Rep X.K (ad.hide hd) as H y ty → Post X.K (ad.hide hd) (Rep X.K (ad.hide hd)) as H Q W (op tx ty st) → r x y H Q) :
    ∀ σ H Q, tM X.K ad (Rep X.K) W (mBin op a b) σ H Q → tOp r (tM X.K ad (Rep X.K) W a) (tM X.K ad (Rep X.K) W b) σ H Q := fun σ H Q ⟨hd, ρ, as, st, A, E, q⟩ =>
  ⟨hd, ρ, as, st, A, E, Post.step q fun x st1 as1 H1 vx A1 e1 r1 q1 => ⟨hd, ρ, as1, st1, A1, E.ext e1, Post.step q1 fun y st2 as2 H2 vy A2 e2 r2 q2 => hop hd as2 st2 H2 vx vy x y Q _ A2 (r1.ext e2) r2 q2⟩⟩
theorem pm_binA {o : Operator} {op : T → T → Sto → R T} {a b : Expr} {ma mb : M T} (hop : OpMA X ad (binaryOp o) op) (ha : PM X ad W a ma) (hb : PM X ad W b mb) : PM X ad W (.BinOp a o b pos) (mBin op ma mb) := by
  obtain ⟨r, h1, h2⟩ := hop
  exact peW (pe_op h1 ha hb) (tBinA h2)
theorem pm_cmpA {o : CmpOp} {op : T → T → Sto → R T} {a b : Expr} {ma mb : M T} (hop : OpMA X ad (compareOp o) op) (ha : PM X ad W a ma) (hb : PM X ad W b mb) (hm : behindInMarks o b = false) : PM X ad W (.Compare a [o] [b] pos) (mBin op ma mb) := by
  obtain ⟨r, h1, h2⟩ := hop
  exact peW (pe_cmpR h1 ha hb hm) (tBinA h2)
theorem ptM_cmpA {o : CmpOp} {op : T → T → Sto → R T} {a b : Expr} {ma mb : M T} (hop : OpMA X ad (compareOp o) op) (ha : PM X ad W a ma) (hb : PM X ad W b mb) (hm : behindInMarks o b = false) : PMT X ad W (.Compare a [o] [b] pos) (mTest (mBin op ma mb)) := by
  obtain ⟨r, h1, h2⟩ := hop
  refine ptW (pt_cmpR h1 ha hb hm) fun σ H Q h => ?_
  obtain ⟨hd, ρ, as, st, A, E, q⟩ := tTest_ σ H Q h
  exact tBinA h2 σ H _ ⟨hd, ρ, as, st, A, E, q⟩
variable {k : Nat} {fa : Addr} {fd : FuncData} {ps : List Str} {F : List T → Sto → R T} {c : Nat}
theorem Sit.none (S : Sit X W k) : Sit X W0 k := ⟨S.calm, S.gd, S.rm, takes0, S.po, S.sm⟩
/-- by the own method of the left one; both are instances of the class -/
def opOwn (c : Nat) (F : List T → Sto → R T) (x y : T) (st : Sto) : R T := match insAt st c x, insAt st c y with
  | some _, some _ => noExc (F [x, y] st)
  | _, _ => .bad
theorem Post.noExc {α β : Type} {K : PySem.W.Frag} {ad : Ad} {as : List Addr} {H : Hp} {Rl : List Addr → Hp → β → α → Prop} {Q : β → Hp → Prop} {W W' : XK} {r : R α} (h : Post K ad Rl as H Q W (Mi.noExc r)) : Post K ad Rl as H Q W' r := by
  cases r with
  | ok t st => exact h
  | exc e st => exact h.elim
  | bad => exact h
theorem om_own {op : CmpOp} (hop : ∀ a b, compareOp op a b = richCompare op a b) (hs : PySem.W.findIn X.K (.ref (ad.fn c)) (cmpInfo op).2.1 = some (some (.ref fa))) (hf : PySem.W.isFn X.K (.ref fa) = true)
    (G : GnOk X.prog X.w X.K X.mg X.base k fa fd ps (spF X.K ad 2 F)) (S : Sit X W k) (hb : Binds X.K fd ps []) : OpMA X ad (compareOp op) (opOwn c F) := by
  refine ⟨fun x y H Q => ∃ a b dx dy fs gs, x = .ref a ∧ y = .ref b ∧ H a = some (.ins (ad.fn c) dx fs) ∧ H b = some (.ins (ad.fn c) dy gs) ∧ spF X.K ad 2 F [.ref a, .ref b] H Q (fun _ _ _ => False), ?_, ?_⟩
  · rintro pins s σ H x y v u Q I rx ry ⟨a, b, dx, dy, fs, gs, rfl, rfl, ha, hb', hsp⟩
    obtain rfl : v = Value.ref a := rx
    obtain rfl : u = Value.ref b := ry
    obtain ⟨mA, J, _⟩ := ins_get I.hok ha
    obtain ⟨mB, J', _⟩ := ins_get I.hok hb'
    obtain ⟨od, J, _⟩ := J.look
    obtain ⟨od', J', _⟩ := J'.look
    obtain ⟨m, hF⟩ := I.fr
    rw [hop]
    refine PySem.W.cmp_K (op := op) (tb := .ref (ad.fn c)) S.rm.units0 hF I.ok.mod.kin J J'.type (by simp [PySem.W.notFirst]) hs hf ?_
    refine wpAny_mono (run_gn (us := [.ref a, .ref b]) (vs := [.ref a, .ref b]) G S.none hb I (.cons rfl (.cons rfl .nil)) hsp) (fun v s' z => ?_) fun _ _ x => x
    obtain ⟨z, H', I', rz, q⟩ := z
    exact SlX.cmpback rz ⟨z, H', I', rz, q⟩
  · intro hd as st H x y tx ty Q W A rx ry q
    unfold opOwn at q
    split at q
    · rename_i i j h1 h2
      obtain ⟨i, fi⟩ := i
      obtain ⟨j, fj⟩ := j
      obtain ⟨a, dx, gs, rfl, _, _, ha, _⟩ := rx.ins A h1
      obtain ⟨b, dy, gs', rfl, _, _, hb', _⟩ := ry.ins A h2
      exact ⟨a, b, dx, dy, gs, gs', rfl, rfl, ha, hb', rfl, hd, as, st, _, A, .cons rx (.cons ry .nil), Post.noExc q⟩
    · exact q.elim
/-- a call one level further in -/
theorem run_gn1 {n : Nat} {sp : Sp} {pins : List (Addr × PySem.Obj)} {σ : L2.St} {H : Hp} {s : Shared} {Q : VK} {us : List Value} {vs : List V} (G : GnOk X.prog X.w X.K X.mg X.base k fa fd ps sp) (S : Sit X W (k + 1)) (hb : Binds X.K fd ps [])
    (I : Inv X pins σ H s) (r : Vals vs us) (h : sp vs H Q fun _ _ _ => False) : wpAny (model X.prog X.w) X.A.in1 (call (.ref fa) us) (EP X pins σ Q) X.xe s := by
  have hl : us.length = ps.length := by rw [← r.length]; exact G.len _ _ _ _ h
  have bb := hb s us I.kIn (by simpa using hl)
  rw [List.append_nil] at bb
  have e0 : Env0 X.prog X.w X.K X.mg X.base X.A.in1 X.stack s H := by
    have e := I.env0
    exact ⟨e.frames, e.mod, e.bs, e.bsz, e.funs, e.frf, e.hok, e.bare⟩
  refine wpAny_call (codeAny_mono (G.run X.A.in1 X.stack s H ⟨us, []⟩ us vs Q _ S.rm.in1 S.gd e0 bb r h) fun q s' hq => ?_)
  cases q with
  | error e => exact S.none.tk e s' (XE.of_call I (fun _ _ _ z => z) hq)
  | ok fl =>
    cases fl with
    | ret u => exact I.after hq
    | next => exact False.elim hq
    | brk => exact False.elim hq
    | cont => exact False.elim hq
def CallMA (X : Cx) (ad : Ad) (f : Value) (op : List T → Sto → R T) : Prop :=
  ∃ r, CallR X f r ∧ ∀ hd as st H xs ts Q W, Ab X.K (ad.hide hd) as st H → Reps X.K (ad.hide hd) as H xs ts → Post X.K (ad.hide hd) (Rep X.K (ad.hide hd)) as H Q W (op ts st) → r xs H Q
theorem tAppA {r : List V → Hp → VK → Prop} {op : List T → Sto → R T} {m : M (List T)} (hop : ∀ hd as st H xs ts Q W, Ab X.K (ad.hide hd) as st H → Reps X.K (ad.hide hd) as H xs ts → Post X.K (ad.hide hd) (Rep X.K (ad.hide hd)) as H Q W (op ts st) → r xs H Q) :
    ∀ σ H Q, tM X.K ad (Rep X.K) W (mApp op m) σ H Q → tCB r (tM X.K ad (Reps X.K) W m) σ H Q := fun σ H Q ⟨hd, ρ, as, st, A, E, q⟩ =>
  ⟨hd, ρ, as, st, A, E, Post.step q fun x st1 as1 H1 vx A1 e1 r1 q1 => hop hd as1 st1 H1 vx x Q _ A1 r1 q1⟩
theorem pm_callBA {e : Expr} {es : List Expr} {p : Pos} {x : Str} {id : String} {op : List T → Sto → R T} {m : M (List T)} (hc : CallMA X ad (.builtin id) op) (hg : Gl X x) (hm : X.mg x = none) (hv : bootBuiltins x = some (.builtin id)) (ha : PMA X ad W (e :: es) m) (hn : x ≠ "__name__" := by decide)
    (hdb : (x == ("__debug__" : Str)) = false := by decide) (he : starEach (e :: es) X.env = (false, eval e X.env) :: starEach es X.env := by rfl) (hpl : (backTo pos (starEach es X.env)).any (·.1) = false := by rfl) :
    PM X ad W (.Call (.Name x p) (e :: es) [] pos) (mApp op m) := by
  obtain ⟨r, h1, h2⟩ := hc
  exact peW (pe_callB h1 hg hm hv ha hn hdb he hpl) (tAppA h2)
/-- repr by the own method; of other values as it is -/
def fReprO (c : Nat) (F : List T → Sto → R T) (xs : List T) (st : Sto) : R T := match xs with
  | [x] => match insAt st c x with
    | some _ => (noExc (F [x] st)).bind fun r st1 => match r with
      | .str z => .ok (.str z) st1
      | _ => .bad
    | none => fRepr [x] st
  | _ => .bad
theorem cm_reprO (hs : PySem.W.findIn X.K (.ref (ad.fn c)) "__repr__" = some (some (.ref fa))) (hf : PySem.W.isFn X.K (.ref fa) = true)
    (G : GnOk X.prog X.w X.K X.mg X.base k fa fd ps (spF X.K ad 1 F)) (S : Sit X W (k + 1)) (hb : Binds X.K fd ps []) : CallMA X ad (.builtin "repr") (fReprO c F) := by
  obtain ⟨r0, c0, h0⟩ := cm_repr S
  refine ⟨fun xs H Q => (∃ a dx fs, xs = [.ref a] ∧ H a = some (.ins (ad.fn c) dx fs) ∧ spF X.K ad 1 F [.ref a] H (fun v H' => ∃ z : Str, v = .str z ∧ Q (.str z) H') (fun _ _ _ => False)) ∨ r0 xs H Q, ?_, ?_⟩
  · rintro pins s σ H xs us Q I rv (⟨a, dx, fs, rfl, ha, hsp⟩ | h)
    · obtain ⟨u, rfl, ru⟩ := vals1 rv
      obtain rfl : u = Value.ref a := ru
      obtain ⟨mA, J, _⟩ := ins_get I.hok ha
      obtain ⟨od, J, _⟩ := J.look
      obtain ⟨m, hF⟩ := I.fr
      refine PySem.W.repr_K S.rm.in1.units0 hF I.ok.mod.kin J hs hf ?_
      refine wpAny_mono (run_gn1 (n := 1) (us := [.ref a]) (vs := [.ref a]) G S hb I (.cons rfl .nil) hsp) (fun v s' z => ?_) fun _ _ x => x
      obtain ⟨z, H', I', rz, y, rfl, q⟩ := z
      obtain ⟨t, rfl⟩ := rz
      exact ⟨.str y, H', I', ⟨t, rfl⟩, q⟩
    · exact c0 pins s σ H xs us Q I rv h
  · intro hd as st H xs ts Q W A rv q
    unfold fReprO at q
    split at q
    · rename_i x
      obtain ⟨v, rfl, rx⟩ := rv.one
      split at q
      · rename_i i e
        obtain ⟨i, fi⟩ := i
        obtain ⟨a, dx, gs, rfl, _, _, ha, _⟩ := rx.ins A e
        refine .inl ⟨a, dx, gs, rfl, ha, rfl, hd, as, st, _, A, .cons rx .nil, ?_⟩
        revert q
        cases F [x] st with
        | ok t st1 =>
          intro q as1 H1 v A1 e1 r1
          cases t <;> try exact q.elim
          exact ⟨_, r1.strI, q as1 H1 _ A1 e1 (.str _)⟩
        | exc e st1 => exact fun q => q.elim
        | bad => exact fun q => q.elim
      · exact .inr (h0 _ as st H [v] [x] Q W A (.cons rx .nil) q)
    · exact q.elim
end
end Mi

/-! MiFmt: f-strings of texts, ints and data. -/
namespace Mi
open PySem L2 PySem.Spec PyProof.Rows
section
variable {X : Cx} {ad : Ad} {W : WX} {pos : Pos} {k : Nat} {e : Expr}
def fmtOf (st : Sto) (t : T) : Option Str := match t with
  | .str s => if s.length ≤ sizeLine then some s else none
  | .int i => if i.natAbs.log2 < 1920 then some (PySem.Str.ofString (toString i)) else none
  | .tup ts => reprOf st (.tup ts)
  | _ => none
def mFmt (m : M T) : M T := fun ρ st => (m ρ st).bind fun x st1 => match fmtOf st1 x with
  | some z => .ok (.str z) st1
  | none => .bad
theorem pm_fmt {m : M T} (S : Sit X W k) (h : PM X ad W e m) : PM X ad W (.FormattedValue e (-1) none pos) (mFmt m) := ⟨fun pins s σ H Q I ⟨hd, ρ, as, st, A, E, q⟩ => by
  refine wpAny_FormattedValue_plain (thn (h.run pins s σ H (fun v H1 => ∃ as1 st1 t z, Ab X.K (ad.hide hd) as1 st1 H1 ∧ Rep X.K (ad.hide hd) as1 H1 v t ∧ fmtOf st1 t = some z ∧ Q (.str z) H1) I ⟨hd, ρ, as, st, A, E, Post.step q fun t st1 as1 H1 v A1 e1 r1 q1 => ?_⟩) fun u s1 hv => ?_)
  · split at q1
    · rename_i z ez
      exact ⟨as1, st1, t, z, A1, r1, ez, Post.at A1 (.str _) q1⟩
    · exact q1.elim
  · obtain ⟨v, H1, I1, r1, as1, st1, t, z, A1, rv, ez, q⟩ := hv
    unfold fmtOf at ez
    split at ez
    · split at ez
      · cases ez
        obtain rfl := rv.strI
        obtain ⟨t, rfl⟩ := r1
        exact wpAny_formatField_str ⟨.str z, H1, I1, ⟨t, rfl⟩, q⟩ ⟨.str z, H1, I1.tok _, ⟨_, rfl⟩, q⟩ (by assumption)
      · cases ez
    · split at ez
      · cases ez
        obtain rfl := rv.intI
        obtain ⟨t, rfl⟩ := r1
        exact wpAny_formatField_int (by assumption) ⟨.str _, H1, I1.tok _, ⟨_, rfl⟩, q⟩
      · cases ez
    · unfold reprOf at ez
      split at ez
      · rename_i d hd'
        split at ez
        · rename_i hc
          cases ez
          simp only [Bool.and_eq_true, decide_eq_true_eq] at hc
          obtain ⟨⟨h1, h2⟩, h3⟩ := hc
          obtain ⟨bs, hr, hz⟩ := Rep.readsNow I1 (Inv.noMods I1 S.sm) A1 rv hd' r1
          have hu := S.rm.un
          obtain ⟨a, xs, rfl, _, _⟩ := rv.tupI
          obtain rfl : u = Value.ref a := r1
          exact formatField_of_reads hr h1 (fun _ => hz) S.gd (by omega) (fun b o e => e) (fun h' u tk hk => ⟨.str d.shown, H1, I1.kept (t' := tk) hk, ⟨_, rfl⟩, q⟩) h2
        · cases ez
      · cases ez
    · cases ez⟩
def mJs : List (M T) → Str → M T
  | [], acc => fun _ st => .ok (.str acc) st
  | m :: ms, acc => fun ρ st => (m ρ st).bind fun x st1 => match x with
    | .str y => if (acc ++ y).length ≤ sizeLine then mJs ms (acc ++ y) ρ st1 else .bad
    | _ => .bad
inductive PJM (X : Cx) (ad : Ad) (W : WX) : List Expr → List (M T) → Prop where
  | nil : PJM X ad W [] []
  | cons {e : Expr} {m : M T} {es : List Expr} {ms : List (M T)} (h : PM X ad W e m) (r : PJM X ad W es ms) : PJM X ad W (e :: es) (m :: ms)
theorem PJM.pj {es : List Expr} {ms : List (M T)} (h : PJM X ad W es ms) : PJ X es (ms.map fun m => tM X.K ad (Rep X.K) W m) := by
  induction h with
  | nil => exact .nil
  | cons h r ih => exact .cons h ih
theorem tJs_M {σ : L2.St} {ρ : Sl} {hd : List Addr} {Q : V → Hp → Prop} : ∀ (ms : List (M T)) (acc : Str) (as : List Addr) (st : Sto) (H : Hp), Ab X.K (ad.hide hd) as st H → En X.K (ad.hide hd) as H σ ρ →
    Post X.K (ad.hide hd) (Rep X.K (ad.hide hd)) as H Q (fun u d H' => W u d σ H') (mJs ms acc ρ st) → tJs (ms.map fun m => tM X.K ad (Rep X.K) W m) acc σ H fun out H1 => Q (.str out) H1
  | [], acc, as, st, H, A, E, q => Post.at A (.str _) q
  | m :: ms, acc, as, st, H, A, E, q => ⟨hd, ρ, as, st, A, E, Post.step q fun x st1 as1 H1 v A1 e1 r1 q1 => by
    cases x <;> try exact q1.elim
    rename_i y
    replace q1 : Post X.K (ad.hide hd) (Rep X.K (ad.hide hd)) as1 H1 Q (fun u d H' => W u d σ H') (if (acc ++ y).length ≤ sizeLine then mJs ms (acc ++ y) ρ st1 else .bad) := q1
    split at q1
    · exact ⟨y, r1.strI, by assumption, tJs_M ms _ as1 st1 H1 A1 (E.ext e1) q1⟩
    · exact q1.elim⟩
theorem pm_joined {v1 v2 : Expr} {rest : List Expr} {ms : List (M T)} (h : PJM X ad W (v1 :: v2 :: rest) ms) : PM X ad W (.JoinedStr (v1 :: v2 :: rest) pos) (mJs ms Str.empty) :=
  peW (pe_joined h.pj) fun σ H Q ⟨hd, ρ, as, st, A, E, q⟩ => tJs_M ms Str.empty as st H A E q
end
end Mi

/-! MiCls: classes as values; static methods and class methods; cls(..). -/
namespace Mi
open PySem L2 PySem.Spec PyProof.Rows ClX
section
variable {X : Cx} {ad : Ad} {W : WX} {pos p apos : Pos} {k n c : Nat} {e o : Expr} {es : List Expr} {x m : Str} {fa pa C : Addr} {fd : FuncData} {ps : List Str} {F : List T → Sto → R T}
def mAdr (c : Nat) : M T := fun _ st => .ok (.adr c) st
theorem pm_adr (hg : Gl X x) (hm : X.mg x = some (.ref (ad.fn c))) (hdb : (x == ("__debug__" : Str)) = false := by decide) : PM X ad W (.Name x p) (mAdr c) :=
  ⟨fun pins s σ H Q I ⟨hd, ρ, as, st, A, E, q⟩ => ld_glob I hg hm ⟨.ref (ad.fn c), H, I, rfl, Post.at A (.adr (ad := ad.hide hd) c) q⟩ hdb⟩
theorem Rep.adrI {K : PySem.W.Frag} {ad : Ad} {as : List Addr} {H : Hp} {v : V} {i : Nat} (r : Rep K ad as H v (.adr i)) : v = .ref (ad.fn i) := by
  cases r; rfl
theorem run_gnC {sp : Sp} {pins : List (Addr × PySem.Obj)} {σ : L2.St} {H : Hp} {s : Shared} {Q : VK} {us : List Value} {vs : List V} (G : GnOk X.prog X.w X.K X.mg X.base k fa fd ps sp) (S : Sit X W k) (hb : Binds X.K fd ps [])
    (I : Inv X pins σ H s) (r : Vals vs us) (h : sp vs H Q fun u d H' => W u d σ H') : codeAny (model X.prog X.w) X.A (.call (.ref fa) ⟨us, []⟩) (fun r s' => match r with | .ok (.ret v) => EP X pins σ Q v s' | .ok _ => False | .error e => X.xe e s') s := by
  have hl : us.length = ps.length := by rw [← r.length]; exact G.len _ _ _ _ h
  have bb := hb s us I.kIn (by simpa using hl)
  rw [List.append_nil] at bb
  refine codeAny_mono (G.run X.A X.stack s H ⟨us, []⟩ us vs Q _ S.rm S.gd I.env0 bb r h) fun q s' hq => ?_
  cases q with
  | error e => exact S.tk e s' (XE.of_call I (fun _ _ _ z => z) hq)
  | ok fl =>
    cases fl with
    | ret u => exact I.after hq
    | next => exact False.elim hq
    | brk => exact False.elim hq
    | cont => exact False.elim hq
/-- C.m is a staticmethod: its record at p, its def at g -/
structure CSta (K : PySem.W.Frag) (C : Addr) (mc : Value) (m : Str) (p g : Addr) : Prop where
  at_ : PySem.W.findCls K (.ref C) mc m = some (.get (.builtin "staticmethod.__get__") (.ref p) .none (.ref C))
  rc : ∃ rest, PySem.W.recIn K p "staticmethod" = some (.ref g :: rest)
  kp : PySem.W.keepIn K (.ref g) = true
/-- what a class method's or a static method's call does -/
def mCls (c n : Nat) (self : Bool) (F : List T → Sto → R T) (mo : M T) (ma : M (List T)) : M T := fun ρ st => (mo ρ st).bind fun x st1 => match x with
  | .adr i => if i = c then (ma ρ st1).bind fun ts st2 => if (if self then T.adr c :: ts else ts).length = n then F (if self then T.adr c :: ts else ts) st2 else .bad else .bad
  | _ => .bad
theorem tCls {self : Bool} {mo : M T} {ma : M (List T)} {σ : L2.St} {H : Hp} {Q : VK} (h : tM X.K ad (Rep X.K) W (mCls c n self F mo ma) σ H Q) :
    tM X.K ad (Rep X.K) W mo σ H fun vx H1 => vx = .ref (ad.fn c) ∧ tM X.K ad (Reps X.K) W ma σ H1 fun vs H2 => spF X.K ad n F (if self then V.ref (ad.fn c) :: vs else vs) H2 Q fun u d H' => W u d σ H' := by
  obtain ⟨hd, ρ, as, st, A, E, q⟩ := h
  refine ⟨hd, ρ, as, st, A, E, Post.step q fun x st1 as1 H1 vx A1 e1 r1 q1 => ?_⟩
  split at q1
  · rename_i i
    split at q1
    · rename_i hi
      subst hi
      refine ⟨r1.adrI, hd, ρ, as1, st1, A1, E.ext e1, Post.step q1 fun ts st2 as2 H2 vs A2 e2 r2 q2 => ?_⟩
      cases self with
      | true =>
        replace q2 : Post X.K (ad.hide hd) (Rep X.K (ad.hide hd)) as2 H2 Q (fun u d H' => W u d σ H') (if (T.adr i :: ts).length = n then F (T.adr i :: ts) st2 else .bad) := q2
        split at q2
        · rename_i hn
          exact ⟨by rw [← hn]; exact congrArg (· + 1) r2.length, hd, as2, st2, _, A2, .cons (.adr (ad := ad.hide hd) i) r2, q2⟩
        · exact q2.elim
      | false =>
        replace q2 : Post X.K (ad.hide hd) (Rep X.K (ad.hide hd)) as2 H2 Q (fun u d H' => W u d σ H') (if ts.length = n then F ts st2 else .bad) := q2
        split at q2
        · rename_i hn
          exact ⟨by rw [← hn]; exact r2.length, hd, as2, st2, _, A2, r2, q2⟩
        · exact q2.elim
    · exact q1.elim
  · exact q1.elim
section
variable {pl : Sem Bool} {mc : Value} {mo : M T} {ma : M (List T)}
theorem pm_smeth (ho : PM X ad W o mo) (r : CRead X.K (ad.fn c) mc) (hs : CSta X.K (ad.fn c) mc m pa fa) (G : GnOk X.prog X.w X.K X.mg X.base k fa fd ps (spF X.K ad n F)) (S : Sit X W k) (hb : Binds X.K fd ps [])
    (ha : PMA X ad W (e :: es) ma) (hst : starEach (e :: es) X.env = (false, eval e X.env) :: starEach es X.env := by rfl) (hpl : (backTo pos (starEach es X.env)).any (·.1) = false := by rfl)
    (ht : eval (.Call (.Attribute o m apos) (e :: es) [] pos) X.env = (do
      let ov ← eval o X.env
      standAt apos.atName
      let (f, first) ← holding [ov] (getMethod ov m pl)
      callWith pos f first (backTo pos (starEach (e :: es) X.env)) (backToKw pos (keywordEach [] X.env))) := by rfl) :
    PM X ad W (.Call (.Attribute o m apos) (e :: es) [] pos) (mCls c n false F mo ma) := by
  refine ⟨fun pins s σ H Q I h => ?_⟩
  refine PySem.W.methodCall_KW (pl := pl) (thn (ho.run pins s σ H _ I (tCls h)) fun u s1 ⟨vx, H1, I1, rx, ex, q⟩ => ?_) ht
  subst ex
  obtain rfl : u = Value.ref (ad.fn c) := rx
  obtain ⟨rest, hp⟩ := hs.rc
  refine PySem.W.method_cls I1.kIn r.ga (PySem.W.cls_bind I1.kIn r.rd hs.at_ (wpAny_call (PySem.W.sm_get (s := { s1 with toks := s1.toks + 1 }) I1.kIn hp (PySem.W.handed_on rfl ?_))))
  have I2 : Inv X pins σ H1 { s1 with toks := s1.toks + 1 } := I1.tok _
  exact PySem.W.callWith_K (h₀ := X.base) I2.ok.mod.kin hs.kp (thn (ha.run pos pins _ σ H1 _ I2 q) fun us s3 ⟨vs, H2, I3, rv, q2⟩ => ⟨I3.kIn, run_gn G S hb I3 rv q2⟩) hst hpl
theorem pm_cmeth (ho : PM X ad W o mo) (r : CRead X.K (ad.fn c) mc) (hs : CMet X.K (ad.fn c) mc m pa fa) (G : GnOk X.prog X.w X.K X.mg X.base k fa fd ps (spF X.K ad n F)) (S : Sit X W k) (hb : Binds X.K fd ps [])
    (ha : PMA X ad W (e :: es) ma) (hst : starEach (e :: es) X.env = (false, eval e X.env) :: starEach es X.env := by rfl) (hpl : (backTo pos (starEach es X.env)).any (·.1) = false := by rfl)
    (ht : eval (.Call (.Attribute o m apos) (e :: es) [] pos) X.env = (do
      let ov ← eval o X.env
      standAt apos.atName
      let (f, first) ← holding [ov] (getMethod ov m pl)
      callWith pos f first (backTo pos (starEach (e :: es) X.env)) (backToKw pos (keywordEach [] X.env))) := by rfl) :
    PM X ad W (.Call (.Attribute o m apos) (e :: es) [] pos) (mCls c n true F mo ma) := by
  refine ⟨fun pins s σ H Q I h => ?_⟩
  refine PySem.W.methodCall_KW (pl := pl) (thn (ho.run pins s σ H _ I (tCls h)) fun u s1 ⟨vx, H1, I1, rx, ex, q⟩ => ?_) ht
  subst ex
  obtain rfl : u = Value.ref (ad.fn c) := rx
  refine getmethcm_ok I1 r hs fun s2 I2 => ?_
  refine callwith_cm I2 (base_none I1 (Nat.le_refl _)) hs.fi (thn (ha.run pos _ s2 σ H1 _ I2 q) fun us s3 ⟨vs, H2, I3, rv, q2⟩ => ⟨⟨pin_at I3, I3.kIn⟩, ?_⟩) hst hpl
  have z : wpAny (model X.prog X.w) X.A (call (.ref s1.heap.objs.size) us) (EP X ((s1.heap.objs.size, PySem.W.methodObj (.ref fa) (.ref (ad.fn c))) :: pins) σ Q) X.xe s3 :=
    wpAny_call (PySem.W.method_call (pin_at I3) (run_gnC (us := .ref (ad.fn c) :: us) (vs := .ref (ad.fn c) :: vs) G S hb I3 (.cons rfl rv) q2))
  exact thn z fun _ _ y => unpinE y
end
/-! ### cls(..) -/
def mMakeV (i n c : Nat) (F : List T → Sto → R T) (mm : M (List T)) : M T := fun ρ st => match ρ[i]? with
  | some (some (.adr j)) => if j = c then mMake n c F mm ρ st else .bad
  | _ => .bad
theorem pm_makeV {i : Nat} {mm : M (List T)} (hv : PE X (.Name x p) (tVar i)) (M : Mk X.K (ad.fn c) fa) (G : GnOk X.prog X.w X.K X.mg X.base k fa fd ps (spF X.K ad n F)) (S : Sit X W (k + 1)) (hb : Binds X.K fd ps [])
    (ha : PMA X ad W (e :: es) mm) (he : starEach (e :: es) X.env = (false, eval e X.env) :: starEach es X.env := by rfl) (hpl : (backTo pos (starEach es X.env)).any (·.1) = false := by rfl) :
    PM X ad W (.Call (.Name x p) (e :: es) [] pos) (mMakeV i n c F mm) := by
  refine ⟨fun pins s σ H Q I ⟨hd, ρ, as, st, A, E, q⟩ => wpAny_Call_Name_kw ?_⟩
  unfold mMakeV at q
  split at q
  · rename_i j ej
    split at q
    · rename_i hj
      subst hj
      obtain ⟨v, h1, h2⟩ := E.2 i _ ej
      obtain rfl : v = .ref (ad.fn j) := h2.adrI
      refine thn (hv.run pins s σ H (fun v H1 => v = .ref (ad.fn j) ∧ H1 = H) I ⟨_, h1, rfl, rfl⟩) fun u s0 ⟨vx, H0, I0, rx, ex, eH⟩ => ?_
      subst ex; subst eH
      obtain rfl : u = Value.ref (ad.fn j) := rx
      refine PySem.W.callWith_K (h₀ := X.base) I0.ok.mod.kin M.kp (thn (ha.run pos pins s0 σ H0 _ I0 ⟨hd, ρ, as, st, A, E, Post.step (Q := fun vs H1 => ∀ x dx, H1 x = none → H1 dx = none → dx ≠ x → spF X.K ad n F (.ref x :: vs) (upd (upd H1 dx (.own x)) x (.ins (ad.fn j) dx [])) (fun v H2 => v = .non ∧ Q (.ref x) H2) fun u d H' => W u d σ H') q fun ts st1 as1 H1 vs A1 e1 r1 q1 => ?_⟩) fun us s1 ⟨vs, H1, I1, r, q⟩ => ⟨I1.kIn, ?_⟩) he hpl
      · intro x dx hx hdx hne
        split at q1
        · rename_i hn
          have hx' : (upd H1 dx (.own x)) x = none := by rw [upd_ne (Ne.symm hne)]; exact hx
          have A2 : Ab X.K (ad.hide hd) as1 st1 (upd H1 dx (.own x)) := A1.fresh hdx
          obtain ⟨B, ex, rx⟩ := A2.newO (u := .ins (ad.fn j) dx []) (o := .ins j []) hx' fun e => ⟨dx, [], upd_same, by rw [upd_ne hne, upd_same], fun hmem => by
            rcases List.mem_append.mp hmem with hm | hm
            · exact A1.nin hdx hm
            · simp at hm; exact hne hm, .nil⟩
          have ext2 := (Ext.fresh (as := as1) (o := .own x) hdx).trans ex
          refine ⟨by rw [List.length_cons, r1.length]; exact hn, hd, _, _, _, B, .cons rx (r1.ext ext2), ?_⟩
          have q2 := Post.ext ext2 q1
          revert q2
          cases F (.ref st1.length :: ts) (st1 ++ [.ins j []]) with
          | ok t st2 =>
            intro q2 as3 H3 v A3 e3 r3
            cases t <;> try exact q2.elim
            exact ⟨r3.nonI, q2 as3 H3 _ A3 e3 (rx.ext e3)⟩
          | exc y st2 => exact fun q2 => q2
          | bad => exact fun q2 => q2
        · exact q1.elim
      · exact run_gmake M G S hb I1 r q
    · exact q.elim
  · exact q.elim
/-! ### bytes(a list of ints) -/
def fBytes (xs : List T) (st : Sto) : R T := match xs with
  | [t] => match (lstR st t).bind intsT with
    | some ns => if ns.all (fun n => decide (0 ≤ n ∧ n < 256)) then .ok (.byt (byteArr ns)) st else .bad
    | none => .bad
  | _ => .bad
theorem cm_bytes (hc : X.calm = true) : CallM X (.type "bytes") fBytes := by
  refine ⟨_, call_bytes_list hc, fun ad as st H xs ts Q W A r q => ?_⟩
  unfold fBytes at q
  split at q
  · obtain ⟨v, rfl, rv⟩ := r.one
    split at q
    · rename_i ns e
      obtain ⟨ts, e1, e2⟩ := Option.bind_eq_some_iff.mp e
      obtain ⟨a, vs, rfl, h1, h2⟩ := rv.lstR A e1
      split at q
      · rename_i hb
        obtain ⟨rfl, _⟩ := intsT_rep e2 h2
        refine ⟨a, ns, rfl, h1, fun n hn => ?_, Post.at A (.byt _) q⟩
        have := List.all_eq_true.mp hb n hn
        exact of_decide_eq_true this
      · exact q.elim
    · exact q.elim
  · exact q.elim
/-! ### o.m() -/
theorem pm_methO0 {pl : Sem Bool} {mo : M T} (ho : PM X ad W o mo) (hc : Cls X.K (ad.fn c)) (hm : Meth X.K (ad.fn c) m fa) (G : GnOk X.prog X.w X.K X.mg X.base k fa fd ps (spF X.K ad n F)) (S : Sit X W k) (hb : Binds X.K fd ps [])
    (ht : eval (.Call (.Attribute o m apos) [] [] pos) X.env = (do
      let ov ← eval o X.env
      standAt apos.atName
      let (f, first) ← holding [ov] (getMethod ov m pl)
      callWith pos f first (backTo pos (starEach [] X.env)) (backToKw pos (keywordEach [] X.env))) := by rfl) :
    PM X ad W (.Call (.Attribute o m apos) [] [] pos) (mMethO c n m F mo mNil) := by
  refine ⟨fun pins s σ H Q I ⟨hd, ρ, as, st, A, E, q⟩ => ?_⟩
  refine PySem.W.methodCall_KW (pl := pl) (thn (ho.run pins s σ H (fun vx H1 => ∃ a dx fs, vx = .ref a ∧ H1 a = some (.ins (ad.fn c) dx fs) ∧ fs.lookup m = none ∧ spF X.K ad n F [.ref a] H1 Q fun u d H' => W u d σ H') I
    ⟨hd, ρ, as, st, A, E, Post.step q fun x st1 as1 H1 vx A1 e1 r1 q1 => ?_⟩) fun u s1 ⟨vx, H1, I1, rx, a, dx, fs, ex, ea, l, q1⟩ => ?_) ht
  · split at q1
    · rename_i fs ei
      split at q1
      · exact q1.elim
      · rename_i el
        obtain ⟨a, dx, gs, rfl, h2, h3, h4, h5, h6, h7⟩ := r1.ins A1 ei
        replace q1 : Post X.K (ad.hide hd) (Rep X.K (ad.hide hd)) as1 H1 Q (fun u d H' => W u d σ H') (if 0 + 1 = n then F [x] st1 else .bad) := q1
        split at q1
        · rename_i hn
          exact ⟨a, dx, gs, rfl, h4, h7.none el, hn, hd, as1, st1, [x], A1, .cons r1 .nil, q1⟩
        · exact q1.elim
    · exact q1.elim
  · subst ex
    obtain rfl : u = Value.ref a := rx
    refine getmeth_ok I1 ea hc hm l ?_
    exact PySem.W.callWith_K0 (first := [.ref a]) I1.kIn hm.kp (run_gn (us := [.ref a]) (vs := [.ref a]) G S hb I1 (.cons rfl .nil) q1)
end
end Mi

/-! MiOwnWp: what the ways of MiOwn, MiFmt, MiCls ask. -/
namespace Mi
open PySem L2
section
variable {Q : T → Sto → Prop} {E : Exn → Sto → Prop} {ρ : Sl} {y0 : Option T} {st : Sto}
@[simp] theorem Ok_adr (c : Nat) : Ok (mAdr c (y0 :: ρ) st) Q E ↔ Q (.adr c) st := Iff.rfl
theorem Ok_cls {c n : Nat} {self : Bool} {F : List T → Sto → R T} {ma : M (List T)} : Ok (mCls c n self F (mAdr c) ma (y0 :: ρ) st) Q E ↔ Ok (ma (y0 :: ρ) st) (fun ts st1 => Ok (if (if self then T.adr c :: ts else ts).length = n then F (if self then T.adr c :: ts else ts) st1 else .bad) Q E) E := by
  unfold mCls mAdr
  show Ok (if c = c then _ else _) Q E ↔ _
  rw [if_pos rfl, Ok_bind]
theorem Ok_fmt {m : M T} : Ok (mFmt m (y0 :: ρ) st) Q E ↔ Ok (m (y0 :: ρ) st) (fun x st1 => ∃ z, fmtOf st1 x = some z ∧ Q (.str z) st1) E := by
  unfold mFmt
  rw [Ok_bind]
  refine Ok_congr fun x st1 => ?_
  cases h : fmtOf st1 x with
  | none =>
    refine ⟨fun h => h.elim, ?_⟩
    rintro ⟨z, hz, _⟩
    cases hz
  | some z =>
    refine ⟨fun h => ⟨z, rfl, h⟩, ?_⟩
    rintro ⟨z', hz, q⟩
    cases hz; exact q
end
end Mi

/-! MiIsC: isinstance with an own class. -/
namespace Mi
open PySem L2 PySem.Spec PyProof.Rows C8
def isiTys : List String := ["NoneType", "bool", "int", "str", "bytes", "tuple", "list", "dict"]
/-- what isinstance asks of an own class, both answers -/
structure IsC (K : PySem.W.Frag) (C : Addr) : Prop where
  ins : InsC K C
  no : ∀ a ∈ isiTys, PySem.W.kitOne K (.type a) (.ref C) = some false
/-- a value, one own class -/
def fIsiC (c : Nat) (xs : List T) (st : Sto) : R T := match xs with
  | [t, .adr i] => if i = c then (match insAt st c t with
    | some _ => .ok (.bl true) st
    | none => match tyName st t with
      | some a => if isiTys.contains a then .ok (.bl false) st else .bad
      | none => .bad) else .bad
  | _ => .bad
section
variable {X : Cx} {ad : Ad} {c : Nat}
theorem cm_isiC (C : IsC X.K (ad.fn c)) : CallMA X ad (.builtin "isinstance") (fIsiC c) := by
  refine ⟨_, CallR.alt call_isi (call_isC C.ins), fun hd as st H xs ts Q W A r q => ?_⟩
  unfold fIsiC at q
  split at q
  · rename_i t i
    obtain ⟨v, w, rfl, rv, rw⟩ := r.two
    obtain rfl := rw.adrI
    split at q
    · rename_i hi
      subst hi
      split at q
      · rename_i p e
        obtain ⟨j, fs⟩ := p
        obtain ⟨a, dx, gs, rfl, _, _, ha, _⟩ := rv.ins A e
        exact .inr ⟨a, dx, gs, rfl, ha, Post.at A (.bl _) q⟩
      · split at q
        · rename_i a e2
          split at q
          · rename_i h3
            exact .inl ⟨_, _, _, _, _, rfl, .own _, rv.tyX A e2, C.no a (List.contains_iff_mem.mp h3), Post.at A (.bl _) q⟩
          · exact q.elim
        · exact q.elim
    · exact q.elim
  · exact q.elim
theorem isiC_yes {i : Nat} {st : Sto} {fs : List (Str × T)} (h : insF st c (.ref i) = some fs) : fIsiC c [.ref i, .adr c] st = .ok (.bl true) st := by
  obtain ⟨j, e⟩ := insF_ex h
  unfold fIsiC
  simp [e]
end
end Mi

/-! MiRaise: raise of own exception classes without own __init__, made with a text. -/
namespace Mi
open PySem L2 PySem.Spec PyProof.Rows
abbrev excTail : List Value := [.type "Exception", .type "BaseException", .type "object"]
/-- what is asked of an own exception class over Exception -/
structure ExcX (K : PySem.W.Frag) (mg : Str → Option Value) (x : Str) (C : Addr) : Prop where
  q : PySem.W.excIn K C excTail "Exception.__new__" = true
  g : mg x = some (.ref C)
  k : PySem.W.keepIn K (.ref C) = true
  b : PySem.W.subIn K (.ref C) (.type "BaseException") = some true
  t : PySem.W.typeIn K (.ref C) = some (.type "type")
section
variable {X : Cx} {ad : Ad} {W : WX} {pos p p2 pos' : Pos} {k : Nat}
def sRaise (c : Nat) : SM := fun ρ st => .ex ⟨c, []⟩ ρ st
theorem pms_raise {c : Nat} {x m : Str} {j : Nat} (S : Sit X W k) (E : ExcX X.K X.mg x (ad.fn c)) (hg : Gl X x) (hdb : (x == ("__debug__" : Str)) = false := by decide) :
    PMS X ad W (.Raise (some (.Call (.Name x p) [.Constant (.str m) j p2] [] pos)) none pos') (sRaise c) :=
  psW (ps_raise S.calm S.tk (pmk_own PySem.F.excBase_Exception E.q E.g E.k (raises_own E.b E.t) hg hdb)) fun D σ H ⟨hd, ρ, as, st, A, En, q⟩ =>
    q as H σ (.ref (ad.fn c)) none A Ext.refl En ⟨rfl, .inl ⟨rfl, rfl⟩⟩
section
variable {N : Sl → Sto → Prop} {Rt : T → Sto → Prop} {B C : Sl → Sto → Prop} {E : Exn → Sl → Sto → Prop} {ρ : Sl} {st : Sto}
@[simp] theorem OkS_raise (c : Nat) : OkS (sRaise c ρ st) N Rt B C E ↔ E ⟨c, []⟩ ρ st := Iff.rfl
end
end
end Mi

/-! MiWord: a def that names an exception (isinstance, append, join), called while it is handled. -/
namespace Mi
open PySem L2 PySem.Spec PyProof.Rows L2H
/-! ### join -/
def strsT : List T → Option (List Str)
  | [] => some []
  | .str s :: ts => (strsT ts).map (s :: ·)
  | _ :: _ => none
theorem strsT_rep {K : PySem.W.Frag} {ad : Ad} {as : List Addr} {H : Hp} : ∀ {ts : List T} {zs : List Str} {xs : List V}, strsT ts = some zs → Reps K ad as H xs ts → xs = zs.map V.str
  | [], _, _, e, .nil => by cases e; rfl
  | .str s :: ts, zs, _, e, .cons r q => by
    simp only [strsT, Option.map_eq_some_iff] at e
    obtain ⟨z2, e2, rfl⟩ := e
    rw [r.strI, strsT_rep e2 q]; rfl
  | .non :: _, _, _, e, _ => by simp [strsT] at e
  | .bl _ :: _, _, _, e, _ => by simp [strsT] at e
  | .int _ :: _, _, _, e, _ => by simp [strsT] at e
  | .byt _ :: _, _, _, e, _ => by simp [strsT] at e
  | .ty _ :: _, _, _, e, _ => by simp [strsT] at e
  | .tup _ :: _, _, _, e, _ => by simp [strsT] at e
  | .lst _ :: _, _, _, e, _ => by simp [strsT] at e
  | .frz _ :: _, _, _, e, _ => by simp [strsT] at e
  | .dct _ _ :: _, _, _, e, _ => by simp [strsT] at e
  | .ref _ :: _, _, _, e, _ => by simp [strsT] at e
  | .adr _ :: _, _, _, e, _ => by simp [strsT] at e
def joinT (a : Str) (y : T) (st : Sto) : Option Str := match (seqR st y).bind strsT with
  | some zs => if (zs.map (·.length)).sum + zs.length * a.length ≤ 16777216 then some (Txt.join a zs) else none
  | none => none
def mJoin (mo me : M T) : M T := fun ρ st => (mo ρ st).bind fun x st1 => match x with
  | .str a => (me ρ st1).bind fun y st2 => match joinT a y st2 with
    | some z => .ok (.str z) st2
    | none => .bad
  | _ => .bad
section
variable {X : Cx} {ad : Ad} {W : WX} {pos apos : Pos} {o e : Expr}
theorem pm_join {mo me : M T} (ho : PM X ad W o mo) (he : PM X ad W e me) (hs : starEach [e] X.env = [(false, eval e X.env)] := by rfl) (hbase : attributeBase o "join" X.env (eval o X.env) = eval o X.env := by rfl) (hline : (apos.endLine == pos.line) = true := by rfl) :
    PM X ad W (.Call (.Attribute o "join" apos) [e] [] pos) (mJoin mo me) :=
  peW (pe_join ho he hs hbase hline) fun σ H Q ⟨hd, ρ, as, st, A, E, q⟩ => ⟨hd, ρ, as, st, A, E, Post.step q fun x st1 as1 H1 v A1 e1 r1 q1 => by
    cases x <;> try exact q1.elim
    rename_i a
    obtain rfl := r1.strI
    refine ⟨⟨a, rfl⟩, hd, ρ, as1, st1, A1, E.ext e1, Post.step q1 fun y st2 as2 H2 vy A2 e2 r2 q2 => ?_⟩
    unfold joinT at q2
    split at q2
    · rename_i z ez
      split at ez
      · rename_i zs es
        split at ez
        · rename_i hz
          cases ez
          obtain ⟨ts, t1, t2⟩ := Option.bind_eq_some_iff.mp es
          obtain ⟨p, xs, rfl, h1, h2⟩ := r2.seqR A2 t1
          have ex := strsT_rep t2 h2
          subst ex
          exact ⟨a, p, zs, rfl, rfl, h1, hz, Post.at A2 (.str _) q2⟩
        · cases ez
      · cases ez
    · exact q2.elim⟩
end
/-! ### isinstance of the handled exception -/
/-- its number among the module's own addresses -/
abbrev EXC : Nat := 999999
def exAd (ad : Ad) (a : Addr) : Ad := ⟨fun n => if n = EXC then a else ad.fn n, [], ad.tabs⟩
def fIsiE (sub : Nat → Option Bool) (xs : List T) (st : Sto) : R T := match xs with
  | [.adr e, .adr i] => if e = EXC then (match sub i with
    | some b => .ok (.bl b) st
    | none => .bad) else .bad
  | _ => .bad
theorem call_isEp {X : Cx} {a D : Addr} {oe : Obj} (C : ExcC X.K D) (hp : (a, oe) ∈ X.pn) (hc : oe.cls = .ref D) (hdi : oe.dict = none) (hf : ∃ vs, oe.data = .fields vs) : CallR X (.builtin "isinstance") (rIsE X.K D a) := by
  intro pins s σ H xs us Q I r h
  obtain ⟨c, cv, b, rfl, hcv, e, q⟩ := h
  obtain ⟨u1, u2, rfl, rx, rt⟩ := vals2 r
  cases (show u1 = Value.ref a from rx)
  have ec := hcv _ rt
  subst ec
  obtain ⟨hget, _⟩ := I.pin (a, oe) (List.mem_append.mpr (.inl hp))
  obtain ⟨vs, hv⟩ := hf
  have J : PySem.W.InstAt s.heap a oe D none := by
    obtain ⟨oc, od, oda, osl⟩ := oe
    dsimp only at hc hdi hv
    subst hc hdi hv
    exact ⟨hget, rfl, rfl, trivial⟩
  exact PySem.W.kia_one (PySem.W.handS_kitx_exc C.hg C.hk C.hs C.hd C.ha C.hn C.ht C.hm) I.kIn J e (fun z => nomatch z) fun tk => ⟨.bl b, H, I.kept (t' := tk) fun _ _ z => z, rfl, q⟩
theorem cm_isiE {X : Cx} {ad : Ad} {oe : Obj} {D : Addr} {sub : Nat → Option Bool} (C : ExcC X.K D) (hp : (ad.fn EXC, oe) ∈ X.pn) (hc : oe.cls = .ref D) (hdi : oe.dict = none) (hf : ∃ vs, oe.data = .fields vs)
    (hs : ∀ i b, sub i = some b → PySem.W.kitOne X.K (.ref D) (.ref (ad.fn i)) = some b) : CallMA X ad (.builtin "isinstance") (fIsiE sub) := by
  refine ⟨_, call_isEp C hp hc hdi hf, fun hd as st H xs ts Q W A r q => ?_⟩
  unfold fIsiE at q
  split at q
  · rename_i e i
    obtain ⟨v, w, rfl, rv, rw⟩ := r.two
    obtain rfl := rv.adrI
    obtain rfl := rw.adrI
    split at q
    · rename_i he
      subst he
      split at q
      · rename_i b hb
        exact ⟨_, .ref (ad.fn i), b, rfl, fun u z => z, hs i b hb, Post.at A (.bl _) q⟩
      · exact q.elim
    · exact q.elim
  · exact q.elim
/-! ### the def -/
abbrev CX0 : CXT := fun _ _ _ _ _ _ => False
/-- the def at f, called with the exception that is handled, of the class number c, hands back the text wd c -/
def WordOk (P : Program) (w : World) (K : PySem.W.Frag) (mg : Str → Option Value) (base : Heap) (k : Nat) (f : Addr) (fd : FuncData) (x : Str) (ad : Ad) (wd : Nat → Option Str) : Prop :=
  ∀ (c : Nat) (z : Str), wd c = some z → ∀ (A : Around) (outer : List Env) (s : Shared) (H : Hp) (args : Args) (p : Addr × Obj) (Q : VK) (E : XK), RoomH k A → PinOk outer H s p → p.2.cls = .ref (ad.fn c) → p.2.dict = none → (∃ vs, p.2.data = .fields vs) →
    Env0 P w K mg base A outer s H → LamX.Tabs ad.tabs H → BindsTo s fd args [(x, .ref p.1)] → (∀ as' H', Ext [] H as' H' → LamX.Tabs ad.tabs H' → Q (.str z) H') →
    codeAny (model P w) A (.call (.ref f) args) (CR (MCX P w) outer P w H s Q E) s
section
variable {P : Program} {w : World} {K : PySem.W.Frag} {mg : Str → Option Value} {base : Heap} {ad : Ad}
theorem word_ok {name qual : Str} {st : Stmt} {f : Addr} {fd : FuncData} {N : List Str} {x : Str} {k : Nat} {wd : Nat → Option Str} (F : FunA K name qual st f fd) (S : FnScope N [x] (defScope st))
    (hbody : ∀ (c : Nat) (z : Str), wd c = some z → ∀ (cdv : Value) (A : Around) (outer : List PySem.Env) (s : Shared) (H : Hp) (E : XK) (p : Addr × Obj), p.2.cls = .ref (ad.fn c) → p.2.dict = none → (∃ vs, p.2.data = .fields vs) →
      ∃ m : SM, PMSs (cxH (MCX P w) P w K mg base N qual (defScope st) f cdv A outer s H E p) (exAd ad p.1) W0 (defBody st) m ∧ ∃ sto, runF N.length m [.adr EXC] [] = .ok (.str z) sto) :
    WordOk P w K mg base (k + 1) f fd x ad wd := by
  obtain ⟨oc, od, dV, kV, doc, pm, an, cdv, ct, osl, rfl, lk, hcd⟩ := F.ex
  intro c z hz A outer s H args p Q E hr hpin hc hdi hf e0 hT hb hQ
  have KX : K.In s.heap := e0.mod.kin.keeps fun b o e => (e0.bs b o e).1
  have lim : s.heap.NoLimit := e0.mod.nolimit.keeps fun b o e => (e0.bs b o e).1
  have hkind : ∀ y ∈ [x].zip [Value.ref p.1], (defScope st).names.lookup y.1 = some .local ∨
      ((defScope st).names.lookup y.1 = some .cell ∧ ((cellsFrom (s.heap.objs.size + 1) (defScope st).names []).lookup y.1).isSome = true) := by
    rintro ⟨n, v⟩ hy
    rcases S.par n (List.of_mem_zip hy).1 with q | q
    · exact .inl q
    · exact .inr ⟨q, PySem.W.cellsFrom_some _ _ _ (.inl q)⟩
  have hb : BindsTo s (PySem.W.fnOf name qual (defArgs st) (defBody st) (defScope st) dV kV doc pm an cdv ct) args ([x].zip [Value.ref p.1]) := hb
  refine codeAny_call_function hr.depth (KX _ _ lk) rfl S.co S.gen rfl (PySem.W.codeRec_of KX hcd) (hb _ _ _ _ (wpAny_newFunctionEnv_cells S.kind hkind fun env he s1 xx => ?_))
  subst he
  refine ⟨lim.keeps xx.toInCall.keep, codeAny_func ?_⟩
  obtain ⟨m, hm, sto, hrun⟩ := hbody c z hz cdv A outer s H E p hc hdi hf
  have I : Inv (cxH (MCX P w) P w K mg base N qual (defScope st) f cdv A outer s H E p) [] (L2.start N [V.ref p.1]) H s1 := inv_startH S hpin e0 rfl (.cons rfl .nil) xx
  have start_ok : tS K (exAd ad p.1) W0 m { nx := fun _ H' => Q .non H', rt := Q } (L2.start N [V.ref p.1]) H := by
    have Ab0 : Ab K ((exAd ad p.1).hide []) [] [] H := ⟨rfl, List.nodup_nil, fun i a o h => by simp at h, fun a h => (by cases h), hT⟩
    have rts : Reps K ((exAd ad p.1).hide []) [] H [V.ref p.1] [.adr EXC] := .cons (.adr (ad := (exAd ad p.1).hide []) EXC) .nil
    refine ⟨[], _, [], [], Ab0, start_en rts, ?_⟩
    unfold runF at hrun
    revert hrun
    show (match m ([T.adr EXC].map some ++ List.replicate (N.length - [T.adr EXC].length) none) [] with | .nx _ st' => R.ok T.non st' | .rt t st' => .ok t st' | .ex e _ st' => .exc e st' | _ => .bad) = _ → _
    generalize m ([T.adr EXC].map some ++ List.replicate (N.length - [T.adr EXC].length) none) [] = r
    intro hrun
    cases r with
    | nx ρ st => cases hrun
    | rt t st => cases hrun; exact fun as' H' v A e r => by rw [r.strI]; exact hQ as' H' e A.tabs
    | bk ρ st => cases hrun
    | ct ρ st => cases hrun
    | ex x ρ st => cases hrun
    | bad => cases hrun
  refine wpAny_mono (hm.run [] s1 (L2.start N [V.ref p.1]) H _ I start_ok) (fun fl s' hs => ?_) fun e s' hs => hs
  have fin : ∀ {σ' : L2.St} {H' : Hp} {v : V} {u : Value}, Inv (cxH (MCX P w) P w K mg base N qual (defScope st) f cdv A outer s H E p) [] σ' H' s' → RelV v u → Q v H' → CE outer P w H s Q u s' :=
    fun {σ' H' v u} J rv q => ⟨v, H', J.os, J.bare, J.base, J.hok, rv, q⟩
  cases fl with
  | ret u =>
    obtain ⟨v, σ', H', J, rv, q⟩ := hs
    exact fin J rv q
  | next =>
    obtain ⟨σ', H', J, q⟩ := hs
    exact fin (v := V.non) (u := Value.none) J rfl q
  | brk => exact False.elim (let ⟨_, _, _, q⟩ := hs; q)
  | cont => exact False.elim (let ⟨_, _, _, q⟩ := hs; q)
/-- what stands stays, wherever a run from nothing leads -/
theorem Ab.far {as as' : List Addr} {st : Sto} {H H' : Hp} (A : Ab K ad as st H) (e : Ext [] H as' H') (t : LamX.Tabs ad.tabs H') : Ab K ad as st H' ∧ Ext as H as H' := by
  have ex : Ext as H as H' := ⟨⟨[], by simp, by simp⟩, fun a o na q nt => e.keep a o (by simp) q nt, e.dom⟩
  refine ⟨⟨A.len, A.nd, fun i a o h1 h2 => (A.obj i a o h1 h2).ext ex fun u q => e.keep a u (by simp) q ?_, fun a ha => ?_, t⟩, ex⟩
  · intro ps z
    subst z
    exact (A.obj i a o h1 h2).soft.1 ps q
  · obtain ⟨n, u, q, nt⟩ := A.hid a ha
    exact ⟨n, u, e.keep a u (by simp) q nt, nt⟩
end
end Mi

/-! MiLam: a lambda without parameters, handed to a def, perhaps through another one. -/
namespace Mi
open PySem L2 PySem.Spec PyProof.Rows L2H LamX
/-- two spans of a run; the second one's frames are the first one's, or new -/
theorem un_comp {fs fs2 : List Addr} {H H1 H2 : Hp} {h h1 h2 : Heap} (u : Un fs [] H H1 h h1) (v : Un fs2 [] H1 H2 h1 h2) (hfs : ∀ b o, h.get? b = some o → b ∈ fs2 → b ∈ fs) : Un fs [] H H2 h h2 := by
  refine ⟨fun b o q n nb nx => v.keep b o (u.keep b o q n nb nx) (u.free b o q n nx) (fun z => nb (hfs b o q z)) nx, fun b o q n hb nx => ?_, fun b o q n nx => ?_, fun b o q nx => ?_, fun b xs q => v.tups b xs (u.tups b xs q), fun b o x q => v.frzs b o x (u.frzs b o x q), fun b ps q => ?_⟩
  · obtain ⟨sl, e1⟩ := u.slot b o q n hb nx
    obtain ⟨sl', e2⟩ := v.any e1 (u.free b o q n nx) nx
    exact ⟨sl', e2⟩
  · obtain ⟨o1, e1⟩ := u.there b o q nx
    exact v.free b o1 e1 (u.free b o q n nx) nx
  · obtain ⟨o1, e1⟩ := u.there b o q nx
    exact v.there b o1 e1 nx
  · obtain ⟨m1, e1⟩ := u.tbls b ps q
    obtain ⟨m2, e2⟩ := v.tbls b _ e1
    exact ⟨m1 ++ m2, by rw [e2, Array.append_assoc]⟩
/-- the frames in which a def called from outside runs -/
abbrev Zx (P : Program) (w : World) (K : PySem.W.Frag) (mg : Str → Option Value) (base : Heap) (Ng : List Str) (qg : Str) (sg : Scope) (g : Addr) (cdg : Value) (A : Around) (outer : List Env) (s : Shared) (H : Hp) (pn : List (Addr × Obj)) (xe : Value → Shared → Prop) : Cx :=
  (cxOf C8.CX0 P w K mg base Ng qg sg g cdg A outer s H C8.E0).tr pn xe
/-- whoever is entered at s from the frames outer may call f, a lambda: what it does is told by tl -/
def CapAt (P : Program) (w : World) (K : PySem.W.Frag) (mg : Str → Option Value) (base : Heap) (f c' : Addr) (q : Str) (k : Nat) (tl : XK → Hp → VK → Prop) (A : Around) (outer : List Env) (s : Shared) (H : Hp) : Prop :=
  ∀ (Ng : List Str) (qg : Str) (sg : Scope) (g : Addr) (cdg : Value) (i : Nat) (a : Str) (p1 p2 : Pos) (pn : List (Addr × Obj)) (xe : Value → Shared → Prop) (W : WX) (E : XK),
    Room (k + 1) (A.deeper (envOfC qg sg s.heap.objs.size g cdg)) → A.guards = some [] → Takes (Zx P w K mg base Ng qg sg g cdg A outer s H pn xe) W → (∀ cls d σ' H', E cls d H' → W cls d σ' H') →
    Ng[i]? = some a → Vis sg a → (a == ("__debug__" : Str)) = false → (a == ("__classdict__" : Str)) = false →
    PE (Zx P w K mg base Ng qg sg g cdg A outer s H pn xe) (.Call (.Name a p1) [] [] p2) fun σZ HZ Q => σZ[i]? = some (some (.ref f)) ∧ HZ c' = some (CodeO c' q) ∧ tl E HZ Q
section
variable {X : Cx} {pins : List (Addr × Obj)} {σ : L2.St} {H H2 : Hp} {s s2 : Shared} {scope : Scope} {params : Arguments} {body : Expr} {f c' : Addr} {pm ctv : Value} {k : Nat} {A2 : Around} {outer2 : List Env} {tb : XK → TE}
theorem cap_lam (I : Inv X pins σ H s) (L : LamS X.env.scope scope)
    (hf : s.heap.get? f = some (PySem.W.kla_obj "<lambda>" (X.env.qual ++ "<lambda>") params body scope (cloFrom X.env.cells scope.names []) pm c' ctv)) (hfn : H f = none) (hfr : f ∉ frs X.stack)
    (hbind : bindArgs (PySem.W.kla_fn "<lambda>" (X.env.qual ++ "<lambda>") params body scope (cloFrom X.env.cells scope.names []) pm (.ref c') ctv) ⟨[], []⟩ = pure [])
    (un : Un (frs X.stack) [] H H2 s.heap s2.heap) (hfs : ∀ b o, s.heap.get? b = some o → b ∈ frs outer2 → b ∈ frs X.stack)
    (hbody : ∀ (A : Around) (outer : List Env) (s' : Shared) (H' : Hp) (E : XK), Room k (A.deeper (lamEnv X scope s'.heap.objs.size f c')) → A.guards = some [] → PE (lamCx X A outer s' H' E scope f c') body (tb E)) :
    CapAt X.prog X.w X.K X.mg X.base f c' (X.env.qual ++ "<lambda>") k (fun E H' Q' => tb E σ H' Q') A2 outer2 s2 H2 := by
  intro Ng qg sg g cdg i a p1 p2 pn xe W E hr hg tk hW hN hv hd hcd
  constructor
  intro pZ sZ σZ HZ Q IZ ⟨h1, h2, h3⟩
  have rv := (pe_var (X := Zx X.prog X.w X.K X.mg X.base Ng qg sg g cdg A2 outer2 s2 H2 pn xe) (pos := p1) (i := i) hN hv hd hcd).run pZ sZ σZ HZ (fun v H1 => v = .ref f ∧ H1 = HZ) IZ ⟨_, h1, rfl, rfl⟩
  refine wpAny_Call_Name_kw (thn rv fun u s1 hu => ?_)
  obtain ⟨v, H1, I1, r1, rfl, rfl⟩ := hu
  cases (show u = Value.ref f from r1)
  have all := un_comp un I1.base hfs
  have at1 := all.keep f _ hf hfn hfr (by simp)
  refine PySem.W.callWith_F0 ⟨_, _, _, _, at1⟩ ?_
  obtain ⟨⟨oc, us, t, e1, e2, e3⟩, _, _⟩ := I1.hok c' _ h2
  have deep := hr.deeper (lamEnv X scope s1.heap.objs.size f c')
  have go : codeAny (model X.prog X.w) (A2.deeper (envOfC qg sg s2.heap.objs.size g cdg)) (.call (.ref f) ⟨[], []⟩) (CR (L2.CX X.prog X.w) (envOfC qg sg s2.heap.objs.size g cdg :: outer2) X.prog X.w H1 s1 Q E) s1 := by
    refine PySem.W.kla_callFunE hr.depth at1 rfl L.co L.gen rfl ⟨c', oc, us, t, rfl, e1, e2, e3⟩ ?_
    rw [hbind]
    refine wpAny_pure (wpAny_newFunctionEnv (fun y hy => (L.own y hy).2) (fun y hy => absurd hy (by simp)) (fun h₁ hns hsb => ?_) L.kind)
    have kp : ∀ b o, s1.heap.get? b = some o → h₁.get? b = some o := fun b o e => hsb.extBut b o (Nat.ne_of_lt (Heap.lt_size e)) (Heap.get?_push_of_some _ e)
    refine ⟨I1.nolimit.fresh _ hsb, ?_⟩
    have J := lam_start2 (E := E) (tk := s1.toks + ([] : List (Str × Value)).length) (h₁ := h₁) (f := f) (c' := c') I L I1.env0 hr.hd all hns kp
    refine PySem.W.kla_codeExpr (wpAny_mono ((hbody (A2.deeper (envOfC qg sg s2.heap.objs.size g cdg)) (envOfC qg sg s2.heap.objs.size g cdg :: outer2) s1 H1 E deep hg).run [] _ _ H1 Q J h3) (fun v s' hq => ?_) fun e s' hq => hq)
    obtain ⟨w1, H', J', rq, q⟩ := hq
    exact ⟨w1, H', J'.os, J'.bare, J'.base, J'.hok, rq, q⟩
  have hx := passes_call tk hW
  refine wpAny_call (codeAny_mono go fun r s' hq => ?_)
  match r, hq with
  | .error e, hq => exact hx pZ σZ H1 s1 e s' I1 hq
  | .ok (.ret u), hq => exact I1.after hq
  | .ok .next, hq => exact hq.elim
  | .ok .brk, hq => exact hq.elim
  | .ok .cont, hq => exact hq.elim
end
theorem ext_n {as : List Addr} {H H1 : Hp} (e : ExtN H H1) : Ext as H as H1 := ⟨⟨[], by simp, by simp⟩, fun a o _ q nt => e a o q nt, fun a n o q => by
  by_cases h : ∃ ps, o = .tbl ps
  · exact h
  · have nt : NT o := fun ps z => h ⟨ps, z⟩
    exact n o (e a o q nt)⟩
theorem Ab.extN {K : PySem.W.Frag} {ad : Ad} {as : List Addr} {st : Sto} {H H1 : Hp} (A : Ab K ad as st H) (e : ExtN H H1) (t : Tabs ad.tabs H1) : Ab K ad as st H1 := (A.far (ext_n (as := []) e) t).1
/-- the def at g, called with a lambda: what it makes of the lambda's reading -/
def GvOk (P : Program) (w : World) (K : PySem.W.Frag) (mg : Str → Option Value) (base : Heap) (j k : Nat) (g : Addr) (fd : FuncData) (a : Str) (TT : (XK → Hp → VK → Prop) → Hp → VK → Prop) : Prop :=
  ∀ (A : Around) (outer : List Env) (s : Shared) (H : Hp) (args : Args) (f c' : Addr) (q : Str) (Q : VK) (tl : XK → Hp → VK → Prop), Room k A → A.guards = some [] → Env0 P w K mg base A outer s H → BindsTo s fd args [(a, .ref f)] → H c' = some (CodeO c' q) →
    (∀ A2 outer2 s2 H2, Un (frs outer) [] H H2 s.heap s2.heap → (∀ b o, s.heap.get? b = some o → b ∈ frs outer2 → b ∈ frs outer) → CapAt P w K mg base f c' q j tl A2 outer2 s2 H2) → TT tl H Q →
    codeAny (model P w) A (.call (.ref g) args) (CR C8.CX0 outer P w H s Q C8.E0) s
section
variable {X : Cx} {ad : Ad} {W : WX}
/-- x(lambda: body) -/
theorem pe_lam1 {TT : (XK → Hp → VK → Prop) → Hp → VK → Prop} {T : List (Addr × Str)} {x a : Str} {g c Pt : Addr} {fd : FuncData} {j k : Nat} {params : Arguments} {body : Expr} {scope : Scope} {tb : XK → TE} {p lpos pos : Pos}
    (G : GvOk X.prog X.w X.K X.mg X.base j k g fd a TT) (hr : Room k X.A) (hgd : X.A.guards = some []) (hg : Gl X x) (hm : X.mg x = some (.ref g)) (hk : PySem.W.keepIn X.K (.ref g) = true) (hb : Binds X.K fd [a] [])
    (TB : TabB X.base X.mg c Pt) (hcode : X.env.code = .ref c) (hmT : (Pt, X.env.qual ++ "<lambda>") ∈ T) (hu : ∀ q ∈ T, q.1 = Pt → q.2 = X.env.qual ++ "<lambda>") (L : LamS X.env.scope scope) (hdef : defaultsOf params X.env = ([], []))
    (hbind : ∀ (q : Str) (cl : List (Str × Addr)) (pm cv ctv : Value), bindArgs (PySem.W.kla_fn "<lambda>" q params body scope cl pm cv ctv) ⟨[], []⟩ = pure [])
    (hbody : ∀ (A : Around) (outer : List Env) (s : Shared) (H : Hp) (E : XK) (f c' : Addr), Room j (A.deeper (lamEnv X scope s.heap.objs.size f c')) → A.guards = some [] → PE (lamCx X A outer s H E scope f c') body (tb E))
    (hdb : (x == ("__debug__" : Str)) = false := by decide) :
    PE X (.Call (.Name x p) [.Lambda params body scope lpos] [] pos) (tLam T TT tb) := by
  constructor
  intro pins s σ H Q I ⟨hT, h⟩
  refine wpAny_Call_Name_kw (ld_glob I hg hm (PySem.W.callWith_K (h₀ := X.base) I.ok.mod.kin hk ?_ (by rfl) (by rfl)) hdb)
  show wpAny (model X.prog X.w) X.A (spliced ((false, eval (.Lambda params body scope lpos) X.env) :: backTo pos (starEach [] X.env))) _ X.xe s
  refine Calls.spliced_cons (lam_make2 I TB hcode hmT hu hT hdef (L.has I.ok) fun f c' pm' ctv H1 s' I1 eN T1 hf hfn hfr hco => ?_)
  refine Calls.spliced_nil ⟨I1.kIn, ?_⟩
  have bb := hb s' [.ref f] I1.kIn rfl
  have go := G X.A X.stack s' H1 ⟨[.ref f], []⟩ f c' _ Q (fun E H' Q' => tb E σ H' Q') hr hgd I1.env0 bb hco
    (fun A2 outer2 s2 H2 un hfs => cap_lam I1 L hf hfn hfr (hbind _ _ _ _ _) un hfs fun A outer s3 H3 E hr2 hg2 => hbody A outer s3 H3 E f c' hr2 hg2) (h H1 eN T1)
  refine wpAny_call (codeAny_mono go fun r s2 hq => ?_)
  match r, hq with
  | .error e, hq => exact (show False from hq).elim
  | .ok (.ret u), hq => exact I1.after hq
  | .ok .next, hq => exact hq.elim
  | .ok .brk, hq => exact hq.elim
  | .ok .cont, hq => exact hq.elim
end
end Mi

/-! MiSaid: what a call says: its repr, or the name of its exception. -/
namespace Mi
open PySem L2 PySem.Spec PyProof.Rows L2H LamX
/-- less is wanted -/
theorem pe_post {X : Cx} {e : Expr} {t : TE} (h : PE X e t) : PE X e fun σ H Q => ∃ Q1 : V → Hp → Prop, (∀ v H1, Q1 v H1 → Q v H1) ∧ t σ H Q1 := ⟨fun pins s σ H Q I ⟨Q1, hk, h1⟩ =>
  wpAny_mono (h.run pins s σ H Q1 I h1) (fun u s' ⟨v, H', I', r, q⟩ => ⟨v, H', I', r, hk _ _ q⟩) fun _ _ z => z⟩
theorem takes_len {X : Cx} {W : WX} (tk : Takes X W) : Takes X fun c d σ H => σ.length = X.N.length → W c d σ H := fun u s' ⟨a, B, sI, pins, σ, H, cls, d, e, I, nb, up, sky, na, os, ag, w⟩ =>
  tk u s' ⟨a, B, sI, pins, σ, H, cls, d, e, I, nb, up, sky, na, os, ag, w I.len⟩
/-- what is made of the lambda's answer -/
def TTsaid (K : PySem.W.Frag) (ad : Ad) (wd : Nat → Option Str) (rp : List T → Sto → R T) : (XK → Hp → VK → Prop) → Hp → VK → Prop := fun tl H Q =>
  tl (fun cls d H' => ∃ c z, cls = .ref (ad.fn c) ∧ d = none ∧ wd c = some z ∧ ("! " : Str).length + z.length ≤ sizeLine ∧ Tabs ad.tabs H' ∧ ∀ as2 H2, Ext [] H' as2 H2 → Tabs ad.tabs H2 → Q (.str (("! " : Str) ++ z)) H2) H
    fun v H1 => ∃ hd as st t, Ab K (ad.hide hd) as st H1 ∧ Rep K (ad.hide hd) as H1 v t ∧ Post K (ad.hide hd) (Rep K (ad.hide hd)) as H1 Q (fun _ _ _ => False) (rp [t] st)
section
variable {P : Program} {w : World} {K : PySem.W.Frag} {mg : Str → Option Value} {base : Heap} {ad : Ad}
theorem said_ok {x a why ex word : Str} {st : Stmt} {g gw CS : Addr} {fd fw : FuncData} {N : List Str} {j kw k jj : Nat} {wd : Nat → Option Str} {rp : List T → Sto → R T} {p0 p1 p2 p3 p4 p5 p6 p7 p8 p9 p10 p11 p12 p13 : Pos}
    (F : FunA K x x st g fd) (S : FnScope N [a] (defScope st)) (hsm : ∃ o, base.get? sysModules = some o) (hN0 : N[0]? = some a) (hN1 : N[1]? = some why) (hN : N = [a, why]) (hva : Vis (defScope st) a) (hvw : Vis (defScope st) why) (hlw : (defScope st).names.lookup why = some .local)
    (hb : defBody st = [.Try [.Return (some (.Call (.Name "repr" p0) [.Call (.Name a p1) [] [] p2] [] p3)) p4] [.ExceptHandler (some (.Name ex p5)) (some why) [.Return (some (.BinOp (.Constant (.str "! ") jj p6) .Add (.Call (.Name word p7) [.Name why p8] [] p9) p10)) p11] p12] [] [] p13])
    (ge : (defScope st).names.lookup ex = some .globalImplicit) (gr : (defScope st).names.lookup ("repr" : Str) = some .globalImplicit) (gw' : (defScope st).names.lookup word = some .globalImplicit)
    (me : mg ex = some (.ref CS)) (mr : mg "repr" = none) (mw : mg word = some (.ref gw)) (kw' : PySem.W.keepIn K (.ref gw) = true) (bw : Binds K fw [why] [])
    (hword : WordOk P w K mg base kw gw fw why ad wd) (hex : ∀ c z, wd c = some z → PySem.W.exmOne K (.ref (ad.fn c)) (.ref CS) = some true)
    (hrp : ∀ (X : Cx) (W : WX), X.prog = P → X.w = w → X.K = K → X.mg = mg → X.base = base → Sit X W k → CallMA X ad (.builtin "repr") rp)
    (hj : j + 1 ≤ k) (hk : kw ≤ k)
    (d1 : (a == ("__debug__" : Str)) = false := by decide) (d2 : (a == ("__classdict__" : Str)) = false := by decide) (d3 : (ex == ("__debug__" : Str)) = false := by decide) (d4 : (why == ("__debug__" : Str)) = false := by decide) (d5 : (why == ("__classdict__" : Str)) = false := by decide) (d6 : (word == ("__debug__" : Str)) = false := by decide) :
    GvOk P w K mg base j (k + 1) g fd a (TTsaid K ad wd rp) := by
  obtain ⟨oc, od, dV, kV, doc, pm, an, cdv, ct, osl, rfl, lk, hcd⟩ := F.ex
  intro A outer s H args f c' q Q tl hr hgd e0 hbind hc hcap hTT
  refine run_ofS (vs := [.ref f]) (us := [.ref f]) (ps := [a]) (N := N) lk hcd S hr e0 hbind (.cons rfl .nil) rfl fun hr' => ?_
  have Zg : ∀ y, (defScope st).names.lookup y = some .globalImplicit → Gl (cxOf C8.CX0 P w K mg base N x (defScope st) g cdv A outer s H C8.E0) y := fun y h => h
  let ts : Addr → Value → Option Addr → TS := fun e cls d D σ HZ => ∃ c z, cls = .ref (ad.fn c) ∧ d = none ∧ wd c = some z ∧ ("! " : Str).length + z.length ≤ sizeLine ∧ σ[1]? = some (some (.ref e)) ∧ Tabs ad.tabs HZ ∧ ∀ as2 H2, Ext [] HZ as2 H2 → Tabs ad.tabs H2 → D.rt (.str (("! " : Str) ++ z)) H2
  let tb : WX → TS := fun W D σ HZ => ∃ Ech : XK, (∀ cls d σ' H', Ech cls d H' → σ'.length = N.length → W cls d σ' H') ∧ σ[0]? = some (some (.ref f)) ∧ HZ c' = some (CodeO c' q) ∧
    tl Ech HZ fun v H1 => ∃ hd as st t, Ab K (ad.hide hd) as st H1 ∧ Rep K (ad.hide hd) as H1 v t ∧ Post K (ad.hide hd) (Rep K (ad.hide hd)) as H1 D.rt (fun _ _ _ => False) (rp [t] st)
  have tr := ps_try_as (X := cxOf C8.CX0 P w K mg base N x (defScope st) g cdv A outer s H C8.E0) (x := ex) (n := why) (c := .ref CS) (i := 1) (np := p5) (pos := p13) (pos' := p12) (tb := tb) (ts := ts) (Wout := fun _ _ _ _ => False)
    (body := [.Return (some (.Call (.Name "repr" p0) [.Call (.Name a p1) [] [] p2] [] p3)) p4]) (b₀ := .Return (some (.BinOp (.Constant (.str "! ") jj p6) .Add (.Call (.Name word p7) [.Name why p8] [] p9) p10)) p11) (suite := [])
    rfl rfl S.nd hN1 hlw ⟨Zg _ ge, d3, .inl me⟩ L2.takes0
    (fun W pn xe tk po => by
      constructor
      intro pins s' σ' H' D I ⟨Ech, hW, h1, h2, h3⟩
      have hp := hcap A outer s H Un.refl (fun _ _ _ z => z) N x (defScope st) g cdv 0 a p1 p2 pn xe _ Ech (hr'.mono hj) hgd (takes_len tk) hW hN0 hva d1 d2
      have sit : Sit (Zx P w K mg base N x (defScope st) g cdv A outer s H pn xe) W k := ⟨rfl, hgd, hr', tk, po, hsm⟩
      obtain ⟨r, hc1, hc2⟩ := hrp _ W rfl rfl rfl rfl rfl sit
      have pr := pss_one (ps_ret (pos := p4) (pe_callB (p := p0) (pos := p3) hc1 (Zg _ gr) mr PyProof.Rows.boot_repr (pa_cons (pe_post hp) pa_nil)))
      refine pr.run pins s' σ' H' D I ⟨_, fun v H1 ⟨hd, as, st1, t, A1, r1, q1⟩ => ?_, h1, h2, h3⟩
      exact hc2 hd as st1 H1 [v] [t] D.rt _ A1 (.cons r1 .nil) q1)
    (fun e oe cls d pn hz hf => by
      have hA : RoomH kw ((cxOf C8.CX0 P w K mg base N x (defScope st) g cdv A outer s H C8.E0).suite e ((e, oe) :: pn)).A :=
        ⟨by have := hr'.dp; show (A.deeper (envOfC x (defScope st) s.heap.objs.size g cdv)).depth + 3 * kw + 5 < _; omega, by have := hr'.un; show (A.deeper (envOfC x (defScope st) s.heap.objs.size g cdv)).units + 16 * kw + 200 < _; omega⟩
      have pw : PE ((cxOf C8.CX0 P w K mg base N x (defScope st) g cdv A outer s H C8.E0).suite e ((e, oe) :: pn)) (.Call (.Name word p7) [.Name why p8] [] p9)
          fun σ HZ Q => ∃ c z, cls = .ref (ad.fn c) ∧ d = none ∧ wd c = some z ∧ σ[1]? = some (some (.ref e)) ∧ Tabs ad.tabs HZ ∧ ∀ as2 H2, Ext [] HZ as2 H2 → Tabs ad.tabs H2 → Q (.str z) H2 := by
        constructor
        intro pins s' σ' H' Q' I ⟨c, z, ec, ed, hz', h1, hT, hq⟩
        refine wpAny_Call_Name_kw (ld_glob I (Zg _ gw') mw ?_ d6)
        have pa : PA ((cxOf C8.CX0 P w K mg base N x (defScope st) g cdv A outer s H C8.E0).suite e ((e, oe) :: pn)) [.Name why p8] (tCons _ tNil) := pa_cons (pe_var (i := 1) hN1 hvw d4 d5) pa_nil
        refine PySem.W.callWith_K (h₀ := base) I.ok.mod.kin kw' (thn (pa.run p9 pins s' σ' H' (fun vs H1 => vs = [.ref e] ∧ H1 = H') I ⟨.ref e, h1, rfl, rfl⟩) fun us s1 ⟨vs, H1, I1, rv, ev, eH⟩ => ⟨I1.kIn, ?_⟩)
        subst ev; subst eH
        obtain ⟨u, rfl, ru⟩ := vals1 rv
        cases (show u = Value.ref e from ru)
        have P1 := I1.pin (e, oe) (List.mem_append.mpr (.inl List.mem_cons_self))
        have hpin : PinOk ((cxOf C8.CX0 P w K mg base N x (defScope st) g cdv A outer s H C8.E0).suite e ((e, oe) :: pn)).stack H1 s1 (e, oe) := ⟨P1.1, P1.2.1, fun hm => (List.mem_cons.mp (I1.stkSub e hm)).elim P1.2.2.1 P1.2.2.2.1, P1.2.2.2.2⟩
        have bb := bw s1 [.ref e] I1.kIn rfl
        have go := hword c z hz' _ _ s1 H1 ⟨[.ref e], []⟩ (e, oe) Q' (fun _ _ _ => False) hA hpin (hz.1.trans ec) (hz.2.trans ed) hf I1.env0 hT bb fun as2 H2 e2 t2 => hq as2 H2 e2 t2
        refine wpAny_call (codeAny_mono go fun r s2 hq2 => ?_)
        match r, hq2 with
        | .error _, hq2 => obtain ⟨_, _, _, _, _, _, _, _, _, _, _, _, z⟩ := hq2; exact z.elim
        | .ok (.ret u), hq2 => exact I1.after hq2
        | .ok .next, hq2 => exact hq2.elim
        | .ok .brk, hq2 => exact hq2.elim
        | .ok .cont, hq2 => exact hq2.elim
      have pr := pss_one (ps_ret (pos := p11) (pe_op (pos := p10) op_add_str (pe_str (x := "! ") (j := jj) (pos := p6)) pw))
      constructor
      intro pins s' σ' H' D I ⟨c, z, h1, h2, h3, h4, h5, h6, h7⟩
      exact pr.run pins s' σ' H' D I ⟨c, z, h1, h2, h3, h5, h6, fun as2 H2 e2 t2 => ⟨"! ", z, rfl, rfl, h4, h7 as2 H2 e2 t2⟩⟩)
  rw [hb]
  refine ⟨_, pss_one tr, ?_⟩
  subst hN
  refine ⟨fun cls d H' => _, fun cls d σ' H' hE hlen => ?_, rfl, hc, hTT⟩
  obtain ⟨c, z, rfl, rfl, hz, hl, hT, hq⟩ := hE
  refine ⟨true, hex c z hz, fun _ e he => ⟨c, z, rfl, rfl, hz, hl, ?_, hT, hq⟩, fun h => by cases h⟩
  have hlen : σ'.length = 2 := hlen
  rw [List.getElem?_set_self (by omega)]
end
end Mi
namespace Mi
open PySem L2 PySem.Spec PyProof.Rows L2H LamX
/-- what the call says: the text of what the lambda answers, or the name of its exception -/
def mSaid (wd : Nat → Option Str) (rp : List T → Sto → R T) (m : M T) : M T := fun ρ st => match m ρ st with
  | .ok t st1 => noExc (rp [t] st1)
  | .exc e st1 => match wd e.c with
    | some z => if ("! " : Str).length + z.length ≤ sizeLine ∧ e.fs = [] then .ok (.str (("! " : Str) ++ z)) st1 else .bad
    | none => .bad
  | .bad => .bad
theorem Post.noExcI {α β : Type} {K : PySem.W.Frag} {ad : Ad} {as : List Addr} {H : Hp} {Rl : List Addr → Hp → β → α → Prop} {Q : β → Hp → Prop} {W : XK} {r : R α} (h : Post K ad Rl as H Q W (Mi.noExc r)) : Post K ad Rl as H Q (fun _ _ _ => False) r := Post.noExc h
section
variable {K : PySem.W.Frag} {ad : Ad}
theorem tt_said {wd : Nat → Option Str} {rp : List T → Sto → R T} {m : M T} {hd as : List Addr} {ρ : Sl} {st : Sto} {H H1 : Hp} {σ : L2.St} {Q : V → Hp → Prop} {W : XK} (A : Ab K (ad.hide hd) as st H) (E : En K (ad.hide hd) as H σ ρ)
    (q : Post K (ad.hide hd) (Rep K (ad.hide hd)) as H Q W (mSaid wd rp m ρ st)) (eN : ExtN H H1) (T1 : Tabs ad.tabs H1) :
    TTsaid K ad wd rp (fun E' H' Q2 => tM K ad (Rep K) (fun cls d _ HH => E' cls d HH) m σ H' Q2) H1 Q := by
  have ex : Ext as H as H1 := ext_n eN
  refine ⟨hd, ρ, as, st, A.extN eN T1, E.ext ex, ?_⟩
  unfold mSaid at q
  revert q
  cases m ρ st with
  | ok t st1 => exact fun q as2 H2 v A2 e2 r2 => ⟨hd, as2, st1, t, A2, r2, Post.noExcI (Post.ext (ex.trans e2) q)⟩
  | bad => exact fun q => q
  | exc e st1 =>
    intro q as2 H2 u d A2 e2 r2
    dsimp only at q
    split at q
    · rename_i z ez
      split at q
      · rename_i hc
        obtain ⟨eu, h | ⟨_, _, h, _⟩⟩ := r2
        · refine ⟨e.c, z, eu, h.2, ez, hc.1, A2.tabs, fun as3 H3 e3 t3 => ?_⟩
          obtain ⟨A3, x3⟩ := A2.far e3 t3
          exact q as2 H3 _ A3 ((ex.trans e2).trans x3) (.str _)
        · exact absurd hc.2 h
      · exact q.elim
    · exact q.elim
end
section
variable {X : Cx} {ad : Ad} {W : WX}
/-- said(lambda: body) -/
theorem pm_said {wd : Nat → Option Str} {rp : List T → Sto → R T} {m : M T} {x a : Str} {g c Pt : Addr} {fd : FuncData} {j k : Nat} {params : Arguments} {body : Expr} {scope : Scope} {p lpos pos : Pos}
    (G : GvOk X.prog X.w X.K X.mg X.base j k g fd a (TTsaid X.K ad wd rp)) (hr : Room k X.A) (hgd : X.A.guards = some []) (hg : Gl X x) (hm : X.mg x = some (.ref g)) (hk : PySem.W.keepIn X.K (.ref g) = true) (hb : Binds X.K fd [a] [])
    (TB : TabB X.base X.mg c Pt) (hcode : X.env.code = .ref c) (hmT : (Pt, X.env.qual ++ "<lambda>") ∈ ad.tabs) (hu : ∀ q ∈ ad.tabs, q.1 = Pt → q.2 = X.env.qual ++ "<lambda>") (L : LamS X.env.scope scope) (hdef : defaultsOf params X.env = ([], []))
    (hbind : ∀ (q : Str) (cl : List (Str × Addr)) (pm cv ctv : Value), bindArgs (PySem.W.kla_fn "<lambda>" q params body scope cl pm cv ctv) ⟨[], []⟩ = pure [])
    (hbody : ∀ (A : Around) (outer : List Env) (s : Shared) (H : Hp) (E : XK) (f c' : Addr), Room j (A.deeper (lamEnv X scope s.heap.objs.size f c')) → A.guards = some [] → PM (lamCx X A outer s H E scope f c') ad (fun cls d _ HH => E cls d HH) body m)
    (hdb : (x == ("__debug__" : Str)) = false := by decide) :
    PM X ad W (.Call (.Name x p) [.Lambda params body scope lpos] [] pos) (mSaid wd rp m) :=
  peW (pe_lam1 (tb := fun E => tM X.K ad (Rep X.K) (fun cls d _ HH => E cls d HH) m) G hr hgd hg hm hk hb TB hcode hmT hu L hdef hbind hbody hdb) fun σ H Q ⟨hd, ρ, as, st, A, E, q⟩ => ⟨A.tabs, fun H1 eN T1 => tt_said A E q eN T1⟩
end
/-! ### the exception's name alone -/
def mBareR : M T := mIte (mTest (mBin (opEqB false) (mBin opIx (mVar 1) (mC (.int 0))) (mC (.str "!")))) (mVar 1) (mC (.str ""))
def bareOf (z : Str) : Option Str := match mBareR [none, some (.str z)] [] with
  | .ok (.str y) [] => some y
  | _ => none
def TTbare (K : PySem.W.Frag) (ad : Ad) (wd : Nat → Option Str) (rp : List T → Sto → R T) : (XK → Hp → VK → Prop) → Hp → VK → Prop := fun tl H Q =>
  TTsaid K ad wd rp tl H fun v H2 => ∃ z y, v = .str z ∧ bareOf z = some y ∧ Tabs ad.tabs H2 ∧ ∀ as3 H3, Ext [] H2 as3 H3 → Tabs ad.tabs H3 → Q (.str y) H3
def mBare (wd : Nat → Option Str) (rp : List T → Sto → R T) (m : M T) : M T := fun ρ st => (mSaid wd rp m ρ st).bind fun x st1 => match x with
  | .str z => match bareOf z with
    | some y => .ok (.str y) st1
    | none => .bad
  | _ => .bad
section
variable {X : Cx} {ad : Ad} {W : WX}
theorem pm_bare {wd : Nat → Option Str} {rp : List T → Sto → R T} {m : M T} {x a : Str} {g c Pt : Addr} {fd : FuncData} {j k : Nat} {params : Arguments} {body : Expr} {scope : Scope} {p lpos pos : Pos}
    (G : GvOk X.prog X.w X.K X.mg X.base j k g fd a (TTbare X.K ad wd rp)) (hr : Room k X.A) (hgd : X.A.guards = some []) (hg : Gl X x) (hm : X.mg x = some (.ref g)) (hk : PySem.W.keepIn X.K (.ref g) = true) (hb : Binds X.K fd [a] [])
    (TB : TabB X.base X.mg c Pt) (hcode : X.env.code = .ref c) (hmT : (Pt, X.env.qual ++ "<lambda>") ∈ ad.tabs) (hu : ∀ q ∈ ad.tabs, q.1 = Pt → q.2 = X.env.qual ++ "<lambda>") (L : LamS X.env.scope scope) (hdef : defaultsOf params X.env = ([], []))
    (hbind : ∀ (q : Str) (cl : List (Str × Addr)) (pm cv ctv : Value), bindArgs (PySem.W.kla_fn "<lambda>" q params body scope cl pm cv ctv) ⟨[], []⟩ = pure [])
    (hbody : ∀ (A : Around) (outer : List Env) (s : Shared) (H : Hp) (E : XK) (f c' : Addr), Room j (A.deeper (lamEnv X scope s.heap.objs.size f c')) → A.guards = some [] → PM (lamCx X A outer s H E scope f c') ad (fun cls d _ HH => E cls d HH) body m)
    (hdb : (x == ("__debug__" : Str)) = false := by decide) :
    PM X ad W (.Call (.Name x p) [.Lambda params body scope lpos] [] pos) (mBare wd rp m) :=
  peW (pe_lam1 (tb := fun E => tM X.K ad (Rep X.K) (fun cls d _ HH => E cls d HH) m) G hr hgd hg hm hk hb TB hcode hmT hu L hdef hbind hbody hdb) fun σ H Q ⟨hd, ρ, as, st, A, E, q⟩ => ⟨A.tabs, fun H1 eN T1 =>
    tt_said A E (Post.step (Q := fun v H2 => ∃ z y, v = V.str z ∧ bareOf z = some y ∧ Tabs ad.tabs H2 ∧ ∀ as3 H3, Ext [] H2 as3 H3 → Tabs ad.tabs H3 → Q (V.str y) H3) q fun t st1 as1 H2 v A2 e2 r2 q2 => by
      cases t <;> try exact q2.elim
      rename_i z
      dsimp only at q2
      split at q2
      · rename_i y ey
        refine ⟨z, y, r2.strI, ey, A2.tabs, fun as3 H3 e3 t3 => ?_⟩
        obtain ⟨A3, x3⟩ := A2.far e3 t3
        exact q2 as1 H3 (V.str y) A3 x3 (.str _)
      · exact q2.elim) eN T1⟩
end
end Mi
namespace Mi
open PySem L2 PySem.Spec PyProof.Rows L2H LamX
section
variable {P : Program} {w : World} {K : PySem.W.Frag} {mg : Str → Option Value} {base : Heap} {ad : Ad}
theorem bare_ok {x a wh said : Str} {st : Stmt} {g gs : Addr} {fd fs : FuncData} {N : List Str} {j k i1 i2 i3 : Nat} {wd : Nat → Option Str} {rp : List T → Sto → R T} {q1 q2 q3 q4 q5 q6 q7 q8 q9 q10 q11 q12 q13 q14 : Pos} (F : FunA K x x st g fd) (S : FnScope N [a] (defScope st)) (hN : N = [a, wh])
    (hva : Vis (defScope st) a) (hvw : Vis (defScope st) wh) (hlw : (defScope st).names.lookup wh = some .local)
    (hb : defBody st = [.Assign [.Name wh q1] (.Call (.Name said q2) [.Name a q3] [] q4) q5, .Return (some (.IfExp (.Compare (.Subscript (.Name wh q6) (.Constant (.int 0) i1 q7) q8) [.Eq] [.Constant (.str "!") i2 q9] q10) (.Name wh q11) (.Constant (.str "") i3 q12) q13)) q14])
    (gs' : (defScope st).names.lookup said = some .globalImplicit) (ms : mg said = some (.ref gs)) (ks : PySem.W.keepIn K (.ref gs) = true) (bs : Binds K fs [a] [])
    (G : GvOk P w K mg base j k gs fs a (TTsaid K ad wd rp))
    (hsw : ∀ env : Env, swapsWith (.Call (.Name said q2) [.Name a q3] [] q4) (some (.Name wh q1)) q5.line env = pure false := by intro env; rfl)
    (d1 : (a == ("__debug__" : Str)) = false := by decide) (d2 : (a == ("__classdict__" : Str)) = false := by decide) (d3 : (said == ("__debug__" : Str)) = false := by decide) (d4 : (wh == ("__debug__" : Str)) = false := by decide) (d5 : (wh == ("__classdict__" : Str)) = false := by decide) :
    GvOk P w K mg base j (k + 1) g fd a (TTbare K ad wd rp) := by
  obtain ⟨oc, od, dV, kV, doc, pm, an, cdv, ct, osl, rfl, lk, hcd⟩ := F.ex
  intro A outer s H args f c' q Q tl hr hgd e0 hbind hc hcap hTT
  subst hN
  refine run_ofS (vs := [.ref f]) (us := [.ref f]) (ps := [a]) (N := [a, wh]) lk hcd S hr e0 hbind (.cons rfl .nil) rfl fun hr' => ?_
  have pc : PE (cxOf C8.CX0 P w K mg base [a, wh] x (defScope st) g cdv A outer s H C8.E0) (.Call (.Name said q2) [.Name a q3] [] q4) fun σ HZ Q => σ[0]? = some (some (.ref f)) ∧ HZ c' = some (CodeO c' q) ∧ TTsaid K ad wd rp tl HZ Q := by
    constructor
    intro pins s' σ' H' Q' I ⟨h1, h2, h3⟩
    refine wpAny_Call_Name_kw (ld_glob I gs' ms ?_ d3)
    have pa : PA (cxOf C8.CX0 P w K mg base [a, wh] x (defScope st) g cdv A outer s H C8.E0) [.Name a q3] (tCons _ tNil) := pa_cons (pe_var (i := 0) rfl hva d1 d2) pa_nil
    refine PySem.W.callWith_K (h₀ := base) I.ok.mod.kin ks (thn (pa.run q4 pins s' σ' H' (fun vs H1 => vs = [.ref f] ∧ H1 = H') I ⟨.ref f, h1, rfl, rfl⟩) fun us s1 ⟨vs, H1, I1, rv, ev, eH⟩ => ⟨I1.kIn, ?_⟩)
    subst ev; subst eH
    obtain ⟨u, rfl, ru⟩ := vals1 rv
    cases (show u = Value.ref f from ru)
    have bb := bs s1 [.ref f] I1.kIn rfl
    have hs : ∀ b o, s.heap.get? b = some o → b ∈ frs (cxOf C8.CX0 P w K mg base [a, wh] x (defScope st) g cdv A outer s H C8.E0).stack → b ∈ frs outer := fun b o e hm => by
      have lt := Heap.lt_size e
      rcases List.mem_cons.mp (show b ∈ s.heap.objs.size :: frs outer from hm) with z | z
      · exact absurd z (Nat.ne_of_lt lt)
      · exact z
    have go := G _ _ s1 H1 ⟨[.ref f], []⟩ f c' q Q' tl hr' hgd I1.env0 bb h2 (fun A2 outer2 s2 H2 un hfs => hcap A2 outer2 s2 H2 (un_comp I1.base un hs) fun b o e hm => by
      obtain ⟨o1, e1⟩ := I1.base.there b o e (fun z => nomatch (show b ∈ ([] : List Addr) from z))
      exact hs b o e (hfs b o1 e1 hm)) h3
    refine wpAny_call (codeAny_mono go fun r s2 hq2 => ?_)
    match r, hq2 with
    | .error _, hq2 => exact (show False from hq2).elim
    | .ok (.ret u), hq2 => exact I1.after hq2
    | .ok .next, hq2 => exact hq2.elim
    | .ok .brk, hq2 => exact hq2.elim
    | .ok .cont, hq2 => exact hq2.elim
  have p1 := ps_set (X := cxOf C8.CX0 P w K mg base [a, wh] x (defScope st) g cdv A outer s H C8.E0) (i := 1) (pos := q5) (pos' := q1) S.nd (rfl : [a, wh][1]? = some wh) (.inl hlw) (pe_post pc) (hsw _) (.inr hlw)
  have pv : ∀ pos, PE (cxOf C8.CX0 P w K mg base [a, wh] x (defScope st) g cdv A outer s H C8.E0) (.Name wh pos) (tVar 1) := fun pos => pe_var (i := 1) rfl hvw d4 d5
  have p2 : PMS (cxOf C8.CX0 P w K mg base [a, wh] x (defScope st) g cdv A outer s H C8.E0) ad W0 (.Return (some (.IfExp (.Compare (.Subscript (.Name wh q6) (.Constant (.int 0) i1 q7) q8) [.Eq] [.Constant (.str "!") i2 q9] q10) (.Name wh q11) (.Constant (.str "") i3 q12) q13)) q14) (sRet mBareR) :=
    pms_ret (pm_ite (ptM_cmp (om_eq hr'.units) (pm_ix (pm_var (pv q6)) pm_int (fun _ _ => rfl)) pm_str (nomark _)) (pm_var (pv q11)) pm_str)
  rw [hb]
  refine ⟨_, pss_cons p1 (pss_one p2), _, fun v H2 hv => ?_, rfl, hc, hTT⟩
  obtain ⟨z, y, rfl, hy, hT, hq⟩ := hv
  have Ab0 : Ab K (ad.hide []) [] [] H2 := ⟨rfl, List.nodup_nil, fun i a o h => by simp at h, fun a h => (by cases h), hT⟩
  refine ⟨[], [none, some (.str z)], [], [], Ab0, ⟨rfl, fun i t h => ?_⟩, ?_⟩
  · match i, h with
    | 0, h => simp at h
    | 1, h =>
      simp at h
      subst h
      exact ⟨.str z, rfl, .str z⟩
    | i + 2, h => simp at h
  · unfold bareOf at hy
    unfold sRet
    revert hy
    generalize mBareR [none, some (.str z)] [] = r
    intro hy
    match r, hy with
    | .ok (.str y') [], hy =>
      simp only [Option.some.injEq] at hy
      subst hy
      intro as' H' v A' e' r'
      rw [r'.strI]
      exact hq as' H' e' A'.tabs
end
end Mi

/-! MiTab: the law's end where defs hold lambdas: their tables of code objects are tracked. -/
namespace Mi
open PySem L2 PySem.Spec PyProof.Rows LamX
abbrev noCode : Obj := { cls := .none, data := .fields #[] }
theorem law_runT {P : Program} {w : World} {K : PySem.W.Frag} {ad : Ad} {mg mb : Str → Option Value} {k : Nat} {fa a : Addr} {fd : FuncData} {x : Str} {F : List T → Sto → R T} {s₁ : Shared} {vs : List Value} {ns : List Int} {cs : List (Addr × Addr)}
    (KX : K.In s₁.heap) (hns : s₁.heap.Ns mainGlobals mg) (hb : s₁.heap.Ns builtinsNs mb) (hbb : ∀ x : Str, x ≠ "__name__" → mb x = bootBuiltins x) (hlim : s₁.heap.NoLimit) (hmod : ∃ mm, s₁.heap.Ns sysModules mm) (hg : s₁.gens = #[])
    (hT : ∀ p ∈ cs, s₁.heap.get? p.2 = some noCode) (nT : ∀ p ∈ cs, K.lookup p.2 = none) (C : ∀ p ∈ cs, PySem.W.CodeHd s₁.heap p.1 p.2)
    (hbm : ∃ (bm : Addr) (ob : Obj), mg "__builtins__" = some (.ref bm) ∧ bm ≠ builtinsNs ∧ s₁.heap.get? bm = some ob ∧ ob.cls = .type "module" ∧ ob.dict = some builtinsNs ∧ ob.data = .plain)
    (ha : s₁.heap.get? a = some { cls := .type "list", data := .seq vs.toArray }) (hi : IntsAre vs ns) (hl : ns.length ≤ sizeLine) (hr : Room k callerA) (had : ad.hid = []) (hat : ∀ q ∈ ad.tabs, ∃ p ∈ cs, p.2 = q.1)
    (hF : ∀ base : Heap, K.In base → base.Ns mainGlobals mg → (∃ o, base.get? sysModules = some o) → (∀ p ∈ cs, TabB base mg p.1 p.2) → GnOk P w K mg base k fa fd [x] (spF K ad 1 F)) (hbind : ∀ (s : Shared) (u : Value), BindsTo s fd ⟨[u], []⟩ [(x, u)])
    (hlaw : ∃ st, F [.frz (ns.map T.int)] [] = .ok (.bl true) st) :
    codeAny (model P w) callerA (.call (.ref fa) ⟨[.ref a], []⟩) (fun r s' => r = .ok (.ret (.bool true)) ∧ OldK s₁.heap s'.heap ∧ s'.os = s₁.os ∧ AllBare s'.gens) s₁ := by
  obtain ⟨stE, hlaw⟩ := hlaw
  have rv := vals_ints hi
  have lenV := hi.length
  have isP : ∀ b ∈ cs.map (·.2), s₁.heap.get? b = some noCode := fun b hb => by
    obtain ⟨p, hp, rfl⟩ := List.mem_map.mp hb
    exact hT p hp
  have nPa : a ∉ cs.map (·.2) := fun z => by
    have e := isP a z
    rw [ha] at e
    have := congrArg Obj.data (Option.some.inj e)
    cases this
  have repInts : ∀ (as : List Addr) (H : Hp) (l : List Int), Reps K (ad.hide []) as H (l.map V.int) (l.map T.int) := fun as H l => by
    induction l with
    | nil => exact .nil
    | cons i r ih => exact .cons (.int i) ih
  have core : ∀ H : Hp, (∀ b ∈ cs.map (·.2), H b = some (.tbl #[])) → (∀ b, H b = none ∨ b ∈ cs.map (·.2) ∨ ∃ o xs, H b = some (.frz o (.lst xs))) → SqL K H a (ns.map V.int) → HOk P w H s₁.heap → (∀ b, H b ≠ none → b = a ∨ b ∈ cs.map (·.2)) → (H a ≠ none → K.lookup a = none) →
      codeAny (model P w) callerA (.call (.ref fa) ⟨[.ref a], []⟩) (fun r s' => r = .ok (.ret (.bool true)) ∧ OldK s₁.heap s'.heap ∧ s'.os = s₁.os ∧ AllBare s'.gens) s₁ := by
    intro H hP hO hS hok hA hK
    -- what is neither a list nor an empty table stands in the ground
    have gnd : ∀ {b : Addr} {o : Obj}, s₁.heap.get? b = some o → (∀ us n, o.data ≠ .seq us n) → o.data ≠ .fields #[] → H b = none ∧ (hidT s₁.heap H).get? b = some o := fun {b o} e h1 h2 => by
      have n : H b = none := by
        cases q : H b with
        | none => rfl
        | some u =>
          rcases hA b (by rw [q]; simp) with z | z
          · subst z
            rw [ha] at e; cases e
            exact (h1 _ _ rfl).elim
          · rw [isP b z] at e; cases e
            exact (h2 rfl).elim
      exact ⟨n, hidT_get e n⟩
    have dictG : ∀ {b : Addr} {o : Obj} {es : Array DictEntry} {ep : Nat}, s₁.heap.get? b = some o → o.data = .dict es ep → (hidT s₁.heap H).get? b = some o := fun {b o es ep} e d => (gnd e (fun us n z => by rw [d] at z; cases z) (fun z => by rw [d] at z; cases z)).2
    have nsK : ∀ {b : Addr} {m : Str → Option Value}, s₁.heap.Ns b m → (hidT s₁.heap H).Ns b m := fun {b m} ⟨o, es, ep, e, d, r⟩ => ⟨o, es, ep, dictG e d, d, r⟩
    have hKb : K.In (hidT s₁.heap H) := fun b o e => by
      refine hidT_get (KX b o e) ?_
      cases q : H b with
      | none => rfl
      | some u =>
        rcases hA b (by rw [q]; simp) with z | z
        · rw [z, hK (by rw [← z, q]; simp)] at e; cases e
        · obtain ⟨p, hp, rfl⟩ := List.mem_map.mp z
          rw [nT p hp] at e; cases e
    have hM : Mod K mg (hidT s₁.heap H) := ⟨hKb, nsK hns, ⟨mb, nsK hb, hbb⟩, let ⟨mc, h1, h2⟩ := hlim; ⟨mc, nsK h1, h2⟩⟩
    have e0 : Env0 P w K mg (hidT s₁.heap H) callerA [] s₁ H :=
      ⟨rfl, hM, fun b o e => of_hidT e, Nat.le_of_eq (hidT_size _ _), trivial, fun b hb => absurd (show b ∈ ([] : List Addr) from hb) (by simp), hok, .of_eq hg⟩
    have hsm : ∃ o, (hidT s₁.heap H).get? sysModules = some o := by
      obtain ⟨mm, hm⟩ := hmod
      obtain ⟨o, _, _, e, _⟩ := nsK hm
      exact ⟨o, e⟩
    have TB : ∀ p ∈ cs, TabB (hidT s₁.heap H) mg p.1 p.2 := fun p hp => by
      refine ⟨?_, ?_, fun z => ?_⟩
      · obtain ⟨o, us, file, tf, flags, tg, inF, text, tt, e1, r1, r2, r3, rest⟩ := C p hp
        exact ⟨o, us, file, tf, flags, tg, inF, text, tt, (gnd e1 (fun us' n z => by rw [r2] at z; cases z) (fun z => by rw [r2] at z; cases z; simp at r3)).2, r1, r2, r3, rest⟩
      · obtain ⟨bm, ob, b1, b2, b3, b4, b5, b6⟩ := hbm
        refine ⟨bm, ob, b1, b2, fun q => ?_, fun q => ?_, (gnd b3 (fun us n z => by rw [b6] at z; cases z) (fun z => by rw [b6] at z; cases z)).2, b4, b5, b6⟩
        · obtain ⟨o, es, ep, e, hd, _⟩ := hns
          rw [q, e] at b3; cases b3
          rw [hd] at b6; cases b6
        · rw [q, hT p hp] at b3; cases b3
          cases b6
      · obtain ⟨o, es, ep, e, hd, _⟩ := hns
        rw [z, hT p hp] at e; cases e
        cases hd
    have frz : FrzAt K [] H a (ns.map V.int) := by
      rcases hS with (h | ⟨o, h⟩) | h
      · rcases hO a with z | z | ⟨o, xs, z⟩
        · rw [h] at z; cases z
        · exact absurd z nPa
        · rw [h] at z; cases z
      · exact .inl ⟨by simp, o, h⟩
      · exact .inr (.inr h)
    have tb0 : Tabs ad.tabs H := fun q hq => by
      obtain ⟨p, hp, e⟩ := hat q hq
      exact TabS.nil (hP q.1 (by rw [← e]; exact List.mem_map.mpr ⟨p, hp, rfl⟩))
    have ab : Ab K (ad.hide []) [] [] H := ⟨rfl, List.nodup_nil, fun i a o h => by simp at h, fun a h => (by cases h), tb0⟩
    have sp : spF K ad 1 F [.ref a] H (fun v _ => v = .bl true) (fun _ _ _ => False) := by
      refine ⟨rfl, [], [], [], [.frz (ns.map T.int)], ab, .cons (.frz frz (repInts _ _ _)) .nil, ?_⟩
      rw [hlaw]
      intro as' H' v _ _ r
      exact r.blI
    refine codeAny_mono ((hF _ hKb (nsK hns) hsm TB).run callerA [] s₁ H ⟨[.ref a], []⟩ [.ref a] [.ref a] _ _ hr rfl e0 (hbind s₁ (.ref a)) (.cons rfl .nil) sp) fun r s' h => ?_
    match r, h with
    | .error e, h => obtain ⟨_, _, _, _, _, _, _, _, _, _, _, _, z⟩ := h; exact z.elim
    | .ok .next, h => exact h.elim
    | .ok .brk, h => exact h.elim
    | .ok .cont, h => exact h.elim
    | .ok (.ret u), h =>
      obtain ⟨v, H', os, bare, un, hok', r', q⟩ := h
      have q' : v = .bl true := q
      subst q'
      obtain rfl : u = Value.bool true := r'
      have stay : ∀ b o, b ∉ cs.map (·.2) → s₁.heap.get? b = some o → s'.heap.get? b = some o := fun b o nb e => by
        cases z : H b with
        | none => exact un.keep b o e z (fun z => absurd (show b ∈ ([] : List Addr) from z) (by simp)) (by simp)
        | some u =>
          rcases hO b with z1 | z1 | ⟨ob, xs, z1⟩
          · rw [z] at z1; cases z1
          · exact absurd z1 nb
          · obtain ⟨e1, _⟩ := hok b _ z1
            obtain ⟨e2, _⟩ := hok' b _ (un.frzs b ob _ z1)
            rw [e] at e1; cases e1
            exact e2
      have grew : ∀ p ∈ cs, ∃ more : Array Value, s'.heap.get? p.2 = some { cls := .none, data := .fields more } := fun p hp => by
        obtain ⟨more, z⟩ := un.tbls p.2 #[] (hP _ (List.mem_map.mpr ⟨p, hp, rfl⟩))
        exact ⟨_, hok' p.2 _ z⟩
      refine ⟨rfl, ⟨fun b o e => ?_, fun b o e => ?_⟩, os, bare⟩
      · by_cases nb : b ∈ cs.map (·.2)
        · obtain ⟨p, hp, rfl⟩ := List.mem_map.mp nb
          obtain ⟨more, hm⟩ := grew p hp
          rw [hT p hp] at e
          cases e
          exact .inr (.inl ⟨((C p hp).tab (hT p hp)).isCodeTable, rfl, #[], more, rfl, by rw [Array.empty_append]; exact hm⟩)
        · exact .inl (stay b o nb e)
      · by_cases nb : b ∈ cs.map (·.2)
        · obtain ⟨p, hp, rfl⟩ := List.mem_map.mp nb
          obtain ⟨more, hm⟩ := grew p hp
          exact ⟨_, hm⟩
        · exact ⟨o, stay b o nb e⟩
  let G : Hp := fun b => if b ∈ cs.map (·.2) then some (.tbl #[]) else none
  have gin : ∀ b, b ∈ cs.map (·.2) → G b = some (.tbl #[]) := fun b h => if_pos h
  have gout : ∀ b, b ∉ cs.map (·.2) → G b = none := fun b h => if_neg h
  cases hk : K.lookup a with
  | some o =>
    have e := KX a o hk
    rw [ha] at e
    cases e
    refine core G gin (fun b => ?_) (.inr ⟨_, vs.toArray, _, hk, rfl, rfl, rfl, by rw [List.size_toArray, lenV]; exact hl, by simpa using rv⟩) (fun b u z => ?_) (fun b z => ?_) fun z => absurd (gout a nPa) z
    · by_cases h : b ∈ cs.map (·.2)
      · exact .inr (.inl h)
      · exact .inl (gout b h)
    · by_cases h : b ∈ cs.map (·.2)
      · rw [gin b h] at z; cases z
        exact isP b h
      · rw [gout b h] at z; cases z
    · by_cases h : b ∈ cs.map (·.2)
      · exact .inr h
      · exact absurd (gout b h) z
  | none =>
    have at_ : upd G a (.frz { cls := .type "list", data := .seq vs.toArray } (.lst (ns.map V.int))) a = some (.frz { cls := .type "list", data := .seq vs.toArray } (.lst (ns.map V.int))) := upd_same
    have off : ∀ b, b ≠ a → upd G a (.frz { cls := .type "list", data := .seq vs.toArray } (.lst (ns.map V.int))) b = G b := fun b h => upd_ne h
    refine core _ (fun b h => by rw [off b (fun z => nPa (by rw [← z]; exact h))]; exact gin b h) (fun b => ?_) (.inl (.inr ⟨_, at_⟩)) (fun b u z => ?_) (fun b z => ?_) fun _ => hk
    · by_cases hb : b = a
      · subst hb; exact .inr (.inr ⟨_, _, at_⟩)
      · by_cases h : b ∈ cs.map (·.2)
        · exact .inr (.inl h)
        · exact .inl ((off b hb).trans (gout b h))
    · by_cases hb : b = a
      · subst hb
        rw [at_] at z; cases z
        exact ⟨ha, by rw [List.length_map]; exact hl, vs, _, rv, ha⟩
      · rw [off b hb] at z
        by_cases h : b ∈ cs.map (·.2)
        · rw [gin b h] at z; cases z
          exact isP b h
        · rw [gout b h] at z; cases z
    · by_cases hb : b = a
      · exact .inl hb
      · rw [off b hb] at z
        by_cases h : b ∈ cs.map (·.2)
        · exact .inr h
        · exact absurd (gout b h) z
/-- the table of the def named x is empty yet -/
def TabOf (K : PySem.W.Frag) (mg : Str → Option Value) (h : Heap) (x : Str) : Prop := ∀ (a c Pt : Addr) (o : Obj) (fd : FuncData) (e : Value) (dd : Option Addr) (us : Array Value) (sl : Array (Option Value)),
  mg x = some (.ref a) → K.lookup a = some o → o.data = .func fd → fd.code = .ref c → K.lookup c = some ⟨e, dd, .fields us, sl⟩ → us[11]? = some (.ref Pt) → h.get? Pt = some noCode
/-- the goal that k_head leaves, from the mirror's answer, where the defs named in L hold lambdas -/
theorem walkT {l : PySem.W.OpenLaw} {n k : Nat} {q : Program} {loose : List Str} {XP : (Str → Option Value) → Heap → Prop} {YP : World → Heap → Prop} {d : DefRec} {K : Params → PySem.W.Frag} {x : Str} {F : List T → Sto → R T} {L : List Str}
    (hn : l.most = some n) (hn2 : n ≤ sizeLine) (hdf : d.params.defaults = []) (hr : Room k callerA) (hi : importsNone q = true) (hL : (L.all fun y => (recsOf q).any fun e => e.name == y) = true)
    (hY : ∀ (w : World) (h : Heap), YP w h → (K w.params).In h)
    (hlaw : ∀ ns : List Int, ns.length ≤ n → ∃ st, F [.frz (ns.map T.int)] [] = .ok (.bl true) st)
    (hF : ∀ (w : World) (mg : Str → Option Value) (fa : Addr) (h : Heap), (K w.params).In h → h.Ns mainGlobals mg → mg d.name = some (.ref fa) → (∀ y ∈ L, TabOf (K w.params) mg h y) →
      ∃ (ad : Ad) (fd : FuncData) (cs : List (Addr × Addr)), (∀ p ∈ cs, h.get? p.2 = some noCode) ∧ (∀ p ∈ cs, (K w.params).lookup p.2 = none) ∧ (∀ p ∈ cs, PySem.W.CodeHd h p.1 p.2) ∧ ad.hid = [] ∧ (∀ q ∈ ad.tabs, ∃ p ∈ cs, p.2 = q.1) ∧ (∀ (s : Shared) (u : Value), BindsTo s fd ⟨[u], []⟩ [(x, u)]) ∧
        ∀ base : Heap, (K w.params).In base → base.Ns mainGlobals mg → (∃ o, base.get? sysModules = some o) → (∀ p ∈ cs, TabB base mg p.1 p.2) → GnOk l.prog w (K w.params) mg base k fa fd [x] (spF (K w.params) ad 1 F)) :
    PySem.W.WalkO q loose XP YP l.row.toRowW d [] (fun f vs => PySem.call f vs) := by
  refine Att.attach_call hn hdf fun w s₀ s₁ mg mb fa o pm cd doc a vs ns G Y ho hd hcd hmg hobj hints hlen hg => ?_
  have KX := hY w _ Y
  have own : ∀ y ∈ L, TabOf (K w.params) mg s₁.heap y := fun y hy a1 c1 P1 o1 fd1 e1 dd us sl k0 k1 k2 k3 k4 k5 => by
    obtain ⟨dL, hm, hn1⟩ := List.any_eq_true.mp (List.all_eq_true.mp hL y hy)
    obtain ⟨a', o', fd', c', P', h1, h2, h3, h4, h5, ⟨oc, vc, g1, _, g3, g4⟩, hP⟩ := G.T.tab dL hm
    rw [beq_iff_eq.mp hn1, k0] at h1
    cases h1
    rw [KX _ _ k1] at h2
    cases h2
    rw [k2] at h3
    cases h3
    rw [k3] at h4
    cases h4
    rw [KX _ _ k4] at g1
    cases g1
    cases g3
    rw [k5] at g4
    cases g4
    exact hP
  obtain ⟨ad, fd, cs, hT, nT, C, had, hat, hb, hG⟩ := hF w mg fa _ KX G.T.g hmg own
  obtain ⟨mm, hm⟩ := (G.T.seer hi).mods
  exact law_runT KX G.T.g G.T.b G.T.builtins G.T.nolimit ⟨mm, hm.1⟩ hg hT nT C G.T.bmain hobj hints (Nat.le_trans hlen hn2) hr had hat hG hb (hlaw ns hlen)
end Mi

/-! MiPos: str of an int; properties, instances that are called, += by an own method; defs with defaults. -/
namespace Mi
open PySem L2 PySem.Spec PyProof.Rows
/-! ### str(int) -/
def fStr (xs : List T) (st : Sto) : R T := match xs with
  | [.int i] => if i.natAbs.log2 < 1920 then .ok (.str (PySem.Str.ofString (toString i))) st else .bad
  | _ => .bad
section
variable {X : Cx} {ad : Ad} {W : WX} {pos p : Pos} {k n c : Nat} {e : Expr} {f x : Str} {fa pa : Addr} {fd : FuncData} {ps : List Str} {F : List T → Sto → R T}
theorem cm_str : CallM X (.type "str") fStr := by
  refine ⟨_, call_str_int, fun ad as st H xs ts Q W A r q => ?_⟩
  unfold fStr at q
  split at q
  · obtain ⟨v, rfl, rv⟩ := r.one
    obtain rfl := rv.intI
    split at q
    · exact ⟨_, rfl, by assumption, Post.at A (.str _) q⟩
    · exact q.elim
  · exact q.elim
/-! ### properties -/
def mProp (c : Nat) (F : List T → Sto → R T) (m : M T) : M T := fun ρ st => (m ρ st).bind fun x st1 => match insAt st1 c x with
  | some _ => noExc (F [x] st1)
  | none => .bad
theorem pm_prop {m : M T} (he : PM X ad W e m) (hc : Cls X.K (ad.fn c)) (hp : PropOf X.K (ad.fn c) f pa fa) (G : GnOk X.prog X.w X.K X.mg X.base k fa fd ps (spF X.K ad 1 F)) (S : Sit X W (k + 1)) (hb : Binds X.K fd ps [])
    (hab : attributeBase e f X.env (eval e X.env) = eval e X.env := by rfl) : PM X ad W (.Attribute e f pos) (mProp c F m) := by
  constructor
  intro pins s σ H Q I ⟨hd, ρ, as, st, A, E, q⟩
  refine attr_of hab (thn (he.run pins s σ H (fun vx H1 => ∃ a dx fs, vx = .ref a ∧ H1 a = some (.ins (ad.fn c) dx fs) ∧ spF X.K ad 1 F [.ref a] H1 Q fun _ _ _ => False) I
    ⟨hd, ρ, as, st, A, E, Post.step q fun t st1 as1 H1 vx A1 e1 r1 q1 => ?_⟩) fun u s1 ⟨vx, H1, I1, rx, a, dx, fs, ex, ea, hsp⟩ => ?_)
  · split at q1
    · rename_i i ei
      obtain ⟨i, fi⟩ := i
      obtain ⟨a, dx, gs, rfl, _, _, ha, _⟩ := r1.ins A1 ei
      exact ⟨a, dx, gs, rfl, ha, rfl, hd, as1, st1, _, A1, .cons r1 .nil, Post.noExc q1⟩
    · exact q1.elim
  · subst ex
    obtain rfl : u = Value.ref a := rx
    obtain ⟨mA, O, _⟩ := ins_get I1.hok ea
    obtain ⟨od, J, _⟩ := O.look
    obtain ⟨rest, hrec⟩ := hp.rec_
    have hcl : (PySem.W.clsIn X.K (ad.fn c)).isSome = true := by
      obtain ⟨cd, hcd, _⟩ := PySem.W.any_some hc.hd
      rw [hcd]; rfl
    have I2 := I1.tok (s1.toks + 1)
    have hl : [Value.ref a].length = ps.length := G.len _ _ _ _ hsp
    have bb := hb { s1 with toks := s1.toks + 1 } [.ref a] I2.kIn (by simpa using hl)
    rw [List.append_nil] at bb
    have e0 : Env0 X.prog X.w X.K X.mg X.base X.A.in1 X.stack { s1 with toks := s1.toks + 1 } H1 := by
      have e := I2.env0
      exact ⟨e.frames, e.mod, e.bs, e.bsz, e.funs, e.frf, e.hok, e.bare⟩
    refine PySem.W.get_bind I1.kIn J (PySem.W.plainGet_of (hc.get f)).1 (PySem.W.findObj_data hcl hp.at_ hp.get hp.tak) (PySem.W.plainGet_of (hc.get f)).2 (wpAny_call (PySem.W.prop_get (s := { s1 with toks := s1.toks + 1 }) I1.kIn hrec ?_))
    refine codeAny_mono (G.run X.A.in1 X.stack _ H1 ⟨[.ref a], []⟩ [.ref a] [.ref a] Q _ S.rm.in1 S.gd e0 bb (.cons rfl .nil) hsp) fun r s' hq => ?_
    match r, hq with
    | .error er, hq => obtain ⟨_, _, _, _, _, _, _, _, _, _, _, _, z⟩ := hq; exact z.elim
    | .ok (.ret u), hq =>
      obtain ⟨v, H', I3, rv, q3⟩ := I2.after hq
      show wpAny _ _ (handedOut u) _ _ _
      rw [PySem.W.handedOut_of (handed_of rv)]
      exact wpAny_pure ⟨v, H', I3, rv, q3⟩
    | .ok .next, hq => exact hq.elim
    | .ok .brk, hq => exact hq.elim
    | .ok .cont, hq => exact hq.elim
/-! ### o(), an instance that is called -/
def mCallO0 (c : Nat) (F : List T → Sto → R T) (m : M T) : M T := fun ρ st => (m ρ st).bind fun x st1 => match insAt st1 c x with
  | some _ => F [x] st1
  | none => .bad
theorem pm_callO0 {fe : Expr} {m : M T} (he : PM X ad W fe m) (hc : StX.CallO X.K (ad.fn c) fa) (G : GnOk X.prog X.w X.K X.mg X.base k fa fd ps (spF X.K ad 1 F)) (S : Sit X W k) (hb : Binds X.K fd ps [])
    (ht : eval (.Call fe [] [] pos) X.env = (do callWith pos (← eval fe X.env) [] (backTo pos (starEach [] X.env)) (backToKw pos (keywordEach [] X.env))) := by rfl) : PM X ad W (.Call fe [] [] pos) (mCallO0 c F m) := by
  constructor
  intro pins s σ H Q I ⟨hd, ρ, as, st, A, E, q⟩
  refine Call_ (thn (he.run pins s σ H (fun vx H1 => ∃ a dx fs, vx = .ref a ∧ H1 a = some (.ins (ad.fn c) dx fs) ∧ spF X.K ad 1 F [.ref a] H1 Q fun u d H' => W u d σ H') I
    ⟨hd, ρ, as, st, A, E, Post.step q fun t st1 as1 H1 vx A1 e1 r1 q1 => ?_⟩) fun u s1 ⟨vx, H1, I1, rx, a, dx, fs, ex, ea, hsp⟩ => ?_) ht
  · split at q1
    · rename_i i ei
      obtain ⟨i, fi⟩ := i
      obtain ⟨a, dx, gs, rfl, _, _, ha, _⟩ := r1.ins A1 ei
      exact ⟨a, dx, gs, rfl, ha, rfl, hd, as1, st1, _, A1, .cons r1 .nil, q1⟩
    · exact q1.elim
  · subst ex
    obtain rfl : u = Value.ref a := rx
    obtain ⟨ox, od, J, hpl⟩ := StX.insC_at I1 (.inr ⟨dx, fs, ea⟩)
    refine StX.callO_of (args := []) rfl ?_
    refine wpAny_pure ⟨⟨_, ox, od, J, hpl⟩, ?_⟩
    exact wpAny_call (PySem.W.kco_code I1.kIn J hpl hc.at_ hc.fn hc.fi (run_gnC (us := [.ref a]) (vs := [.ref a]) G S hb I1 (.cons rfl .nil) hsp))
/-! ### x += e, by the own method -/
def sAugO (i c : Nat) (F : List T → Sto → R T) (m : M T) : SM := fun ρ st => match ρ[i]? with
  | some (some x) => RS.of (m ρ st) ρ fun y st1 => match insAt st1 c x with
    | some _ => RS.of (F [x, y] st1) ρ fun z st2 => .nx (ρ.set i (some z)) st2
    | none => .bad
  | _ => .bad
theorem pms_augO {op : Operator} {i : Nat} {m : M T} {pos' : Pos} (hN : X.N.Nodup) (hi : X.N[i]? = some x) (hx : Loc X.env.scope x) (he : PM X ad W e m) (hc : PySem.W.selfFirst X.K (ad.fn c) = true) (hs : PySem.W.findIn X.K (.ref (ad.fn c)) (dunderI op.info.2) = some (some (.ref fa)))
    (hf : PySem.W.isFn X.K (.ref fa) = true) (G : GnOk X.prog X.w X.K X.mg X.base k fa fd ps (spF X.K ad 2 F)) (S : Sit X W k) (hb : Binds X.K fd ps []) (hW : ∀ u d σ σ' H, W u d σ H → W u d σ' H)
    (hl : X.fn x = true ∨ X.env.scope.names.lookup x = some .local := by first | exact .inl rfl | exact .inr rfl | assumption) : PMS X ad W (.AugAssign (.Name x pos') op e pos) (sAugO i c F m) := by
  have hp : PIp X op fun x y H Q => ∃ a dx fs, x = V.ref a ∧ H a = some (.ins (ad.fn c) dx fs) ∧ spF X.K ad 2 F [.ref a, y] H Q fun u d H' => ∀ σ', W u d σ' H' := by
    rintro pins s σ H x y v u Q I rx ry ⟨a, dx, fs, rfl, ea, hsp⟩
    obtain rfl : v = Value.ref a := rx
    obtain ⟨mA, O, _⟩ := ins_get I.hok ea
    obtain ⟨od, J, _⟩ := O.look
    obtain ⟨mm, hF⟩ := I.fr
    refine PySem.W.ksp_inplace hF I.ok.mod.kin J hc hs hf ?_
    have hsp2 : spF X.K ad 2 F [.ref a, y] H Q fun u d H' => W u d σ H' := by
      obtain ⟨h1, hd, as, st, ts, A, r, q⟩ := hsp
      exact ⟨h1, hd, as, st, ts, A, r, Post.imp q (fun _ _ z => z) fun _ _ _ z => z σ⟩
    refine wpAny_mono (run_gn (us := [.ref a, u]) (vs := [.ref a, y]) G S hb I (.cons rfl (.cons ry .nil)) hsp2) (fun v s' z => ?_) fun _ _ x => x
    obtain ⟨z, H', I', rz, q⟩ := z
    exact SlX.cmpback rz ⟨z, H', I', rz, q⟩
  refine psW (ps_aug hN hi hx he hp hl) fun D σ H ⟨hd, ρ, as, st, A, E, q⟩ => ?_
  unfold sAugO at q
  split at q
  · rename_i x0 ex0
    obtain ⟨v0, ev0, rv0⟩ := E.2 i x0 ex0
    refine ⟨v0, ev0, hd, ρ, as, st, A, E, PostS.expr E q fun t st1 as1 H1 v A1 e1 r1 q1 => ?_⟩
    split at q1
    · rename_i i0 ei
      obtain ⟨i0, fi⟩ := i0
      have rv1 := rv0.ext e1
      obtain ⟨a, dx, gs, rfl, _, _, ha, _⟩ := rv1.ins A1 ei
      refine ⟨a, dx, gs, rfl, ha, rfl, hd, as1, st1, _, A1, .cons rv1 (.cons r1 .nil), ?_⟩
      refine Post.imp (PostS.expr (Rl := Rep X.K (ad.hide hd)) (Q := fun z H2 => D.nx (σ.set i (some z)) H2) (E.ext e1) q1 fun z st2 as2 H2 vz A2 e2 r2 q2 => PostS.nxAt A2 (((E.ext e1).ext e2).set r2) q2) (fun _ _ z => z) fun u d H' z σ' => hW _ _ _ _ _ z
    · exact q1.elim
  · exact q.elim
end
end Mi

/-! MiLamG: what the printed derivations of lambdas ask. -/
namespace Mi
open PySem L2 PySem.Spec PyProof.Rows LamX
theorem CallM.atAd {X : Cx} {ad : Ad} {f : Value} {op : List T → Sto → R T} (h : CallM X f op) : CallMA X ad f op := by
  obtain ⟨r, h1, h2⟩ := h
  exact ⟨r, h1, fun hd as st H xs ts Q W => h2 _ as st H xs ts Q W⟩
theorem sit_lam {X : Cx} {A : Around} {outer : List Env} {s : Shared} {H : Hp} {E : XK} {scope : Scope} {f c' : Addr} {j : Nat} (hr : Room j (A.deeper (lamEnv X scope s.heap.objs.size f c'))) (hg : A.guards = some []) (hsm : ∃ o, X.base.get? sysModules = some o) :
    Sit (lamCx X A outer s H E scope f c') (fun c d _ HH => E c d HH) j := ⟨rfl, hg, hr, takes_of rfl rfl rfl rfl, passes_of rfl, hsm⟩
/-- the name of a def's lambdas -/
abbrev lamQ (q : Str) : Str := (q ++ ".<locals>.") ++ "<lambda>"
theorem tabs_one {l : List (Addr × Str)} (h : (l.map (·.1)).Nodup) {p : Addr × Str} (hp : p ∈ l) : ∀ q ∈ l, q.1 = p.1 → q.2 = p.2 := by
  induction l with
  | nil => cases hp
  | cons a l ih =>
    rw [List.map_cons, List.nodup_cons] at h
    intro q hq e
    rcases List.mem_cons.mp hp with e1 | hp <;> rcases List.mem_cons.mp hq with e2 | hq
    · rw [e1, e2]
    · exact absurd (List.mem_map.mpr ⟨q, hq, by rw [e, e1]⟩) h.1
    · exact absurd (List.mem_map.mpr ⟨p, hp, by rw [← e, e2]⟩) h.1
    · exact ih h.2 hp q hq e
/-- a def that holds lambdas: its code object, its table -/
structure LamD (base : Heap) (mg : Str → Option Value) (ad : Ad) (fd : FuncData) (q : Str) (c Pt : Addr) : Prop where
  cd : fd.code = .ref c
  tb : TabB base mg c Pt
  mem : (Pt, lamQ q) ∈ ad.tabs
  one : ∀ p ∈ ad.tabs, p.1 = Pt → p.2 = lamQ q
end Mi
namespace Mi
open PySem L2 PySem.Spec PyProof.Rows LamX L2H
def subT (is : List Nat) (c i : Nat) : Option Bool := if i ∈ is ∧ i ≠ EXC then some (i == c) else none
theorem exAd_fn {ad : Ad} {a : Addr} {i : Nat} (h : i ≠ EXC) : (exAd ad a).fn i = ad.fn i := if_neg h
theorem lookup_mem {l : List (Nat × Str)} {c : Nat} {z : Str} (h : l.lookup c = some z) : (c, z) ∈ l := by
  induction l with
  | nil => cases h
  | cons a l ih =>
    obtain ⟨k, v⟩ := a
    rw [List.lookup_cons] at h
    by_cases e : c = k
    · subst e
      simp at h
      rw [h]; exact List.mem_cons_self
    · have : (c == k) = false := by simpa using e
      rw [this] at h
      exact List.mem_cons_of_mem _ (ih h)
theorem binds_dfl {K : PySem.W.Frag} {fd : FuncData} {ps : List Str} {T : Addr} {o : Obj} {its : Array Value} {n : Nat} (lT : K.lookup T = some o) (oT : o.data = .seq its n)
    (h : ∀ us : List Value, us.length = ps.length → ∃ k, bindArgs fd ⟨us, []⟩ = seqItems? (.ref T) >>= k ∧ k (some its) = pure (ps.zip us)) : Binds K fd ps [] := fun s us X hl => by
  rw [List.append_nil] at hl ⊢
  obtain ⟨k, e1, e2⟩ := h us hl
  exact BindsTo.of_looks fun M => by
    rw [e1]
    exact looks_items X lT oT (by rw [e2]; exact PySem.W.Looks.of_pure rfl)
/-- isinstance of the handled exception, in the def that names it -/
theorem cm_isiW {X : Cx} {ad : Ad} {p : Addr × Obj} {c : Nat} {is : List Nat} (C : ExcC X.K (ad.fn c)) (hp : p ∈ X.pn) (hc : p.2.cls = .ref (ad.fn c)) (hdi : p.2.dict = none) (hf : ∃ vs, p.2.data = .fields vs)
    (hs : ∀ i ∈ is, PySem.W.kitOne X.K (.ref (ad.fn c)) (.ref (ad.fn i)) = some (i == c)) : CallMA X (exAd ad p.1) (.builtin "isinstance") (fIsiE (subT is c)) :=
  cm_isiE (oe := p.2) (D := ad.fn c) C (by show (exAd ad p.1 |>.fn EXC, p.2) ∈ X.pn; rw [show (exAd ad p.1).fn EXC = p.1 from (by show (if EXC = EXC then p.1 else ad.fn EXC) = p.1; exact if_pos rfl)]; exact hp) hc hdi hf fun i b h => by
    unfold subT at h
    split at h
    · rename_i hi
      cases h
      rw [exAd_fn hi.2]
      exact hs i hi.1
    · cases h
end Mi

/-! MiBin: + - .. with an instance of an own class at one side. -/
namespace Mi
open PySem PySem.Spec PySem.Calls PyProof.Rows PySem.W
variable {prog : Program} {w : World} {M : Model} {A : Around} {E : Value → Shared → Prop} {s : Shared} {K : Frag} {x C L f : Addr} {h₀ : Heap} {m : Str → Option Value} {ox : Obj} {od : Option Obj} {nm T : String}
/-- instance op value of a built-in type, which the heap may tell -/
theorem bin_left {op : Operator} {b : Value} {fo ro rc : Option Value} {Q : Value → Shared → Prop} (F : Fr h₀ L s.heap m) (X₀ : K.In h₀) (I : InstAt s.heap x ox C od) (hb : Looks (model prog w) s.heap (typeOf b) (.type T)) (hc : selfFirst K C = true)
    (hs : findIn K (.ref C) (PySem.dunder op.info.2) = some (some (.ref f))) (hf : isFn K (.ref f) = true) (hr : findIn K (.ref C) (dunderR op.info.2) = some rc) (hp : rc = none ∨ ∃ g : Addr, rc = some (.ref g))
    (h1 : findIn K (.type T) (PySem.dunder op.info.2) = some fo) (h2 : findIn K (.type T) (dunderR op.info.2) = some ro) (hsub : subIn K (.type T) (.ref C) = some false)
    (h : wpAny (model prog w) A (call (.ref f) [.ref x, b]) (PySem.W.CmpBack Q) E s) : wpAny (model prog w) A (binaryOp op (.ref x) b) Q E s := by
  have X := X₀.keeps F.keep
  obtain ⟨cd, rest, hcd, hm⟩ := ksp_first hc
  rcases hi : op.info with ⟨sym, nm'⟩
  rw [hi] at hs hr h1 h2
  dsimp only at hs hr h1 h2
  have one := ksp_try X I hs hf h
  obtain ⟨hh, g, d, tt, os⟩ := s
  have L1 : Looks (model prog w) hh (typeOf (.ref x)) (.ref C) := I.type
  have L2 : Looks (model prog w) hh (typeOf b) (.type T) := hb
  have L3 : Looks (model prog w) hh (fillsNumberSlot (.ref C) nm') true := fills_K X hcd hm hs
  have L4 : Looks (model prog w) hh (fillsNumberSlot (.type T) nm') ((fo.isSome && !isSeqSlot fo) || (ro.isSome && !isSeqSlot ro)) := ksp_fillsT X h1 h2
  have L5 : Looks (model prog w) hh (isSubtype (.type T) (.ref C)) false := looks_subIn X hsub
  have L6 : Looks (model prog w) hh (numberSlotInPython (.ref C) nm') true := ksp_inPy X hs hr hp
  have L7 : Looks (model prog w) hh (numberSlotInPython (.type T) nm') false := Looks.of_pure rfl
  have L8 : Looks (model prog w) hh (typeLookup (.type T) (dunderR nm')) ro := looks_findIn X h2
  generalize ((fo.isSome && !isSeqSlot fo) || (ro.isSome && !isSeqSlot ro)) = right at L4
  have hne : (Value.ref C == Value.type T) = false := Bool.eq_false_iff.mpr fun q => by cases beq_iff_eq.mp q
  simp only [binaryOp, hi]
  refine wpAny_holding (wpAny_bind ?_)
  unfold binaryOp1
  refine wpAny_bind (L1.at (wpAny_bind (L2.at (wpAny_bind (L3.at ?_)))))
  simp only [hne, Bool.false_eq_true, if_false]
  cases right with
  | false =>
    ksp_lk
    refine wpAny_mono one (fun r s' hr' => ?_) fun _ _ e => e
    obtain ⟨v, rfl, hq⟩ := hr'
    ksp_lk
    exact hq
  | true =>
    ksp_lk
    refine wpAny_mono one (fun r s' hr' => ?_) fun _ _ e => e
    obtain ⟨v, rfl, hq⟩ := hr'
    ksp_lk
    exact hq
/-- value of a built-in type without such a slot op instance -/
theorem bin_right {op : Operator} {b : Value} {fo ro : Option Value} {Q : Value → Shared → Prop} (F : Fr h₀ L s.heap m) (X₀ : K.In h₀) (I : InstAt s.heap x ox C od) (hb : Looks (model prog w) s.heap (typeOf b) (.type T)) (hc : selfFirst K C = true) {g : Addr}
    (hs : findIn K (.ref C) (PySem.dunder op.info.2) = some (some (.ref g))) (hr : findIn K (.ref C) (dunderR op.info.2) = some (some (.ref f))) (hf : isFn K (.ref f) = true)
    (h1 : findIn K (.type T) (PySem.dunder op.info.2) = some fo) (h2 : findIn K (.type T) (dunderR op.info.2) = some ro) (hno : ((fo.isSome && !isSeqSlot fo) || (ro.isSome && !isSeqSlot ro)) = false)
    (h : wpAny (model prog w) A (call (.ref f) [.ref x, b]) (PySem.W.CmpBack Q) E s) : wpAny (model prog w) A (binaryOp op b (.ref x)) Q E s := by
  have X := X₀.keeps F.keep
  obtain ⟨cd, rest, hcd, hm⟩ := ksp_first hc
  rcases hi : op.info with ⟨sym, nm'⟩
  rw [hi] at hs hr h1 h2
  dsimp only at hs hr h1 h2
  have one := ksp_try X I hr hf h
  obtain ⟨hh, g', d, tt, os⟩ := s
  have L1 : Looks (model prog w) hh (typeOf (.ref x)) (.ref C) := I.type
  have L2 : Looks (model prog w) hh (typeOf b) (.type T) := hb
  have L3 : Looks (model prog w) hh (fillsNumberSlot (.ref C) nm') true := fills_K X hcd hm hs
  have L4 : Looks (model prog w) hh (fillsNumberSlot (.type T) nm') false := by
    have := ksp_fillsT (M := model prog w) X h1 h2
    rwa [hno] at this
  have hne : (Value.type T == Value.ref C) = false := Bool.eq_false_iff.mpr fun q => by cases beq_iff_eq.mp q
  simp only [binaryOp, hi]
  refine wpAny_holding (wpAny_bind ?_)
  unfold binaryOp1
  refine wpAny_bind (L2.at (wpAny_bind (L1.at (wpAny_bind (L4.at ?_)))))
  simp only [hne, Bool.false_eq_true, if_false]
  ksp_lk
  refine wpAny_mono one (fun r s' hr' => ?_) fun _ _ e => e
  obtain ⟨v, rfl, hq⟩ := hr'
  ksp_lk
  exact hq
/-- value of a built-in type whose own method declines op instance -/
theorem bin_right2 {op : Operator} {b : Value} {fo ro : Option Value} {Q : Value → Shared → Prop} (F : Fr h₀ L s.heap m) (X₀ : K.In h₀) (I : InstAt s.heap x ox C od) (hb : Looks (model prog w) s.heap (typeOf b) (.type T)) (hc : selfFirst K C = true) {g : Addr}
    (hs : findIn K (.ref C) (PySem.dunder op.info.2) = some (some (.ref g))) (hr : findIn K (.ref C) (dunderR op.info.2) = some (some (.ref f))) (hf : isFn K (.ref f) = true)
    (h1 : findIn K (.type T) (PySem.dunder op.info.2) = some fo) (h2 : findIn K (.type T) (dunderR op.info.2) = some ro) (hyes : ((fo.isSome && !isSeqSlot fo) || (ro.isSome && !isSeqSlot ro)) = true) (hsub : subIn K (.ref C) (.type T) = some false)
    (hdec : ∀ R : Option Value → Shared → Prop, R none s → wpAny (model prog w) A (tryMethod b (PySem.dunder op.info.2) (.ref x)) R E s)
    (h : wpAny (model prog w) A (call (.ref f) [.ref x, b]) (PySem.W.CmpBack Q) E s) : wpAny (model prog w) A (binaryOp op b (.ref x)) Q E s := by
  have X := X₀.keeps F.keep
  obtain ⟨cd, rest, hcd, hm⟩ := ksp_first hc
  rcases hi : op.info with ⟨sym, nm'⟩
  rw [hi] at hs hr h1 h2 hdec
  dsimp only at hs hr h1 h2 hdec
  have one := ksp_try X I hr hf h
  obtain ⟨hh, g', d, tt, os⟩ := s
  have L1 : Looks (model prog w) hh (typeOf (.ref x)) (.ref C) := I.type
  have L2 : Looks (model prog w) hh (typeOf b) (.type T) := hb
  have L3 : Looks (model prog w) hh (fillsNumberSlot (.ref C) nm') true := fills_K X hcd hm hs
  have L4 : Looks (model prog w) hh (fillsNumberSlot (.type T) nm') true := by
    have := ksp_fillsT (M := model prog w) X h1 h2
    rwa [hyes] at this
  have L5 : Looks (model prog w) hh (isSubtype (.ref C) (.type T)) false := looks_subIn X hsub
  have L7 : Looks (model prog w) hh (numberSlotInPython (.type T) nm') false := Looks.of_pure rfl
  have hne : (Value.type T == Value.ref C) = false := Bool.eq_false_iff.mpr fun q => by cases beq_iff_eq.mp q
  simp only [binaryOp, hi]
  refine wpAny_holding (wpAny_bind ?_)
  unfold binaryOp1
  refine wpAny_bind (L2.at (wpAny_bind (L1.at (wpAny_bind (L4.at ?_)))))
  simp only [hne, Bool.false_eq_true, if_false]
  ksp_lk
  refine hdec _ ?_
  ksp_lk
  refine wpAny_mono one (fun r s' hr' => ?_) fun _ _ e => e
  obtain ⟨v, rfl, hq⟩ := hr'
  ksp_lk
  exact hq
end Mi
namespace Mi
open PySem L2 PySem.Spec PyProof.Rows
abbrev binTys : List String := ["NoneType", "bool", "int", "str", "tuple", "list", "dict"]
/-- what is asked of an own class's method for an operator (d: its name, dr: the right one's) -/
structure BinO (K : PySem.W.Frag) (C f : Addr) (d dr : Str) : Prop where
  first : PySem.W.selfFirst K C = true
  at_ : PySem.W.findIn K (.ref C) d = some (some (.ref f))
  fn : PySem.W.isFn K (.ref f) = true
  rf : ∃ rc, PySem.W.findIn K (.ref C) dr = some rc ∧ (rc = none ∨ ∃ g : Addr, rc = some (.ref g))
  ty : ∀ n ∈ binTys, (∃ fo, PySem.W.findIn K (.type n) d = some fo) ∧ (∃ ro, PySem.W.findIn K (.type n) dr = some ro) ∧ PySem.W.subIn K (.type n) (.ref C) = some false
def mBinO (c : Nat) (F : List T → Sto → R T) (ma mb : M T) : M T := fun ρ st => (ma ρ st).bind fun x st1 => (mb ρ st1).bind fun y st2 => match insAt st2 c x with
  | some _ => match insAt st2 c y with
    | some _ => F [x, y] st2
    | none => match tyName st2 y with
      | some n => if n ∈ binTys then F [x, y] st2 else .bad
      | none => .bad
  | none => .bad
section
variable {X : Cx} {ad : Ad} {W : WX} {pos : Pos} {k c : Nat} {fa : Addr} {fd : FuncData} {ps : List Str} {F : List T → Sto → R T}
theorem pm_binO {op : Operator} {a b : Expr} {ma mb : M T} (ha : PM X ad W a ma) (hb : PM X ad W b mb) (B : BinO X.K (ad.fn c) fa (PySem.dunder op.info.2) (dunderR op.info.2))
    (G : GnOk X.prog X.w X.K X.mg X.base k fa fd ps (spF X.K ad 2 F)) (S : Sit X W k) (hbi : Binds X.K fd ps []) : PM X ad W (.BinOp a op b pos) (mBinO c F ma mb) := by
  constructor
  intro pins s σ H Q I ⟨hd, ρ, as, st, A, E, q⟩
  refine wpAny_BinOp (binT (R := fun x y H2 => ∃ a dx fs, x = V.ref a ∧ H2 a = some (.ins (ad.fn c) dx fs) ∧ ((∃ b dy gs, y = V.ref b ∧ H2 b = some (.ins (ad.fn c) dy gs)) ∨ ∃ n ∈ binTys, TyX X.K H2 y (.type n)) ∧ spF X.K ad 2 F [x, y] H2 Q fun u d H' => W u d σ H') ha hb I
    ⟨hd, ρ, as, st, A, E, Post.step q fun x st1 as1 H1 vx A1 e1 r1 q1 => ⟨hd, ρ, as1, st1, A1, E.ext e1, Post.step q1 fun y st2 as2 H2 vy A2 e2 r2 q2 => ?_⟩⟩ fun v u s2 x y H2 I2 rx ry hr => ?_)
  · split at q2
    · rename_i p1 ex
      obtain ⟨i, fi⟩ := p1
      have r1' := r1.ext e2
      obtain ⟨a, dx, gs, rfl, _, _, ea, _⟩ := r1'.ins A2 ex
      split at q2
      · rename_i p2 ey
        obtain ⟨j, fj⟩ := p2
        obtain ⟨b, dy, gs', rfl, _, _, eb, _⟩ := r2.ins A2 ey
        exact ⟨a, dx, gs, rfl, ea, .inl ⟨b, dy, gs', rfl, eb⟩, rfl, hd, as2, st2, _, A2, .cons r1' (.cons r2 .nil), q2⟩
      · split at q2
        · rename_i n en
          split at q2
          · rename_i hn
            exact ⟨a, dx, gs, rfl, ea, .inr ⟨n, hn, r2.tyX A2 en⟩, rfl, hd, as2, st2, _, A2, .cons r1' (.cons r2 .nil), q2⟩
          · exact q2.elim
        · exact q2.elim
    · exact q2.elim
  · obtain ⟨a, dx, fs, rfl, ea, hy, hsp⟩ := hr
    obtain rfl : v = Value.ref a := rx
    obtain ⟨mA, O, _⟩ := ins_get I2.hok ea
    obtain ⟨od, J, _⟩ := O.look
    obtain ⟨mm, hF⟩ := I2.fr
    have fin : wpAny (model X.prog X.w) X.A (call (.ref fa) [.ref a, u]) (PySem.W.CmpBack (EP X pins σ Q)) X.xe s2 :=
      wpAny_mono (run_gn (us := [.ref a, u]) (vs := [.ref a, y]) G S hbi I2 (.cons rfl (.cons ry .nil)) hsp) (fun v s' z => by
        obtain ⟨z, H', I', rz, q⟩ := z
        exact SlX.cmpback rz ⟨z, H', I', rz, q⟩) fun _ _ x => x
    rcases hy with ⟨b, dy, gs, rfl, eb⟩ | ⟨n, hn, ty⟩
    · obtain rfl : u = Value.ref b := ry
      obtain ⟨mB, O', _⟩ := ins_get I2.hok eb
      obtain ⟨od', J', _⟩ := O'.look
      exact PySem.W.binop_K hF I2.ok.mod.kin J J'.type B.first B.at_ B.fn fin
    · obtain ⟨P, Z, hP, _⟩ := kit_of I2 ry ty
      obtain ⟨rc, hr1, hr2⟩ := B.rf
      obtain ⟨⟨fo, h1⟩, ⟨ro, h2⟩, h3⟩ := B.ty n hn
      exact bin_left hF I2.ok.mod.kin J (Z.ty _ _ I2.kIn hP) B.first B.at_ B.fn hr1 hr2 h1 h2 h3 fin
end
end Mi
namespace Mi
open PySem L2 PySem.Spec PyProof.Rows
abbrev binTysR : List String := ["NoneType", "str", "tuple", "list", "dict"]
/-- what is asked where the instance is the right one (d: the operator's name; f: the right one's method) -/
structure BinR (K : PySem.W.Frag) (C f : Addr) (d dr : Str) : Prop where
  first : PySem.W.selfFirst K C = true
  lf : ∃ g : Addr, PySem.W.findIn K (.ref C) d = some (some (.ref g))
  at_ : PySem.W.findIn K (.ref C) dr = some (some (.ref f))
  fn : PySem.W.isFn K (.ref f) = true
  ty : ∀ n ∈ binTysR, ∃ fo ro, PySem.W.findIn K (.type n) d = some fo ∧ PySem.W.findIn K (.type n) dr = some ro ∧ ((fo.isSome && !isSeqSlot fo) || (ro.isSome && !isSeqSlot ro)) = false
def mBinR (c : Nat) (F : List T → Sto → R T) (ma mb : M T) : M T := fun ρ st => (ma ρ st).bind fun x st1 => (mb ρ st1).bind fun y st2 => match insAt st2 c y with
  | some _ => match tyName st2 x with
    | some n => if n ∈ binTysR then F [y, x] st2 else .bad
    | none => .bad
  | none => .bad
section
variable {X : Cx} {ad : Ad} {W : WX} {pos : Pos} {k c : Nat} {fa : Addr} {fd : FuncData} {ps : List Str} {F : List T → Sto → R T}
theorem pm_binR {op : Operator} {a b : Expr} {ma mb : M T} (ha : PM X ad W a ma) (hb : PM X ad W b mb) (B : BinR X.K (ad.fn c) fa (PySem.dunder op.info.2) (dunderR op.info.2))
    (G : GnOk X.prog X.w X.K X.mg X.base k fa fd ps (spF X.K ad 2 F)) (S : Sit X W k) (hbi : Binds X.K fd ps []) : PM X ad W (.BinOp a op b pos) (mBinR c F ma mb) := by
  constructor
  intro pins s σ H Q I ⟨hd, ρ, as, st, A, E, q⟩
  refine wpAny_BinOp (binT (R := fun x y H2 => ∃ b dy gs, y = V.ref b ∧ H2 b = some (.ins (ad.fn c) dy gs) ∧ (∃ n ∈ binTysR, TyX X.K H2 x (.type n)) ∧ spF X.K ad 2 F [y, x] H2 Q fun u d H' => W u d σ H') ha hb I
    ⟨hd, ρ, as, st, A, E, Post.step q fun x st1 as1 H1 vx A1 e1 r1 q1 => ⟨hd, ρ, as1, st1, A1, E.ext e1, Post.step q1 fun y st2 as2 H2 vy A2 e2 r2 q2 => ?_⟩⟩ fun v u s2 x y H2 I2 rx ry hr => ?_)
  · split at q2
    · rename_i p1 ey
      obtain ⟨i, fi⟩ := p1
      have r1' := r1.ext e2
      obtain ⟨b, dy, gs, rfl, _, _, eb, _⟩ := r2.ins A2 ey
      split at q2
      · rename_i n en
        split at q2
        · rename_i hn
          exact ⟨b, dy, gs, rfl, eb, ⟨n, hn, r1'.tyX A2 en⟩, rfl, hd, as2, st2, _, A2, .cons r2 (.cons r1' .nil), q2⟩
        · exact q2.elim
      · exact q2.elim
    · exact q2.elim
  · obtain ⟨b, dy, gs, rfl, eb, ⟨n, hn, ty⟩, hsp⟩ := hr
    obtain rfl : u = Value.ref b := ry
    obtain ⟨mA, O, _⟩ := ins_get I2.hok eb
    obtain ⟨od, J, _⟩ := O.look
    obtain ⟨mm, hF⟩ := I2.fr
    have fin : wpAny (model X.prog X.w) X.A (call (.ref fa) [.ref b, v]) (PySem.W.CmpBack (EP X pins σ Q)) X.xe s2 :=
      wpAny_mono (run_gn (us := [.ref b, v]) (vs := [.ref b, x]) G S hbi I2 (.cons rfl (.cons rx .nil)) hsp) (fun v s' z => by
        obtain ⟨z, H', I', rz, q⟩ := z
        exact SlX.cmpback rz ⟨z, H', I', rz, q⟩) fun _ _ x => x
    obtain ⟨P, Z, hP, _⟩ := kit_of I2 rx ty
    obtain ⟨g, hg⟩ := B.lf
    obtain ⟨fo, ro, h1, h2, h3⟩ := B.ty n hn
    exact bin_right hF I2.ok.mod.kin J (Z.ty _ _ I2.kIn hP) B.first hg B.at_ B.fn h1 h2 h3 fin
end
end Mi

/-! MiBin2: int, bool op instance; x op= y without an own method for it; != by an own __eq__; == where there is none. -/
namespace Mi
open PySem PySem.Spec PySem.Calls PyProof.Rows PySem.W
section
variable {prog : Program} {w : World} {M : Model} {A : Around} {E : Value → Shared → Prop} {s : Shared} {K : Frag} {x dx C L f : Addr} {h₀ : Heap} {m : Str → Option Value} {ox : Obj} {od : Option Obj} {nm T : String}
theorem givesAt_int_add_inst {i : Int} {t : Tok} : GivesAt (fun s => s.heap.get? x = some (instObj C dx)) (Builtin.«int.__add__» ⟨[.int i t, .ref x], []⟩) (.val Value.notImplemented) := by
  intro prog w A R s ho h
  obtain ⟨hp, g, d, tk, os⟩ := s
  wp_walk
  exact h
theorem givesAt_bool_add_inst {b : Bool} : GivesAt (fun s => s.heap.get? x = some (instObj C dx)) (Builtin.«int.__add__» ⟨[.bool b, .ref x], []⟩) (.val Value.notImplemented) := by
  intro prog w A R s ho h
  obtain ⟨hp, g, d, tk, os⟩ := s
  wp_walk
  exact h
theorem try_int_add_inst {i : Int} {t : Tok} {R : Option Value → Shared → Prop} (ho : s.heap.get? x = some (instObj C dx)) (h : R none s) : wpAny (model prog w) A (tryMethod (.int i t) (PySem.dunder "add") (.ref x)) R E s :=
  wpAny_tryMethod_declines (typeIs_int s i t) F.slot_int_add (call_givesAt F.slot_int_add (typeIs_int s i t) F.entry_int_add (F.args_int_add_2 _ _) givesAt_int_add_inst ho ⟨rfl, h⟩)
theorem try_bool_add_inst {b : Bool} {R : Option Value → Shared → Prop} (ho : s.heap.get? x = some (instObj C dx)) (h : R none s) : wpAny (model prog w) A (tryMethod (.bool b) (PySem.dunder "add") (.ref x)) R E s :=
  wpAny_tryMethod_declines (PySem.typeIs_bool s b) F.slot_bool_add (call_givesAt F.slot_bool_add (PySem.typeIs_bool s b) F.entry_int_add (F.args_int_add_2 _ _) givesAt_bool_add_inst ho ⟨rfl, h⟩)
/-! != by an own __eq__ -/
theorem bind_object_ne (self : Value) : bindSpecial (.builtin "object.__ne__") self = pure (.builtin "object.__ne__", [self]) := F.slot_object_ne.bind self
theorem bk_object_ne : builtinKind "object.__ne__" = some .slot := by decide +kernel
theorem sp_object_ne : splitId "object.__ne__" = some ("object", "__ne__") := by decide +kernel
theorem call_object_ne {b : Value} {Q : Value → Shared → Prop} (X : K.In s.heap) (I : InstAt s.heap x ox C od) (hsub : subIn K (.ref C) (.type "object") = some true) (hu : A.in1.units < cLine)
    (hs : findIn K (.ref C) "__eq__" = some (some (.ref f))) (hf : isFn K (.ref f) = true)
    (h : wpAny (model prog w) A.in1 (call (.ref f) [.ref x, b]) (fun v s' => ∃ r, v = .bool r ∧ Q (.bool (!r)) s') E s) : wpAny (model prog w) A (call (.builtin "object.__ne__") [.ref x, b]) Q E s := by
  refine wpAny_call (codeAny_call_builtin F.slot_object_ne.plain F.entry_object_ne ?_)
  simp only [checkBuiltinCall, bk_object_ne, sp_object_ne]
  unfold isInstance
  refine wpAny_bind (wpAny_bind (I.type.here ((looks_subIn X hsub).here ?_)))
  simp only [Bool.not_true, Bool.false_eq_true, if_false]
  have body : wpAny (model prog w) A.in1 (Builtin.«object.__ne__» ⟨[.ref x, b], []⟩) (fun fin s' => match fin with | .done f => (fun (r : Result) (s' : Shared) => match r with | .ok (.ret v) => Q v s' | .ok _ => False | .error e => E e s') (.ok f) s' | .again c' => c'.quiet = true ∧ codeAny (model prog w) A c' (fun (r : Result) (s' : Shared) => match r with | .ok (.ret v) => Q v s' | .ok _ => False | .error e => E e s') s') (fun e s' => E e s') s := by
    unfold Builtin.«object.__ne__»
    refine wpAny_bind ?_
    unfold slotArgs
    refine wpAny_bind (wpAny_pure ?_)
    refine wpAny_pure ?_
    refine wpAny_bind (wpAny_cRoomFor hu ?_)
    refine wpAny_bind (ifBound_K X I hs hf (wpAny_mono h (fun v s' z => ?_) fun _ _ e => e))
    obtain ⟨r, rfl, hq⟩ := z
    refine wpAny_bind (wpAny_pure ?_)
    exact wpAny_pure hq
  cases hsig : Manifest.signature? "object.__ne__" with
  | none => exact wpAny_pure body
  | some sig =>
    have ha := F.args_object_ne_2 (.ref x) b
    simp only [argsOk, hsig] at ha
    have h2 : Bind.checkArgs "object.__ne__" sig ⟨[.ref x, b], []⟩ = pure () := ha
    show wpAny _ _ (Bind.checkArgs "object.__ne__" sig ⟨[.ref x, b], []⟩) _ _ _
    rw [h2]
    exact wpAny_pure body
theorem ifBound_B {id : String} {name : Str} {args : List Value} {Q : Option Value → Shared → Prop} (X : K.In s.heap) (I : InstAt s.heap x ox C od) (hs : findIn K (.ref C) name = some (some (.builtin id))) (hb : ∀ self, bindSpecial (.builtin id) self = pure (.builtin id, [self]))
    (h : wpAny M A (call (.builtin id) (.ref x :: args)) (fun v => Q (some v)) E s) : wpAny M A (callSpecialIfBound? (.ref x) name args) Q E s := by
  simp only [callSpecialIfBound?, bindSpecialIfBound?]
  refine wpAny_holding (wpAny_bind (wpAny_bind (wpAny_bind (I.type.here ((looks_findIn X hs).here ?_)))))
  refine wpAny_bind (wpAny_askSetting (wpAny_ite ?_))
  have fin : wpAny M A (call (.builtin id) ([.ref x] ++ args) >>= fun v => pure (some v)) Q E s := wpAny_bind (wpAny_mono h (fun v s' h' => wpAny_pure h') fun _ _ h' => h')
  split
  · refine wpAny_bind ?_
    rw [hb]
    exact wpAny_pure (wpAny_pure (by exact fin))
  · refine wpAny_tryCatch (wpAny_bind ?_)
    rw [hb]
    exact wpAny_pure (wpAny_pure (by exact fin))
theorem ne_K {b tb : Value} {Q : Value → Shared → Prop} (hu : A.in1.units < cLine) (F : Fr h₀ L s.heap m) (X₀ : K.In h₀) (I : InstAt s.heap x ox C od) (hb : Looks (model prog w) s.heap (typeOf b) tb) (hn : notFirst K C tb = true)
    (hne : findIn K (.ref C) "__ne__" = some (some (.builtin "object.__ne__"))) (hsub : subIn K (.ref C) (.type "object") = some true) (hs : findIn K (.ref C) "__eq__" = some (some (.ref f))) (hf : isFn K (.ref f) = true)
    (h : wpAny (model prog w) A.in1 (call (.ref f) [.ref x, b]) (fun v s' => ∃ r, v = .bool r ∧ Q (.bool (!r)) s') E s) : wpAny (model prog w) A (richCompare .NotEq (.ref x) b) Q E s := by
  have X := X₀.keeps F.keep
  have hu0 : A.units < cLine := Nat.lt_of_le_of_lt (Nat.le_add_right _ _) hu
  have one : wpAny (model prog w) A (tryCompare (.ref x) "__ne__" b) (fun r s' => ∃ v, r = some v ∧ Q v s') E s := by
    unfold tryCompare
    refine wpAny_bind (ifBound_B X I hne bind_object_ne (call_object_ne X I hsub hu hs hf (wpAny_mono h (fun v s' hv => ?_) fun _ _ e => e)))
    obtain ⟨r, rfl, hq⟩ := hv
    exact ⟨r, rfl, wpAny_pure ⟨_, rfl, hq⟩⟩
  unfold richCompare
  simp only [oneThing_ref]
  refine wpAny_holding (wpAny_bind (wpAny_cRoomFor hu0 ?_))
  refine wpAny_bind (I.type.here (wpAny_bind (hb.here ?_)))
  split
  · rename_i q
    have e : subIn K tb (.ref C) = some false := by
      rcases Bool.or_eq_true_iff.mp hn with e | e
      · rw [beq_iff_eq.mp e] at q; simp at q
      · exact beq_iff_eq.mp e
    refine wpAny_bind ((looks_subIn X e).here ?_)
    simp only [Bool.false_eq_true, if_false]
    refine wpAny_bind (wpAny_mono one (fun r s' z => ?_) fun _ _ e => e)
    obtain ⟨v, rfl, hq⟩ := z
    exact wpAny_pure hq
  · refine wpAny_bind (wpAny_pure ?_)
    simp only [Bool.false_eq_true, if_false]
    refine wpAny_bind (wpAny_mono one (fun r s' z => ?_) fun _ _ e => e)
    obtain ⟨v, rfl, hq⟩ := z
    exact wpAny_pure hq
/-! == of instances whose class has none of its own -/
theorem bind_object_eq (self : Value) : bindSpecial (.builtin "object.__eq__") self = pure (.builtin "object.__eq__", [self]) := F.slot_object_eq.bind self
theorem bk_object_eq : builtinKind "object.__eq__" = some .slot := by decide +kernel
theorem sp_object_eq : splitId "object.__eq__" = some ("object", "__eq__") := by decide +kernel
theorem same_inst {y dy D : Addr} {Q : Bool → Shared → Prop} (hx : s.heap.get? x = some (instObj C dx)) (hy : s.heap.get? y = some (instObj D dy)) (h : Q (x == y) s) : wpAny M A (isSame (.ref x) (.ref y)) Q E s := by
  unfold isSame
  by_cases e : (x == y) = true
  · simp only [e, if_true]
    rw [e] at h
    exact wpAny_pure h
  · have e' : (x == y) = false := by simpa using e
    simp only [e', Bool.false_eq_true, if_false]
    rw [e'] at h
    obtain ⟨hp, g, d, tk, os⟩ := s
    refine wpAny_bind (wpAny_load' hx ?_)
    refine wpAny_bind (wpAny_load' hy ?_)
    exact wpAny_pure h
theorem call_object_eq {y dy D : Addr} {Q : Value → Shared → Prop} (X : K.In s.heap) (I : InstAt s.heap x (instObj C dx) C od) (hsub : subIn K (.ref C) (.type "object") = some true) (hy : s.heap.get? y = some (instObj D dy))
    (h : Q (if (x == y) = true then .bool true else .notImplemented) s) : wpAny (model prog w) A (call (.builtin "object.__eq__") [.ref x, .ref y]) Q E s := by
  refine wpAny_call (codeAny_call_builtin F.slot_object_eq.plain F.entry_object_eq ?_)
  simp only [checkBuiltinCall, bk_object_eq, sp_object_eq]
  unfold isInstance
  refine wpAny_bind (wpAny_bind (I.type.here ((looks_subIn X hsub).here ?_)))
  simp only [Bool.not_true, Bool.false_eq_true, if_false]
  have body : wpAny (model prog w) A.in1 (Builtin.«object.__eq__» ⟨[.ref x, .ref y], []⟩) (fun fin s' => match fin with | .done f => (fun (r : Result) (s' : Shared) => match r with | .ok (.ret v) => Q v s' | .ok _ => False | .error e => E e s') (.ok f) s' | .again c' => c'.quiet = true ∧ codeAny (model prog w) A c' (fun (r : Result) (s' : Shared) => match r with | .ok (.ret v) => Q v s' | .ok _ => False | .error e => E e s') s') (fun e s' => E e s') s := by
    unfold Builtin.«object.__eq__»
    refine wpAny_bind ?_
    unfold slotArgs
    refine wpAny_bind (wpAny_pure ?_)
    refine wpAny_pure ?_
    refine wpAny_bind (same_inst I.at_ hy ?_)
    by_cases e : (x == y) = true
    · rw [if_pos e] at h ⊢
      exact wpAny_pure h
    · rw [if_neg e] at h ⊢
      exact wpAny_pure h
  cases hsig : Manifest.signature? "object.__eq__" with
  | none => exact wpAny_pure body
  | some sig =>
    have ha := F.args_object_eq_2 (.ref x) (.ref y)
    simp only [argsOk, hsig] at ha
    have h2 : Bind.checkArgs "object.__eq__" sig ⟨[.ref x, .ref y], []⟩ = pure () := ha
    show wpAny _ _ (Bind.checkArgs "object.__eq__" sig ⟨[.ref x, .ref y], []⟩) _ _ _
    rw [h2]
    exact wpAny_pure body
theorem eqI_K {y dy : Addr} {od' : Option Obj} {Q : Value → Shared → Prop} (hu0 : A.units < cLine) (F : Fr h₀ L s.heap m) (X₀ : K.In h₀) (I : InstAt s.heap x (instObj C dx) C od) (J : InstAt s.heap y (instObj C dy) C od')
    (heq : findIn K (.ref C) "__eq__" = some (some (.builtin "object.__eq__"))) (hsub : subIn K (.ref C) (.type "object") = some true)
    (h : Q (.bool (x == y)) s) : wpAny (model prog w) A (richCompare .Eq (.ref x) (.ref y)) Q E s := by
  have X := X₀.keeps F.keep
  have one : ∀ {a b da db : Addr} {oa ob : Option Obj} {R : Option Value → Shared → Prop}, InstAt s.heap a (instObj C da) C oa → InstAt s.heap b (instObj C db) C ob → R (if (a == b) = true then some (.bool true) else none) s → wpAny (model prog w) A (tryCompare (.ref a) "__eq__" (.ref b)) R E s := by
    intro a b da db oa ob R Ia Ib hR
    unfold tryCompare
    refine wpAny_bind (ifBound_B X Ia heq bind_object_eq (call_object_eq X Ia hsub Ib.at_ ?_))
    by_cases e : (a == b) = true
    · rw [if_pos e] at hR ⊢
      exact wpAny_pure hR
    · rw [if_neg e] at hR ⊢
      exact wpAny_pure hR
  unfold richCompare
  simp only [oneThing_ref]
  refine wpAny_holding (wpAny_bind (wpAny_cRoomFor hu0 ?_))
  refine wpAny_bind (I.type.here (wpAny_bind (J.type.here ?_)))
  have hne : (Value.ref C != Value.ref C) = false := by simp
  simp only [hne, Bool.false_eq_true, if_false]
  refine wpAny_bind (wpAny_pure ?_)
  simp only [Bool.false_eq_true, if_false]
  refine wpAny_bind (one I J ?_)
  by_cases e : (x == y) = true
  · rw [e] at h
    rw [if_pos e]
    exact wpAny_pure h
  · have e' : (x == y) = false := by simpa using e
    rw [e'] at h
    rw [if_neg e]
    simp only [Bool.not_false, if_true]
    refine wpAny_bind (one J I ?_)
    have e2 : ¬ (y == x) = true := by
      intro q
      exact e (beq_iff_eq.mpr (beq_iff_eq.mp q).symm)
    rw [if_neg e2]
    refine wpAny_bind (wpAny_rule ?_)
    refine wpAny_bind (same_inst I.at_ J.at_ ?_)
    rw [e']
    exact wpAny_pure h
end
end Mi
namespace Mi
open PySem PySem.Spec PySem.Calls PyProof.Rows PySem.W
section
variable {prog : Program} {w : World} {M : Model} {A : Around} {E : Value → Shared → Prop} {s : Shared} {K : Frag} {x C L f : Addr} {h₀ : Heap} {m : Str → Option Value} {ox : Obj} {od : Option Obj} {nm T : String}
theorem bin1_left {b : Value} {fo ro rc : Option Value} {Q : Value → Shared → Prop} (F : Fr h₀ L s.heap m) (X₀ : K.In h₀) (I : InstAt s.heap x ox C od) (hb : Looks (model prog w) s.heap (typeOf b) (.type T)) (hc : selfFirst K C = true)
    (hs : findIn K (.ref C) (PySem.dunder nm) = some (some (.ref f))) (hf : isFn K (.ref f) = true) (hr : findIn K (.ref C) (dunderR nm) = some rc) (hp : rc = none ∨ ∃ g : Addr, rc = some (.ref g))
    (h1 : findIn K (.type T) (PySem.dunder nm) = some fo) (h2 : findIn K (.type T) (dunderR nm) = some ro) (hsub : subIn K (.type T) (.ref C) = some false)
    (h : wpAny (model prog w) A (call (.ref f) [.ref x, b]) (PySem.W.CmpBack Q) E s) : wpAny (model prog w) A (binaryOp1 nm (.ref x) b) (fun r s' => ∃ v, r = some v ∧ Q v s') E s := by
  have X := X₀.keeps F.keep
  obtain ⟨cd, rest, hcd, hm⟩ := ksp_first hc
  have one := ksp_try X I hs hf h
  obtain ⟨hh, g, d, tt, os⟩ := s
  have L1 : Looks (model prog w) hh (typeOf (.ref x)) (.ref C) := I.type
  have L2 : Looks (model prog w) hh (typeOf b) (.type T) := hb
  have L3 : Looks (model prog w) hh (fillsNumberSlot (.ref C) nm) true := fills_K X hcd hm hs
  have L4 : Looks (model prog w) hh (fillsNumberSlot (.type T) nm) ((fo.isSome && !isSeqSlot fo) || (ro.isSome && !isSeqSlot ro)) := ksp_fillsT X h1 h2
  have L5 : Looks (model prog w) hh (isSubtype (.type T) (.ref C)) false := looks_subIn X hsub
  have L6 : Looks (model prog w) hh (numberSlotInPython (.ref C) nm) true := ksp_inPy X hs hr hp
  have L7 : Looks (model prog w) hh (numberSlotInPython (.type T) nm) false := Looks.of_pure rfl
  have L8 : Looks (model prog w) hh (typeLookup (.type T) (dunderR nm)) ro := looks_findIn X h2
  generalize ((fo.isSome && !isSeqSlot fo) || (ro.isSome && !isSeqSlot ro)) = right at L4
  have hne : (Value.ref C == Value.type T) = false := Bool.eq_false_iff.mpr fun q => by cases beq_iff_eq.mp q
  unfold binaryOp1
  refine wpAny_bind (L1.at (wpAny_bind (L2.at (wpAny_bind (L3.at ?_)))))
  simp only [hne, Bool.false_eq_true, if_false]
  cases right with
  | false =>
    ksp_lk
    refine wpAny_mono one (fun r s' hr' => ?_) fun _ _ e => e
    obtain ⟨v, rfl, hq⟩ := hr'
    ksp_lk
    exact ⟨v, rfl, hq⟩
  | true =>
    ksp_lk
    refine wpAny_mono one (fun r s' hr' => ?_) fun _ _ e => e
    obtain ⟨v, rfl, hq⟩ := hr'
    ksp_lk
    exact ⟨v, rfl, hq⟩
/-- the class and object, and no more -/
def mroOne (K : Frag) (C : Addr) : Bool := (clsIn K C).any fun cd => cd.mro == [.ref C, .type "object"]
theorem noI {cd : ClassData} {add : Bool} {h : Heap} (X : K.In h) (hcd : clsIn K C = some cd) (hm : cd.mro = [.ref C, .type "object"]) (h1 : findIn K (.ref C) (dunderI nm) = some none) (h2 : findIn K (.type "object") (dunderI nm) = some none) : Looks M h (fillsInplaceSlot (.ref C) nm add) false := by
  intro A Q E s k q
  have Lm : Looks M h (mroOf (.ref C)) cd.mro := (looks_clsIn X hcd).andThen (f := fun cd => pure cd.mro) .now
  have Lm' := Lm.keeps k
  obtain ⟨hh, g, d, tt, os⟩ := s
  have X' : K.In hh := X.keeps k
  have L1 : Looks M hh (typeLookup (.ref C) (dunderI nm)) none := looks_findIn X' h1
  have L2 : Looks M hh (typeLookup (.type "object") (dunderI nm)) none := looks_findIn X' h2
  unfold fillsInplaceSlot
  refine wpAny_bind (Lm'.at ?_)
  rw [hm, List.anyM_cons, List.anyM_cons, List.anyM_nil]
  repeat lk
  exact q
theorem inplace_left {op : Operator} {b : Value} {fo ro rc : Option Value} {Q : Value → Shared → Prop} (F : Fr h₀ L s.heap m) (X₀ : K.In h₀) (I : InstAt s.heap x ox C od) (hb : Looks (model prog w) s.heap (typeOf b) (.type T)) (hc : mroOne K C = true)
    (hi : findIn K (.ref C) (dunderI op.info.2) = some none) (ho : findIn K (.type "object") (dunderI op.info.2) = some none)
    (hs : findIn K (.ref C) (PySem.dunder op.info.2) = some (some (.ref f))) (hf : isFn K (.ref f) = true) (hr : findIn K (.ref C) (dunderR op.info.2) = some rc) (hp : rc = none ∨ ∃ g : Addr, rc = some (.ref g))
    (h1 : findIn K (.type T) (PySem.dunder op.info.2) = some fo) (h2 : findIn K (.type T) (dunderR op.info.2) = some ro) (hsub : subIn K (.type T) (.ref C) = some false)
    (h : wpAny (model prog w) A (call (.ref f) [.ref x, b]) (PySem.W.CmpBack Q) E s) : wpAny (model prog w) A (inplaceOp op (.ref x) b) Q E s := by
  have X := X₀.keeps F.keep
  unfold mroOne at hc
  cases hcd : clsIn K C with
  | none => rw [hcd] at hc; cases hc
  | some cd =>
    rw [hcd] at hc
    have hm : cd.mro = [.ref C, .type "object"] := by simpa using hc
    have sf : selfFirst K C = true := by unfold selfFirst; rw [hcd]; simp [hm]
    have one := bin1_left (A := A) F X₀ I hb sf hs hf hr hp h1 h2 hsub h
    obtain ⟨hh, g, d, tt, os⟩ := s
    have L1 : Looks (model prog w) hh (typeOf (.ref x)) (.ref C) := I.type
    have L2 : Looks (model prog w) hh (fillsInplaceSlot (.ref C) op.info.2 (op == .Add)) false := noI X hcd hm hi ho
    unfold inplaceOp
    refine wpAny_holding ?_
    refine wpAny_bind (L1.at (wpAny_bind (L2.at ?_)))
    simp only [Bool.false_eq_true, if_false]
    refine wpAny_bind (wpAny_mono one (fun r s' hr' => ?_) fun _ _ e => e)
    obtain ⟨v, rfl, hq⟩ := hr'
    exact wpAny_pure hq
end
end Mi
namespace Mi
open PySem L2 PySem.Spec PyProof.Rows
/-- the instance is the right one of a +, at the left may be a number, too -/
structure BinRI (K : PySem.W.Frag) (C f : Addr) : Prop where
  base : BinR K C f "__add__" "__radd__"
  ti : ∀ n ∈ ["int", "bool"], ∃ fo ro, PySem.W.findIn K (.type n) "__add__" = some fo ∧ PySem.W.findIn K (.type n) "__radd__" = some ro ∧ ((fo.isSome && !isSeqSlot fo) || (ro.isSome && !isSeqSlot ro)) = true ∧ PySem.W.subIn K (.ref C) (.type n) = some false
def mBinRI (c : Nat) (F : List T → Sto → R T) (ma mb : M T) : M T := fun ρ st => (ma ρ st).bind fun x st1 => (mb ρ st1).bind fun y st2 => match insAt st2 c y with
  | some _ => match x with
    | .int _ => F [y, x] st2
    | .bl _ => F [y, x] st2
    | x => match tyName st2 x with
      | some n => if n ∈ binTysR then F [y, x] st2 else .bad
      | none => .bad
  | none => .bad
/-- == of an own class, the other one of any of some types -/
structure CmpO (K : PySem.W.Frag) (C f : Addr) : Prop where
  at_ : PySem.W.findIn K (.ref C) "__eq__" = some (some (.ref f))
  fn : PySem.W.isFn K (.ref f) = true
  ne : PySem.W.findIn K (.ref C) "__ne__" = some (some (.builtin "object.__ne__"))
  ob : PySem.W.subIn K (.ref C) (.type "object") = some true
  ty : ∀ n ∈ binTys, PySem.W.subIn K (.type n) (.ref C) = some false
def opEqO (c : Nat) (F : List T → Sto → R T) (x y : T) (st : Sto) : R T := match insAt st c x with
  | some _ => match insAt st c y with
    | some _ => noExc (F [x, y] st)
    | none => match tyName st y with
      | some n => if n ∈ binTys then noExc (F [x, y] st) else .bad
      | none => .bad
  | none => .bad
def negB (r : R T) : R T := r.bind fun t st => match t with
  | .bl b => .ok (.bl (!b)) st
  | _ => .bad
def opNeO (c : Nat) (F : List T → Sto → R T) (x y : T) (st : Sto) : R T := negB (opEqO c F x y st)
/-- == of instances whose class has none of its own: identity -/
structure CmpI (K : PySem.W.Frag) (C : Addr) : Prop where
  at_ : PySem.W.findIn K (.ref C) "__eq__" = some (some (.builtin "object.__eq__"))
  ob : PySem.W.subIn K (.ref C) (.type "object") = some true
def opEqI (c : Nat) (x y : T) (st : Sto) : R T := match insAt st c x, insAt st c y with
  | some (i, _), some (j, _) => .ok (.bl (i == j)) st
  | _, _ => .bad
section
variable {X : Cx} {ad : Ad} {W : WX} {pos : Pos} {k c : Nat} {fa : Addr} {fd : FuncData} {ps : List Str} {F : List T → Sto → R T}
theorem pm_binRI {a b : Expr} {ma mb : M T} (ha : PM X ad W a ma) (hb : PM X ad W b mb) (B : BinRI X.K (ad.fn c) fa)
    (G : GnOk X.prog X.w X.K X.mg X.base k fa fd ps (spF X.K ad 2 F)) (S : Sit X W k) (hbi : Binds X.K fd ps []) : PM X ad W (.BinOp a .Add b pos) (mBinRI c F ma mb) := by
  constructor
  intro pins s σ H Q I ⟨hd, ρ, as, st, A, E, q⟩
  refine wpAny_BinOp (binT (R := fun x y H2 => ∃ b dy gs, y = V.ref b ∧ H2 b = some (.ins (ad.fn c) dy gs) ∧ ((∃ i, x = V.int i) ∨ (∃ i, x = V.bl i) ∨ ∃ n ∈ binTysR, TyX X.K H2 x (.type n)) ∧ spF X.K ad 2 F [y, x] H2 Q fun u d H' => W u d σ H') ha hb I
    ⟨hd, ρ, as, st, A, E, Post.step q fun x st1 as1 H1 vx A1 e1 r1 q1 => ⟨hd, ρ, as1, st1, A1, E.ext e1, Post.step q1 fun y st2 as2 H2 vy A2 e2 r2 q2 => ?_⟩⟩ fun v u s2 x y H2 I2 rx ry hr => ?_)
  · split at q2
    · rename_i p1 ey
      obtain ⟨i, fi⟩ := p1
      have r1' := r1.ext e2
      obtain ⟨b, dy, gs, rfl, _, _, eb, _⟩ := r2.ins A2 ey
      split at q2
      · exact ⟨b, dy, gs, rfl, eb, .inl ⟨_, r1'.intI⟩, rfl, hd, as2, st2, _, A2, .cons r2 (.cons r1' .nil), q2⟩
      · exact ⟨b, dy, gs, rfl, eb, .inr (.inl ⟨_, r1'.blI⟩), rfl, hd, as2, st2, _, A2, .cons r2 (.cons r1' .nil), q2⟩
      · split at q2
        · rename_i n en
          split at q2
          · rename_i hn
            exact ⟨b, dy, gs, rfl, eb, .inr (.inr ⟨n, hn, r1'.tyX A2 en⟩), rfl, hd, as2, st2, _, A2, .cons r2 (.cons r1' .nil), q2⟩
          · exact q2.elim
        · exact q2.elim
    · exact q2.elim
  · obtain ⟨b, dy, gs, rfl, eb, hx, hsp⟩ := hr
    obtain rfl : u = Value.ref b := ry
    obtain ⟨mA, O, _⟩ := ins_get I2.hok eb
    obtain ⟨od, J, _⟩ := O.look
    obtain ⟨mm, hF⟩ := I2.fr
    have fin : wpAny (model X.prog X.w) X.A (call (.ref fa) [.ref b, v]) (PySem.W.CmpBack (EP X pins σ Q)) X.xe s2 :=
      wpAny_mono (run_gn (us := [.ref b, v]) (vs := [.ref b, x]) G S hbi I2 (.cons rfl (.cons rx .nil)) hsp) (fun v s' z => by
        obtain ⟨z, H', I', rz, q⟩ := z
        exact SlX.cmpback rz ⟨z, H', I', rz, q⟩) fun _ _ x => x
    obtain ⟨g, hg⟩ := B.base.lf
    rcases hx with ⟨i, rfl⟩ | ⟨i, rfl⟩ | ⟨n, hn, ty⟩
    · obtain ⟨t, rfl⟩ := rx
      obtain ⟨fo, ro, h1, h2, h3, h4⟩ := B.ti "int" (by simp)
      exact bin_right2 (op := .Add) (T := "int") hF I2.ok.mod.kin J (PySem.W.Looks.of_pure rfl) B.base.first hg B.base.at_ B.base.fn h1 h2 h3 h4 (fun R hR => try_int_add_inst J.at_ hR) fin
    · obtain rfl : v = Value.bool i := rx
      obtain ⟨fo, ro, h1, h2, h3, h4⟩ := B.ti "bool" (by simp)
      exact bin_right2 (op := .Add) (T := "bool") hF I2.ok.mod.kin J (PySem.W.Looks.of_pure rfl) B.base.first hg B.base.at_ B.base.fn h1 h2 h3 h4 (fun R hR => try_bool_add_inst J.at_ hR) fin
    · obtain ⟨P, Z, hP, _⟩ := kit_of I2 rx ty
      obtain ⟨fo, ro, h1, h2, h3⟩ := B.base.ty n hn
      exact bin_right (op := .Add) hF I2.ok.mod.kin J (Z.ty _ _ I2.kIn hP) B.base.first hg B.base.at_ B.base.fn h1 h2 h3 fin
theorem om_eqO (C : CmpO X.K (ad.fn c) fa) (G : GnOk X.prog X.w X.K X.mg X.base k fa fd ps (spF X.K ad 2 F)) (S : Sit X W k) (hb : Binds X.K fd ps []) : OpMA X ad (compareOp .Eq) (opEqO c F) := by
  refine ⟨fun x y H Q => ∃ a dx fs, x = .ref a ∧ H a = some (.ins (ad.fn c) dx fs) ∧ ((∃ b dy gs, y = V.ref b ∧ H b = some (.ins (ad.fn c) dy gs)) ∨ ∃ n ∈ binTys, TyX X.K H y (.type n)) ∧ spF X.K ad 2 F [.ref a, y] H Q (fun _ _ _ => False), ?_, ?_⟩
  · rintro pins s σ H x y v u Q I rx ry ⟨a, dx, fs, rfl, ha, hy, hsp⟩
    obtain rfl : v = Value.ref a := rx
    obtain ⟨mA, J, _⟩ := ins_get I.hok ha
    obtain ⟨od, J, _⟩ := J.look
    obtain ⟨m, hF⟩ := I.fr
    show wpAny _ _ (richCompare .Eq _ _) _ _ _
    have fin : wpAny (model X.prog X.w) X.A (call (.ref fa) [.ref a, u]) (PySem.W.CmpBack (EP X pins σ Q)) X.xe s :=
      wpAny_mono (run_gn (us := [.ref a, u]) (vs := [.ref a, y]) G S.none hb I (.cons rfl (.cons ry .nil)) hsp) (fun v s' z => by
        obtain ⟨z, H', I', rz, q⟩ := z
        exact SlX.cmpback rz ⟨z, H', I', rz, q⟩) fun _ _ x => x
    rcases hy with ⟨b, dy, gs, rfl, hb'⟩ | ⟨n, hn, ty⟩
    · obtain rfl : u = Value.ref b := ry
      obtain ⟨mB, J', _⟩ := ins_get I.hok hb'
      obtain ⟨od', J', _⟩ := J'.look
      exact PySem.W.cmp_K (op := .Eq) (tb := .ref (ad.fn c)) S.rm.units0 hF I.ok.mod.kin J J'.type (by simp [PySem.W.notFirst]) C.at_ C.fn fin
    · obtain ⟨P, Z, hP, _⟩ := kit_of I ry ty
      exact PySem.W.cmp_K (op := .Eq) (tb := .type n) S.rm.units0 hF I.ok.mod.kin J (Z.ty _ _ I.kIn hP) (by simp [PySem.W.notFirst, C.ty n hn]) C.at_ C.fn fin
  · intro hd as st H x y tx ty Q W A rx ry q
    unfold opEqO at q
    split at q
    · rename_i i h1
      obtain ⟨i, fi⟩ := i
      obtain ⟨a, dx, gs, rfl, _, _, ha, _⟩ := rx.ins A h1
      split at q
      · rename_i j h2
        obtain ⟨j, fj⟩ := j
        obtain ⟨b, dy, gs', rfl, _, _, hb', _⟩ := ry.ins A h2
        exact ⟨a, dx, gs, rfl, ha, .inl ⟨b, dy, gs', rfl, hb'⟩, rfl, hd, as, st, _, A, .cons rx (.cons ry .nil), Post.noExc q⟩
      · split at q
        · rename_i n en
          split at q
          · rename_i hn
            exact ⟨a, dx, gs, rfl, ha, .inr ⟨n, hn, ry.tyX A en⟩, rfl, hd, as, st, _, A, .cons rx (.cons ry .nil), Post.noExc q⟩
          · exact q.elim
        · exact q.elim
    · exact q.elim
theorem om_neO (C : CmpO X.K (ad.fn c) fa) (G : GnOk X.prog X.w X.K X.mg X.base k fa fd ps (spF X.K ad 2 F)) (S : Sit X W (k + 1)) (hb : Binds X.K fd ps []) : OpMA X ad (compareOp .NotEq) (opNeO c F) := by
  refine ⟨fun x y H Q => ∃ a dx fs, x = .ref a ∧ H a = some (.ins (ad.fn c) dx fs) ∧ ((∃ b dy gs, y = V.ref b ∧ H b = some (.ins (ad.fn c) dy gs)) ∨ ∃ n ∈ binTys, TyX X.K H y (.type n)) ∧ spF X.K ad 2 F [.ref a, y] H (fun v H' => ∃ r, v = .bl r ∧ Q (.bl (!r)) H') (fun _ _ _ => False), ?_, ?_⟩
  · rintro pins s σ H x y v u Q I rx ry ⟨a, dx, fs, rfl, ha, hy, hsp⟩
    obtain rfl : v = Value.ref a := rx
    obtain ⟨mA, J, _⟩ := ins_get I.hok ha
    obtain ⟨od, J, _⟩ := J.look
    obtain ⟨m, hF⟩ := I.fr
    show wpAny _ _ (richCompare .NotEq _ _) _ _ _
    have fin : wpAny (model X.prog X.w) X.A.in1 (call (.ref fa) [.ref a, u]) (fun v s' => ∃ r, v = .bool r ∧ EP X pins σ Q (.bool (!r)) s') X.xe s :=
      wpAny_mono (run_gn1 (n := 1) (us := [.ref a, u]) (vs := [.ref a, y]) G S hb I (.cons rfl (.cons ry .nil)) hsp) (fun v s' z => by
        obtain ⟨z, H', I', rz, r, rfl, q⟩ := z
        obtain rfl : v = Value.bool r := rz
        exact ⟨r, rfl, .bl _, H', I', rfl, q⟩) fun _ _ x => x
    have hu := S.rm.in1.units0
    rcases hy with ⟨b, dy, gs, rfl, hb'⟩ | ⟨n, hn, ty⟩
    · obtain rfl : u = Value.ref b := ry
      obtain ⟨mB, J', _⟩ := ins_get I.hok hb'
      obtain ⟨od', J', _⟩ := J'.look
      exact ne_K (tb := .ref (ad.fn c)) hu hF I.ok.mod.kin J J'.type (by simp [PySem.W.notFirst]) C.ne C.ob C.at_ C.fn fin
    · obtain ⟨P, Z, hP, _⟩ := kit_of I ry ty
      exact ne_K (tb := .type n) hu hF I.ok.mod.kin J (Z.ty _ _ I.kIn hP) (by simp [PySem.W.notFirst, C.ty n hn]) C.ne C.ob C.at_ C.fn fin
  · intro hd as st H x y tx ty Q W A rx ry q
    unfold opNeO negB opEqO at q
    have key : ∀ {r : R T}, Post X.K (ad.hide hd) (Rep X.K (ad.hide hd)) as H Q W ((noExc r).bind fun t st => match t with | .bl b => .ok (.bl (!b)) st | _ => .bad) →
        Post X.K (ad.hide hd) (Rep X.K (ad.hide hd)) as H (fun v H' => ∃ r, v = .bl r ∧ Q (.bl (!r)) H') (fun _ _ _ => False) r := by
      intro r h
      cases r with
      | ok t st1 =>
        intro as1 H1 v A1 e1 r1
        cases t <;> try exact h.elim
        rename_i b
        exact ⟨b, r1.blI, h as1 H1 _ A1 e1 (.bl _)⟩
      | exc e st1 => exact h.elim
      | bad => exact h
    split at q
    · rename_i i h1
      obtain ⟨i, fi⟩ := i
      obtain ⟨a, dx, gs, rfl, _, _, ha, _⟩ := rx.ins A h1
      split at q
      · rename_i j h2
        obtain ⟨j, fj⟩ := j
        obtain ⟨b, dy, gs', rfl, _, _, hb', _⟩ := ry.ins A h2
        exact ⟨a, dx, gs, rfl, ha, .inl ⟨b, dy, gs', rfl, hb'⟩, rfl, hd, as, st, _, A, .cons rx (.cons ry .nil), key q⟩
      · split at q
        · rename_i n en
          split at q
          · rename_i hn
            exact ⟨a, dx, gs, rfl, ha, .inr ⟨n, hn, ry.tyX A en⟩, rfl, hd, as, st, _, A, .cons rx (.cons ry .nil), key q⟩
          · exact q.elim
        · exact q.elim
    · exact q.elim
theorem om_eqI (C : CmpI X.K (ad.fn c)) (hu : X.A.units + 64 < cLine) : OpMA X ad (compareOp .Eq) (opEqI c) := by
  refine ⟨fun x y H Q => ∃ a dx fs b dy gs, x = .ref a ∧ H a = some (.ins (ad.fn c) dx fs) ∧ y = V.ref b ∧ H b = some (.ins (ad.fn c) dy gs) ∧ Q (.bl (a == b)) H, ?_, ?_⟩
  · rintro pins s σ H x y v u Q I rx ry ⟨a, dx, fs, b, dy, gs, rfl, ha, rfl, hb, q⟩
    obtain rfl : v = Value.ref a := rx
    obtain rfl : u = Value.ref b := ry
    obtain ⟨mA, J, _⟩ := ins_get I.hok ha
    obtain ⟨od, J, _⟩ := J.look
    obtain ⟨mB, J', _⟩ := ins_get I.hok hb
    obtain ⟨od', J', _⟩ := J'.look
    obtain ⟨m, hF⟩ := I.fr
    show wpAny _ _ (richCompare .Eq _ _) _ _ _
    exact eqI_K (by omega) hF I.ok.mod.kin J J' C.at_ C.ob ⟨.bl _, H, I, rfl, q⟩
  · intro hd as st H x y tx ty Q W A rx ry q
    unfold opEqI at q
    split at q
    · rename_i i fi j fj h1 h2
      obtain ⟨a, dx, gs, rfl, ea, li, ha, _⟩ := rx.ins A h1
      obtain ⟨b, dy, gs', rfl, eb, lj, hb', _⟩ := ry.ins A h2
      refine ⟨a, dx, gs, b, dy, gs', rfl, ha, rfl, hb', ?_⟩
      have e : (a == b) = (i == j) := by
        by_cases h : i = j
        · subst h
          rw [ea] at eb; cases eb
          simp
        · have : a ≠ b := by
            rintro rfl
            obtain ⟨l1, e1⟩ := List.getElem?_eq_some_iff.mp ea
            obtain ⟨l2, e2⟩ := List.getElem?_eq_some_iff.mp eb
            exact h ((List.getElem_inj A.nd).mp (e1.trans e2.symm))
          rw [beq_eq_false_iff_ne.mpr this, beq_eq_false_iff_ne.mpr h]
      rw [e]
      exact Post.at A (.bl _) q
    · exact q.elim
end
end Mi

/-! MiBin3: pairs of a tuple of whole numbers and a whole number compared; x op= y by the binary method. -/
namespace Mi
open PySem L2 PySem.Spec PyProof.Rows PySem.W
def KE_alike (ns ms : List Int) : Prop := alikeAll (ns.map PyData.int) (ms.map PyData.int) = true
theorem alike_ints : ∀ ns ms : List Int, KE_alike ns ms
  | [], _ => by simp [KE_alike, alikeAll]
  | _ :: _, [] => by simp [KE_alike, alikeAll]
  | n :: ns, m :: ms => by
    have := alike_ints ns ms
    simp only [KE_alike, List.map_cons, alikeAll, alike, Bool.true_and] at this ⊢
    exact this
theorem eqv_ints : ∀ ns ms : List Int, PyData.eqvAll (ns.map PyData.int) (ms.map PyData.int) = decide (ns = ms)
  | [], [] => by simp [PyData.eqvAll]
  | [], _ :: _ => by simp [PyData.eqvAll]
  | _ :: _, [] => by simp [PyData.eqvAll]
  | n :: ns, m :: ms => by
    simp only [List.map_cons, PyData.eqvAll, eqv_ints ns ms, PyData.eqv]
    by_cases h : n = m <;> by_cases h2 : ns = ms <;> simp [h, h2]
theorem depth_ints : ∀ ns : List Int, PyData.depthAll (ns.map PyData.int) ≤ 1
  | [] => by simp [PyData.depthAll]
  | n :: ns => by
    have := depth_ints ns
    simp only [List.map_cons, PyData.depthAll, PyData.depth]
    omega
theorem dp_ints {K : PySem.W.Frag} {H : Hp} : ∀ ns : List Int, DpAll K H (ns.map V.int) (ns.map PyData.int)
  | [] => .nil
  | n :: ns => .cons (.int n) (dp_ints ns)
abbrev TupOp (op : CmpOp) (z : Nat → Nat → Bool) : Prop := ∀ {A : PySem.Around} {s : Shared} {l b : Addr} {items items2 : Array Value} {e r' : Nat → Bool}, A.units < cLine → s.heap.IsTuple l items → s.heap.IsTuple b items2 → (∀ j (h1 : j < items.size) (h2 : j < items2.size), SeqAt.EqAt A.in1 s items[j] items2[j] (e j)) →
  (∀ j (h1 : j < items.size) (h2 : j < items2.size), e j = false → Ob.RcOp op A.in1 s items[j] items2[j] (r' j)) → Ob.RcOp op A s (.ref l) (.ref b) (Ob.lexAt e r' (z items.size items2.size) 0 (min items.size items2.size))
abbrev IntOp (op : CmpOp) (r : Int → Int → Bool) : Prop := ∀ {A : PySem.Around} {s : Shared} (a b : Int) (t u : Tok), Ob.RcOp op A s (.int a t) (.int b u) (r a b)
theorem rc_ints {X : Cx} {op : CmpOp} {r : Int → Int → Bool} {z : Nat → Nat → Bool} (ho : TupOp op z) (hi : IntOp op r) {A : PySem.Around} (hu : A.units + 8 < cLine) {pins : List (Addr × Obj)} {σ : L2.St} {H : Hp} {s : Shared} {a b : Addr} {ns ms : List Int} (I : Inv X pins σ H s)
    (ha : SqT X.K H a (ns.map V.int)) (hb : SqT X.K H b (ms.map V.int)) : Ob.RcOp op A s (.ref a) (.ref b) (lexN r z ns ms) ∧ SeqAt.EqAt A s (.ref a) (.ref b) (decide (ns = ms)) := by
  obtain ⟨its, r1, p1, _⟩ := I.tuple ha
  obtain ⟨its2, r2, p2, _⟩ := I.tuple hb
  have i1 : IntsAre its ns := Vals.ints r1
  have i2 : IntsAre its2 ms := Vals.ints r2
  have e1 : its.toArray.size = ns.length := by rw [List.size_toArray]; exact i1.length
  have e2 : its2.toArray.size = ms.length := by rw [List.size_toArray]; exact i2.length
  have at1 : ∀ j (h1 : j < its.toArray.size), ∃ t, its.toArray[j] = .int (ns.getD j 0) t := fun j h1 => PyProof.Rows.IntsAre.int_at i1 _ _ (by simp at h1; simp [h1])
  have at2 : ∀ j (h1 : j < its2.toArray.size), ∃ t, its2.toArray[j] = .int (ms.getD j 0) t := fun j h1 => PyProof.Rows.IntsAre.int_at i2 _ _ (by simp at h1; simp [h1])
  have R := ho (A := A) (s := s) (e := fun j => decide (ns.getD j 0 = ms.getD j 0)) (r' := fun j => r (ns.getD j 0) (ms.getD j 0)) (by omega) p1 p2 (fun j h1 h2 => by
    obtain ⟨t, et⟩ := at1 j h1
    obtain ⟨t', et'⟩ := at2 j h2
    rw [et, et']
    have z : (ns.getD j 0 == ms.getD j 0) = decide (ns.getD j 0 = ms.getD j 0) := by
      by_cases q : ns.getD j 0 = ms.getD j 0
      · rw [decide_eq_true q]; exact beq_iff_eq.mpr q
      · rw [decide_eq_false q]; exact beq_eq_false_iff_ne.mpr q
    rw [← z]
    exact SeqAt.EqAt.int_int _ _ _ _) (fun j h1 h2 _ => by
    obtain ⟨t, et⟩ := at1 j h1
    obtain ⟨t', et'⟩ := at2 j h2
    rw [et, et']
    exact hi _ _ _ _)
  rw [e1, e2] at R
  refine ⟨R, ?_⟩
  obtain ⟨as1, q1⟩ := Dp.reads I (.tuple (ns.map PyData.int)) (.ref a) (.ref a) (.tup ha (dp_ints ns)) rfl
  obtain ⟨as2, q2⟩ := Dp.reads I (.tuple (ms.map PyData.int)) (.ref b) (.ref b) (.tup hb (dp_ints ms)) rfl
  have al : alike (.tuple (ns.map PyData.int)) (.tuple (ms.map PyData.int)) = true := by
    simp only [alike]; exact alike_ints ns ms
  have := eqAt_alike _ _ A s _ _ _ _ q1 q2 al (by
    have := depth_ints ns
    simp only [PyData.depth]
    omega)
  simp only [PyData.eqv, eqv_ints] at this
  exact this
/-- pairs of a tuple of ints and an int -/
def rCmpP (K : PySem.W.Frag) (r : Int → Int → Bool) (z : Nat → Nat → Bool) : R2 := fun x y H Q => ∃ (a b a1 b1 : Addr) (ns ms : List Int) (i j : Int), x = .ref a ∧ y = .ref b ∧ SqT K H a [V.ref a1, V.int i] ∧ SqT K H b [V.ref b1, V.int j] ∧ SqT K H a1 (ns.map V.int) ∧ SqT K H b1 (ms.map V.int) ∧ Q (.bl (if ns = ms then r i j else lexN r z ns ms)) H
theorem op_cmpP {X : Cx} {op : CmpOp} {r : Int → Int → Bool} {z : Nat → Nat → Bool} (ho : TupOp op z) (hi : IntOp op r) (hz : ∀ i, r i i = z 2 2) (hu : X.A.units + 64 < cLine)
    (hc : ∀ {s : Shared} {E : Value → Shared → Prop} {Q : Value → Shared → Prop} {a b : Addr}, wpAny (model X.prog X.w) X.A (richCompare op (.ref a) (.ref b)) Q E s → wpAny (model X.prog X.w) X.A (compareOp op (.ref a) (.ref b)) Q E s) : OpR X (compareOp op) (rCmpP X.K r z) := by
  intro pins s σ H x y v u Q I rx ry h
  obtain ⟨a, b, a1, b1, ns, ms, i, j, rfl, rfl, ha, hb, ha1, hb1, q⟩ := h
  obtain rfl : v = Value.ref a := rx
  obtain rfl : u = Value.ref b := ry
  obtain ⟨its, r1, p1, _⟩ := I.tuple ha
  obtain ⟨its2, r2, p2, _⟩ := I.tuple hb
  cases r1 with
  | cons c1 r1 => cases r1 with
    | cons c2 r1 => cases r1 with
      | nil => cases r2 with
        | cons d1 r2 => cases r2 with
          | cons d2 r2 => cases r2 with
            | nil =>
              rename_i u1 u2 w1 w2
              obtain rfl : u1 = Value.ref a1 := c1
              obtain rfl : w1 = Value.ref b1 := d1
              obtain ⟨t, rfl⟩ := c2
              obtain ⟨t', rfl⟩ := d2
              have hu1 : X.A.in1.units + 8 < cLine := by
                have : X.A.in1.units = X.A.units + 1 := rfl
                omega
              obtain ⟨R0, E0⟩ := rc_ints (A := X.A.in1) ho hi hu1 I ha1 hb1
              have zz : (i == j) = decide (i = j) := by
                by_cases q : i = j
                · rw [decide_eq_true q]; exact beq_iff_eq.mpr q
                · rw [decide_eq_false q]; exact beq_eq_false_iff_ne.mpr q
              have R := ho (A := X.A) (s := s) (e := fun k => if k = 0 then decide (ns = ms) else decide (i = j)) (r' := fun k => if k = 0 then lexN r z ns ms else r i j) (by omega) p1 p2 (fun k h1 h2 => by
                match k, h1, h2 with
                | 0, _, _ => exact E0
                | 1, _, _ =>
                  show SeqAt.EqAt _ _ (Value.int i t) (Value.int j t') (decide (i = j))
                  rw [← zz]; exact SeqAt.EqAt.int_int _ _ _ _
                | k + 2, h1, _ => exact absurd h1 (by simp)) (fun k h1 h2 _ => by
                match k, h1, h2 with
                | 0, _, _ => exact R0
                | 1, _, _ => exact hi _ _ _ _
                | k + 2, h1, _ => exact absurd h1 (by simp))
              have ev : Ob.lexAt (fun k => if k = 0 then decide (ns = ms) else decide (i = j)) (fun k => if k = 0 then lexN r z ns ms else r i j) (z 2 2) 0 2 = if ns = ms then r i j else lexN r z ns ms := by
                by_cases h1 : ns = ms <;> by_cases h2 : i = j <;> simp [Ob.lexAt, h1, h2, hz]
              have R' : Ob.RcOp op X.A s (.ref a) (.ref b) (if ns = ms then r i j else lexN r z ns ms) := by
                rw [← ev]; exact R
              exact hc (R' X.prog X.w X.xe (EP X pins σ Q) ⟨.bl _, H, I, rfl, q⟩)
def pairT : T → Option (List Int × Int)
  | .tup [.tup a, .int i] => (intsT a).map fun ns => (ns, i)
  | _ => none
def opCmpP (r : Int → Int → Bool) (z : Nat → Nat → Bool) (x y : T) (st : Sto) : R T := match pairT x, pairT y with
  | some (ns, i), some (ms, j) => .ok (.bl (if ns = ms then r i j else lexN r z ns ms)) st
  | _, _ => opCmpN r z x y st
section
variable {X : Cx}
theorem pairT_rep {K : PySem.W.Frag} {ad : Ad} {as : List Addr} {H : Hp} {v : V} {t : T} {ns : List Int} {i : Int} (h : pairT t = some (ns, i)) (rv : Rep K ad as H v t) : ∃ a a1, v = .ref a ∧ SqT K H a [V.ref a1, V.int i] ∧ SqT K H a1 (ns.map V.int) := by
  unfold pairT at h
  split at h
  · rename_i l j
    obtain ⟨ms, h1, h2⟩ := Option.map_eq_some_iff.mp h
    cases h2
    obtain ⟨a, xs, rfl, g1, g2⟩ := rv.tupI
    obtain ⟨x, y, rfl, rx, ry⟩ := g2.two
    obtain ⟨a1, ys, rfl, g3, g4⟩ := rx.tupI
    obtain rfl := ry.intI
    obtain ⟨rfl, rfl⟩ := intsT_rep h1 g4
    exact ⟨a, a1, rfl, g1, g3⟩
  · cases h
theorem om_cmpP {o : CmpOp} {r : Int → Int → Bool} {z : Nat → Nat → Bool} (h1 : OpM X (compareOp o) (opCmpN r z)) (h2 : OpR X (compareOp o) (rCmpP X.K r z)) : OpM X (compareOp o) (opCmpP r z) := by
  obtain ⟨r0, c0, c1⟩ := h1
  refine ⟨_, OpR.alt h2 c0, fun ad as st H x y tx ty Q W A rx ry q => ?_⟩
  unfold opCmpP at q
  split at q
  · rename_i e1 e2
    obtain ⟨a, a1, rfl, g1, g2⟩ := pairT_rep e1 rx
    obtain ⟨b, b1, rfl, g3, g4⟩ := pairT_rep e2 ry
    exact .inl ⟨a, b, a1, b1, _, _, _, _, rfl, rfl, g1, g3, g2, g4, Post.at A (.bl _) q⟩
  · exact .inr (c1 ad as st H x y tx ty Q W A rx ry q)
abbrev opGtP := opCmpP (fun a b => decide (b < a)) (fun a b => decide (a > b))
abbrev opLtP := opCmpP (fun a b => decide (a < b)) (fun a b => decide (a < b))
abbrev opLeP := opCmpP (fun a b => decide (a ≤ b)) (fun a b => decide (a ≤ b))
abbrev opGeP := opCmpP (fun a b => decide (b ≤ a)) (fun a b => decide (a ≥ b))
theorem om_gtP (hu : X.A.units + 64 < cLine) : OpM X (compareOp .Gt) opGtP := om_cmpP (om_gtN hu) (op_cmpP (fun hu h1 h2 h3 h4 => Ob.RcOp.tuples_gt h1 h2 hu h3 h4) (fun a b t u => Ob.RcOp.gt_int a b t u) (fun i => by simp) hu (fun h => h))
theorem om_ltP (hu : X.A.units + 64 < cLine) : OpM X (compareOp .Lt) opLtP := om_cmpP (om_ltN hu) (op_cmpP (fun hu h1 h2 h3 h4 => Ob.RcOp.tuples_lt h1 h2 hu h3 h4) (fun a b t u => Ob.RcOp.lt_int a b t u) (fun i => by simp) hu (fun h => h))
theorem om_leP (hu : X.A.units + 64 < cLine) : OpM X (compareOp .LtE) opLeP := om_cmpP (om_leN hu) (op_cmpP (fun hu h1 h2 h3 h4 => Ob.RcOp.tuples_le h1 h2 hu h3 h4) (fun a b t u => Ob.RcOp.le_int a b t u) (fun i => by simp) hu (fun h => h))
theorem om_geP (hu : X.A.units + 64 < cLine) : OpM X (compareOp .GtE) opGeP := om_cmpP (om_geN hu) (op_cmpP (fun hu h1 h2 h3 h4 => Ob.RcOp.tuples_ge h1 h2 hu h3 h4) (fun a b t u => Ob.RcOp.ge_int a b t u) (fun i => by simp) hu (fun h => h))
end
/-! ### x op= e, by the binary method -/
def sAugB (i c : Nat) (F : List T → Sto → R T) (m : M T) : SM := fun ρ st => match ρ[i]? with
  | some (some x) => RS.of (m ρ st) ρ fun y st1 => match insAt st1 c x with
    | some _ => (match tyName st1 y with
      | some n => if n ∈ binTys then RS.of (F [x, y] st1) ρ fun z st2 => .nx (ρ.set i (some z)) st2 else .bad
      | none => .bad)
    | none => .bad
  | _ => .bad
/-- what x op= e asks of a class without a method of its own for it -/
structure AugB (K : PySem.W.Frag) (C : Addr) (di : Str) : Prop where
  mro : mroOne K C = true
  no : PySem.W.findIn K (.ref C) di = some none
  ob : PySem.W.findIn K (.type "object") di = some none
section
variable {X : Cx} {ad : Ad} {W : WX} {pos : Pos} {k c : Nat} {fa : Addr} {fd : FuncData} {ps : List Str} {F : List T → Sto → R T} {x : Str} {e : Expr}
theorem pms_augB {op : Operator} {i : Nat} {m : M T} {pos' : Pos} (hN : X.N.Nodup) (hi : X.N[i]? = some x) (hx : Loc X.env.scope x) (he : PM X ad W e m) (hc : AugB X.K (ad.fn c) (dunderI op.info.2)) (B : BinO X.K (ad.fn c) fa (PySem.dunder op.info.2) (dunderR op.info.2))
    (G : GnOk X.prog X.w X.K X.mg X.base k fa fd ps (spF X.K ad 2 F)) (S : Sit X W k) (hb : Binds X.K fd ps []) (hW : ∀ u d σ σ' H, W u d σ H → W u d σ' H)
    (hl : X.fn x = true ∨ X.env.scope.names.lookup x = some .local := by first | exact .inl rfl | exact .inr rfl | assumption) : PMS X ad W (.AugAssign (.Name x pos') op e pos) (sAugB i c F m) := by
  have hp : PIp X op fun x y H Q => ∃ a dx fs, x = V.ref a ∧ H a = some (.ins (ad.fn c) dx fs) ∧ (∃ n ∈ binTys, TyX X.K H y (.type n)) ∧ spF X.K ad 2 F [.ref a, y] H Q fun u d H' => ∀ σ', W u d σ' H' := by
    rintro pins s σ H x y v u Q I rx ry ⟨a, dx, fs, rfl, ea, ⟨n, hn, ty⟩, hsp⟩
    obtain rfl : v = Value.ref a := rx
    obtain ⟨mA, O, _⟩ := ins_get I.hok ea
    obtain ⟨od, J, _⟩ := O.look
    obtain ⟨mm, hF⟩ := I.fr
    obtain ⟨P, Z, hP, _⟩ := kit_of I ry ty
    obtain ⟨rc, hr1, hr2⟩ := B.rf
    obtain ⟨⟨fo, h1⟩, ⟨ro, h2⟩, h3⟩ := B.ty n hn
    refine inplace_left hF I.ok.mod.kin J (Z.ty _ _ I.kIn hP) hc.mro hc.no hc.ob B.at_ B.fn hr1 hr2 h1 h2 h3 ?_
    have hsp2 : spF X.K ad 2 F [.ref a, y] H Q fun u d H' => W u d σ H' := by
      obtain ⟨h1, hd, as, st, ts, A, r, q⟩ := hsp
      exact ⟨h1, hd, as, st, ts, A, r, Post.imp q (fun _ _ z => z) fun _ _ _ z => z σ⟩
    refine wpAny_mono (run_gn (us := [.ref a, u]) (vs := [.ref a, y]) G S hb I (.cons rfl (.cons ry .nil)) hsp2) (fun v s' z => ?_) fun _ _ x => x
    obtain ⟨z, H', I', rz, q⟩ := z
    exact SlX.cmpback rz ⟨z, H', I', rz, q⟩
  refine psW (ps_aug hN hi hx he hp hl) fun D σ H ⟨hd, ρ, as, st, A, E, q⟩ => ?_
  unfold sAugB at q
  split at q
  · rename_i x0 ex0
    obtain ⟨v0, ev0, rv0⟩ := E.2 i x0 ex0
    refine ⟨v0, ev0, hd, ρ, as, st, A, E, PostS.expr E q fun t st1 as1 H1 v A1 e1 r1 q1 => ?_⟩
    split at q1
    · rename_i i0 ei
      obtain ⟨i0, fi⟩ := i0
      have rv1 := rv0.ext e1
      obtain ⟨a, dx, gs, rfl, _, _, ha, _⟩ := rv1.ins A1 ei
      split at q1
      · rename_i n en
        split at q1
        · rename_i hn
          refine ⟨a, dx, gs, rfl, ha, ⟨n, hn, r1.tyX A1 en⟩, rfl, hd, as1, st1, _, A1, .cons rv1 (.cons r1 .nil), ?_⟩
          refine Post.imp (PostS.expr (Rl := Rep X.K (ad.hide hd)) (Q := fun z H2 => D.nx (σ.set i (some z)) H2) (E.ext e1) q1 fun z st2 as2 H2 vz A2 e2 r2 q2 => PostS.nxAt A2 (((E.ext e1).ext e2).set r2) q2) (fun _ _ z => z) fun u d H' z σ' => hW _ _ _ _ _ z
        · exact q1.elim
      · exact q1.elim
    · exact q1.elim
  · exact q.elim
/-- ==, != where the left one is an instance of the class or plain data -/
def opEqX (c : Nat) (F : List T → Sto → R T) (x y : T) (st : Sto) : R T := match insAt st c x with
  | some _ => opEqO c F x y st
  | none => opEqB false x y st
def opNeX (c : Nat) (F : List T → Sto → R T) (x y : T) (st : Sto) : R T := match insAt st c x with
  | some _ => opNeO c F x y st
  | none => opEqB true x y st
theorem om_eqX (C : CmpO X.K (ad.fn c) fa) (G : GnOk X.prog X.w X.K X.mg X.base k fa fd ps (spF X.K ad 2 F)) (S : Sit X W k) (hb : Binds X.K fd ps []) (hu : X.A.units + 64 < cLine) : OpMA X ad (compareOp .Eq) (opEqX c F) :=
  (om_eqO C G S hb).alt (om_eq hu).atAd fun x y st => by unfold opEqX; split <;> simp
theorem om_neX (C : CmpO X.K (ad.fn c) fa) (G : GnOk X.prog X.w X.K X.mg X.base k fa fd ps (spF X.K ad 2 F)) (S : Sit X W (k + 1)) (hb : Binds X.K fd ps []) (hu : X.A.units + 64 < cLine) : OpMA X ad (compareOp .NotEq) (opNeX c F) :=
  (om_neO C G S hb).alt (om_ne hu).atAd fun x y st => by unfold opNeX; split <;> simp
end
end Mi
namespace Mi
open PySem L2
/-! ### what these ask -/
def binOk (st : Sto) (c : Nat) (y : T) : Bool := match insAt st c y with
  | some _ => true
  | none => match tyName st y with
    | some n => decide (n ∈ binTys)
    | none => false
def binROk (st : Sto) (x : T) : Bool := match x with
  | .int _ => true
  | .bl _ => true
  | x => match tyName st x with
    | some n => decide (n ∈ binTysR)
    | none => false
section
variable {Q : T → Sto → Prop} {E : Exn → Sto → Prop} {ρ : Sl} {y0 : Option T} {st : Sto} {c : Nat} {F : List T → Sto → R T}
theorem insF_some {x : T} {p : Nat × List (Str × T)} (h : insAt st c x = some p) : insF st c x = some p.2 := by simp [insF, h]
theorem insF_none {x : T} (h : insAt st c x = none) : insF st c x = none := by simp [insF, h]
@[simp] theorem binOk_int (i : Int) : binOk st c (.int i) = true := by simp [binOk, insAt, tyName]
@[simp] theorem binOk_bl (i : Bool) : binOk st c (.bl i) = true := by simp [binOk, insAt, tyName]
@[simp] theorem binOk_str (i : Str) : binOk st c (.str i) = true := by simp [binOk, insAt, tyName]
@[simp] theorem binOk_non : binOk st c .non = true := by simp [binOk, insAt, tyName]
@[simp] theorem binOk_tup (l : List T) : binOk st c (.tup l) = true := by simp [binOk, insAt, tyName]
@[simp] theorem binOk_lst (l : List T) : binOk st c (.lst l) = true := by simp [binOk, insAt, tyName]
@[simp] theorem binOk_dct (l : List Key) (m : List T) : binOk st c (.dct l m) = true := by simp [binOk, insAt, tyName]
theorem binOk_ins {x : T} {fs : List (Str × T)} (h : insF st c x = some fs) : binOk st c x = true := by
  obtain ⟨i, e⟩ := insF_ex h
  simp [binOk, e]
@[simp] theorem binROk_int (i : Int) : binROk st (.int i) = true := rfl
@[simp] theorem binROk_bl (i : Bool) : binROk st (.bl i) = true := rfl
@[simp] theorem binROk_str (i : Str) : binROk st (.str i) = true := by simp [binROk, tyName]
@[simp] theorem binROk_non : binROk st .non = true := by simp [binROk, tyName]
@[simp] theorem binROk_tup (l : List T) : binROk st (.tup l) = true := by simp [binROk, tyName]
@[simp] theorem binROk_lst (l : List T) : binROk st (.lst l) = true := by simp [binROk, tyName]
@[simp] theorem binROk_dct (l : List Key) (m : List T) : binROk st (.dct l m) = true := by simp [binROk, tyName]
@[simp] theorem Ok_binO {ma mb : M T} : Ok (mBinO c F ma mb (y0 :: ρ) st) Q E ↔ Ok (ma (y0 :: ρ) st) (fun x st1 => Ok (mb (y0 :: ρ) st1) (fun y st2 => ∃ fs, insF st2 c x = some fs ∧ binOk st2 c y = true ∧ Ok (F [x, y] st2) Q E) E) E := by
  unfold mBinO
  rw [Ok_bind]
  refine Ok_congr fun x st1 => ?_
  rw [Ok_bind]
  refine Ok_congr fun y st2 => ?_
  cases h : insAt st2 c x with
  | none => simp [insF_none h]
  | some p =>
    simp only [insF_some h, Option.some.injEq, exists_eq_left']
    unfold binOk
    cases h2 : insAt st2 c y with
    | some p2 => simp
    | none =>
      cases h3 : tyName st2 y with
      | none => simp
      | some n =>
        by_cases hn : n ∈ binTys
        · simp only [hn, if_true, decide_true, true_and]
        · simp only [hn, if_false, decide_false, Bool.false_eq_true, false_and, Ok_bad]
@[simp] theorem Ok_binRI {ma mb : M T} : Ok (mBinRI c F ma mb (y0 :: ρ) st) Q E ↔ Ok (ma (y0 :: ρ) st) (fun x st1 => Ok (mb (y0 :: ρ) st1) (fun y st2 => ∃ fs, insF st2 c y = some fs ∧ binROk st2 x = true ∧ Ok (F [y, x] st2) Q E) E) E := by
  unfold mBinRI
  rw [Ok_bind]
  refine Ok_congr fun x st1 => ?_
  rw [Ok_bind]
  refine Ok_congr fun y st2 => ?_
  cases h : insAt st2 c y with
  | none => simp [insF_none h]
  | some p =>
    simp only [insF_some h, Option.some.injEq, exists_eq_left']
    unfold binROk
    cases x <;> first
      | (simp only [true_and]; done)
      | (simp only []
         split
         · rename_i n hn
           by_cases hm : n ∈ binTysR
           · simp only [hn, hm, if_true, decide_true, true_and]
           · simp only [hn, hm, if_false, decide_false, Bool.false_eq_true, false_and, Ok_bad]
         · rename_i hn
           simp [hn])
end
section
variable {N : Sl → Sto → Prop} {Rt : T → Sto → Prop} {B C : Sl → Sto → Prop} {Ex : Exn → Sl → Sto → Prop} {ρ : Sl} {y0 : Option T} {st : Sto}
@[simp] theorem OkS_augB (i c : Nat) (F : List T → Sto → R T) (m : M T) : OkS (sAugB i c F m (y0 :: ρ) st) N Rt B C Ex ↔ ∃ x, (y0 :: ρ)[i]? = some (some x) ∧ Ok (m (y0 :: ρ) st) (fun y st1 => ∃ fs, insF st1 c x = some fs ∧ (∃ n, tyName st1 y = some n ∧ n ∈ binTys) ∧ Ok (F [x, y] st1) (fun z st2 => N ((y0 :: ρ).set i (some z)) st2) (fun e st => Ex e (y0 :: ρ) st)) (fun e st => Ex e (y0 :: ρ) st) := by
  unfold sAugB
  cases h : (y0 :: ρ)[i]? with
  | none => simp [OkS]
  | some o =>
    cases o with
    | none => simp [OkS]
    | some x =>
      simp only []
      rw [OkS_of]
      simp only [Option.some.injEq, exists_eq_left']
      refine iff_of_eq (congrArg (fun f => Ok (m (y0 :: ρ) st) f _) ?_)
      funext y st1
      refine propext ?_
      cases h2 : insAt st1 c x with
      | none => simp [insF_none h2, OkS]
      | some p =>
        simp only [insF_some h2, Option.some.injEq, exists_eq_left']
        cases h3 : tyName st1 y with
        | none => simp [OkS]
        | some n =>
          by_cases hn : n ∈ binTys
          · simp only [hn, if_true, Option.some.injEq, exists_eq_left', true_and]
            rw [OkS_of]; rfl
          · simp only [hn, if_false, Option.some.injEq, exists_eq_left', false_and]
            rfl
end
end Mi

/-! MiByt: bytes * n, bytes[::-1]. -/
namespace Mi
open PySem L2 PySem.Spec PyProof.Rows
def tRevB (te : TE) : TE := fun σ H Q => te σ H fun x H1 => ∃ z : Array UInt8, x = .byt z ∧ z.size ≤ 16777216 ∧ Q (.byt (PySem.W.KBs.picked z none none (some (-1)))) H1
section
variable {X : Cx} {ad : Ad} {W : WX} {pos p1 p2 p3 : Pos} {e : Expr}
theorem pe_revB {te : TE} {k : Nat} (he : PE X e te) : PE X (.Subscript e (.Slice none none (some (.UnaryOp .USub (.Constant (.int 1) k p1) p2)) p3) pos) (tRevB te) := by
  refine ⟨fun pins s σ H Q I h => ?_⟩
  refine Subscript_ (thn (he.run pins s σ H _ I h) fun v s1 ⟨x, H1, I1, r1, q1⟩ => ?_)
  obtain ⟨z, ex, hz, q⟩ := q1
  subst ex
  obtain ⟨t, rfl⟩ := r1
  have hst : PO X (some (.UnaryOp .USub (.Constant (.int 1) k p1) p2)) (tPart (tUn (rU fun i => .int (-i)) (tC (.int 1)))) := po_some (pe_un un_neg pe_int)
  refine wpAny_Slice (thn (po_none.run pins s1 σ H1 (fun o H2 => o = none ∧ H2 = H1) I1 ⟨rfl, rfl⟩) fun vl s2 ⟨l, H2, I2, pl, el, e2⟩ => ?_)
  subst el e2
  refine thn (po_none.run pins s2 σ H2 (fun o H3 => o = none ∧ H3 = H2) I2 ⟨rfl, rfl⟩) fun vu s3 ⟨u, H3, I3, pu, eu, e3⟩ => ?_
  subst eu e3
  refine thn (hst.run pins s3 σ H3 (fun o H4 => o = some (-1) ∧ H4 = H3) I3 ⟨1, rfl, -1, rfl, rfl, rfl⟩) fun vs s4 ⟨o, H4, I4, ps, eo, e4⟩ => ?_
  subst eo e4
  obtain rfl : vl = Value.none := by cases pl; rfl
  obtain rfl : vu = Value.none := by cases pu; rfl
  obtain ⟨uk, rfl⟩ : ∃ uk, vs = Value.int (-1) uk := by cases ps; exact ⟨_, rfl⟩
  have I5 : L2.Inv X pins σ H4 { s4 with heap := s4.heap.push { cls := .type "slice", data := .fields #[.none, .none, .int (-1) uk] } } := I4.kept (t' := s4.toks) fun b ob q => Heap.get?_push_of_some _ q
  refine tail_of_ItemOn ⟨"bytes", _, PySem.W.FB.slot_bytes_getitem.lookup, PySem.W.typeIs_bytes _ _ _, PySem.getItem_meets (PySem.W.typeIs_bytes _ _ _) (by decide) PySem.W.FB.slot_bytes_getitem PySem.W.FB.entry_bytes_getitem (PySem.W.FB.args_bytes_getitem_2 _ _) (PySem.W.KBs.meets_step z t _ .none .none (by decide))
    ⟨Heap.IsSliceOf.new _ _ _ _, ?_, fun t' k' => ?_⟩⟩ (by with_unfolding_all rfl) (by intro _; cases e <;> rfl)
  · show (PySem.W.KBs.picked z none none (some (-1))).size ≤ sizeLine
    rw [← PySem.W.KBw.ints_length (PySem.W.KBs.picked z none none (some (-1))), PySem.W.KBs.ints_picked rfl, PySem.W.KBs.cut_reverse, List.length_reverse, PySem.W.KBw.ints_length, sizeLine_eq]
    exact hz
  · exact ⟨.byt _, H4, I5.tok _, ⟨_, rfl⟩, q⟩
def opRevB (x : T) (st : Sto) : R T := match x with
  | .byt z => if z.size ≤ 16777216 then .ok (.byt (PySem.W.KBs.picked z none none (some (-1)))) st else .bad
  | _ => .bad
theorem pm_revB {k : Nat} {m : M T} (h : PM X ad W e m) : PM X ad W (.Subscript e (.Slice none none (some (.UnaryOp .USub (.Constant (.int 1) k p1) p2)) p3) pos) (mUn opRevB m) :=
  peW (pe_revB h) fun σ H Q ⟨hd, ρ, as, st, A, E, q⟩ => ⟨hd, ρ, as, st, A, E, Post.step q fun x st1 as1 H1 vx A1 e1 r1 q1 => by
    unfold opRevB at q1
    split at q1
    · split at q1
      · exact ⟨_, r1.bytI, by assumption, Post.at A1 (.byt _) q1⟩
      · exact q1.elim
    · exact q1.elim⟩
def opMulB (x y : T) (st : Sto) : R T := match x, y with
  | .byt z, .int n => if z.toList ≠ [] ∧ 2 ≤ n ∧ n ≤ 1048576 ∧ z.toList.length * n.toNat ≤ 16777216 then .ok (.byt (List.replicate n.toNat z.toList).flatten.toArray) st else .bad
  | _, _ => .bad
theorem om_mulB : OpM X (binaryOp .Mult) opMulB := by
  refine ⟨fun x y H Q => ∃ (z : Array UInt8) (n : Int), x = .byt z ∧ y = .int n ∧ z.toList ≠ [] ∧ 2 ≤ n ∧ n ≤ 1048576 ∧ z.toList.length * n.toNat ≤ 16777216 ∧ Q (.byt (List.replicate n.toNat z.toList).flatten.toArray) H, ?_, ?_⟩
  · rintro pins s σ H x y v u Q I rx ry ⟨z, n, rfl, rfl, h1, h2, h3, h4, q⟩
    obtain ⟨t, rfl⟩ := rx
    obtain ⟨t', rfl⟩ := ry
    have hz : Value.bytes z t = Value.bytes z.toList.toArray t := by simp
    rw [hz]
    exact PySem.W.bytes_mul_K h1 h2 h3 h4 rfl fun t' k => ⟨.byt _, H, I.tok _, ⟨_, rfl⟩, q⟩
  · intro ad as st H x y tx ty Q W A rx ry q
    unfold opMulB at q
    split at q
    · split at q
      · rename_i h
        exact ⟨_, _, rx.bytI, ry.intI, h.1, h.2.1, h.2.2.1, h.2.2.2, Post.at A (.byt _) q⟩
      · exact q.elim
    · exact q.elim
end
section
variable {Q : T → Sto → Prop} {E : Exn → Sto → Prop} {st : Sto}
theorem Ok_revB {z : Array UInt8} : Ok (opRevB (.byt z) st) Q E ↔ z.size ≤ 16777216 ∧ Q (.byt (PySem.W.KBs.picked z none none (some (-1)))) st := by
  unfold opRevB; simp only [Ok_iteB, Ok_ok]
theorem Ok_mulB {z : Array UInt8} {n : Int} : Ok (opMulB (.byt z) (.int n) st) Q E ↔ (z.toList ≠ [] ∧ 2 ≤ n ∧ n ≤ 1048576 ∧ z.toList.length * n.toNat ≤ 16777216) ∧ Q (.byt (List.replicate n.toNat z.toList).flatten.toArray) st := by
  unfold opMulB; simp only [Ok_iteB, Ok_ok]
end
end Mi
namespace Mi
open PySem L2 PySem.Spec PyProof.Rows
/-! ### isinstance of an instance of an own class with a built-in type: False -/
def isnTys : List String := ["int", "bool", "str", "bytes", "tuple", "list", "dict"]
structure IsN (K : PySem.W.Frag) (C : Addr) : Prop where
  no : ∀ n ∈ isnTys, PySem.W.kitOne K (.ref C) (.type n) = some false
def fIsiX (c : Nat) (xs : List T) (st : Sto) : R T := match xs with
  | [t, .ty n] => match insAt st c t with
    | some _ => if isnTys.contains n then .ok (.bl false) st else .bad
    | none => fIsiS [t, .ty n] st
  | xs => fIsiS xs st
section
variable {X : Cx} {ad : Ad} {c : Nat}
theorem cm_isiX (C : IsN X.K (ad.fn c)) (D : IsC X.K (ad.fn c)) : CallMA X ad (.builtin "isinstance") (fIsiX c) := by
  obtain ⟨r0, c0, h0⟩ := cm_isiS (X := X)
  refine ⟨_, CallR.alt call_isi c0, fun hd as st H xs ts Q W A r q => ?_⟩
  unfold fIsiX at q
  split at q
  · split at q
    · rename_i t n _ p e
      split at q
      · rename_i hn
        obtain ⟨v, w, rfl, rv, rw⟩ := r.two
        obtain ⟨j, fs⟩ := p
        obtain ⟨a, dx, gs, rfl, _, _, ha, _⟩ := rv.ins A e
        cases rw
        exact .inl ⟨_, _, _, _, _, rfl, .ty _, .base (.ins ha D.ins.cl D.ins.ha D.ins.hn D.ins.htk D.ins.hm), C.no n (List.contains_iff_mem.mp hn), Post.at A (.bl _) q⟩
      · exact q.elim
    · exact .inr (h0 _ as st H xs _ Q W A r q)
  · exact .inr (h0 _ as st H xs _ Q W A r q)
end
section
variable {c : Nat} {st : Sto}
theorem isiX_ins {i : Nat} {fs : List (Str × T)} {n : String} (h : insF st c (.ref i) = some fs) (hn : isnTys.contains n = true) : fIsiX c [.ref i, .ty n] st = .ok (.bl false) st := by
  obtain ⟨j, e⟩ := insF_ex h
  unfold fIsiX
  simp only [e, hn, if_true]
theorem isiX_no {t : T} {n : String} (h : insF st c t = none) : fIsiX c [t, .ty n] st = fIsiS [t, .ty n] st := by
  have : insAt st c t = none := by
    unfold insF at h
    cases e : insAt st c t with
    | none => rfl
    | some p => rw [e] at h; cases h
  unfold fIsiX
  simp only [this]
@[simp] theorem isiX_int {i : Int} {n : String} : fIsiX c [.int i, .ty n] st = fIsiS [.int i, .ty n] st := rfl
@[simp] theorem isiX_bl {i : Bool} {n : String} : fIsiX c [.bl i, .ty n] st = fIsiS [.bl i, .ty n] st := rfl
@[simp] theorem isiX_str {i : Str} {n : String} : fIsiX c [.str i, .ty n] st = fIsiS [.str i, .ty n] st := rfl
@[simp] theorem isiX_byt {i : Array UInt8} {n : String} : fIsiX c [.byt i, .ty n] st = fIsiS [.byt i, .ty n] st := rfl
@[simp] theorem isiX_non {n : String} : fIsiX c [.non, .ty n] st = fIsiS [.non, .ty n] st := rfl
@[simp] theorem isiX_tup {l : List T} {n : String} : fIsiX c [.tup l, .ty n] st = fIsiS [.tup l, .ty n] st := rfl
@[simp] theorem isiX_lst {l : List T} {n : String} : fIsiX c [.lst l, .ty n] st = fIsiS [.lst l, .ty n] st := rfl
@[simp] theorem isiX_dct {l : List Key} {m : List T} {n : String} : fIsiX c [.dct l m, .ty n] st = fIsiS [.dct l m, .ty n] st := rfl
end
end Mi

/-! MiTup: dicts of the store: read, asked; dicts whose keys are tuples that are written where they are used; a class called without its one argument. -/
namespace Mi
open PySem L2
section
variable {κ : Type} [DecidableEq κ]
def valG (kvs : List (κ × T)) (k : κ) : Option T := (kvs.find? fun kv => decide (kv.1 = k)).map (·.2)
def putG (kvs : List (κ × T)) (k : κ) (v : T) : List (κ × T) :=
  if (kvs.any fun kv => decide (kv.1 = k)) = true then kvs.map (fun kv => if kv.1 = k then (kv.1, v) else kv) else kvs ++ [(k, v)]
theorem any_keysG {α β : Type} (k : κ) : ∀ {xs : List (κ × α)} {ys : List (κ × β)}, xs.map (·.1) = ys.map (·.1) → (xs.any fun kv => decide (kv.1 = k)) = (ys.any fun kv => decide (kv.1 = k))
  | [], [], _ => rfl
  | x :: xs, y :: ys, h => by
    simp only [List.map_cons, List.cons.injEq] at h
    rw [List.any_cons, List.any_cons, h.1, any_keysG k h.2]
  | [], _ :: _, h => by simp at h
  | _ :: _, [], h => by simp at h
variable {K : PySem.W.Frag} {ad : Ad} {as : List Addr} {H : Hp}
theorem map_putG {k : κ} {v : V} {t : T} (r : Rep K ad as H v t) : ∀ {xs : List (κ × V)} {ys : List (κ × T)}, xs.map (·.1) = ys.map (·.1) → Reps K ad as H (xs.map (·.2)) (ys.map (·.2)) →
    (xs.map fun kv => if kv.1 = k then (kv.1, v) else kv).map (·.1) = (ys.map fun kv => if kv.1 = k then (kv.1, t) else kv).map (·.1) ∧
      Reps K ad as H ((xs.map fun kv => if kv.1 = k then (kv.1, v) else kv).map (·.2)) ((ys.map fun kv => if kv.1 = k then (kv.1, t) else kv).map (·.2))
  | [], [], _, _ => ⟨rfl, .nil⟩
  | x :: xs, y :: ys, h, q => by
    simp only [List.map_cons, List.cons.injEq] at h q ⊢
    cases q with
    | cons q1 q2 =>
      obtain ⟨g1, g2⟩ := map_putG (k := k) r h.2 q2
      rw [h.1]
      by_cases e : y.1 = k
      · rw [if_pos e, if_pos e]
        exact ⟨⟨rfl, g1⟩, .cons r g2⟩
      · rw [if_neg e, if_neg e]
        exact ⟨⟨h.1, g1⟩, .cons q1 g2⟩
  | [], _ :: _, h, _ => by simp at h
  | _ :: _, [], h, _ => by simp at h
theorem putG_rep {k : κ} {v : V} {t : T} (r : Rep K ad as H v t) {xs : List (κ × V)} {ys : List (κ × T)} (h : xs.map (·.1) = ys.map (·.1)) (q : Reps K ad as H (xs.map (·.2)) (ys.map (·.2))) :
    (putK xs k v).map (·.1) = (putG ys k t).map (·.1) ∧ Reps K ad as H ((putK xs k v).map (·.2)) ((putG ys k t).map (·.2)) := by
  unfold putK putG
  rw [any_keysG k h]
  split
  · exact map_putG r h q
  · simp only [List.map_append, List.map_cons, List.map_nil]
    exact ⟨by rw [h], q.append (.cons r .nil)⟩
theorem valG_rep {k : κ} : ∀ {xs : List (κ × V)} {ys : List (κ × T)}, xs.map (·.1) = ys.map (·.1) → Reps K ad as H (xs.map (·.2)) (ys.map (·.2)) →
    match valG ys k with
    | some t => ∃ v, valV xs k = some v ∧ Rep K ad as H v t
    | none => valV xs k = none
  | [], [], _, _ => rfl
  | x :: xs, y :: ys, h, q => by
    simp only [List.map_cons, List.cons.injEq] at h q
    cases q with
    | cons q1 q2 =>
      have ih := valG_rep (k := k) h.2 q2
      unfold valG valV at ih ⊢
      rw [List.find?_cons, List.find?_cons, h.1]
      by_cases e : y.1 = k
      · simp only [e, decide_true]
        exact ⟨_, rfl, q1⟩
      · simp only [e, decide_false]
        exact ih
  | [], _ :: _, h, _ => by simp at h
  | _ :: _, [], h, _ => by simp at h
end
section
variable {X : Cx} {ad : Ad} {W : WX} {pos p apos cpos tpos : Pos} {o e value : Expr} {es : List Expr} {c : Nat}
/-! ### texts and ints as keys: d[k], k in d -/
def mDGet (mo mi : M T) : M T := fun ρ st => (mo ρ st).bind fun x st1 => (mi ρ st1).bind fun y st2 => match dctAt st2 x, keyT y with
  | some (_, kvs), some k => match valG kvs k with
    | some t => .ok t st2
    | none => .bad
  | _, _ => .bad
theorem pm_dget {mo mi : M T} {i : Expr} (hu : X.A.units + 1 < cLine) (ho : PM X ad W o mo) (hi : PM X ad W i mi) (hs : NoSl i) : PM X ad W (.Subscript o i pos) (mDGet mo mi) :=
  peW (pe_dget hu ho hi hs) fun σ H Q ⟨hd, ρ, as, st, A, E, q⟩ => ⟨hd, ρ, as, st, A, E, Post.step q fun x st1 as1 H1 vx A1 e1 r1 q1 =>
    ⟨hd, ρ, as1, st1, A1, E.ext e1, Post.step q1 fun y st2 as2 H2 vy A2 e2 r2 q2 => by
      split at q2
      · rename_i i kvs k ei ek
        split at q2
        · rename_i t et
          obtain ⟨a, xs, rfl, h2, h3, h4, h5, h6⟩ := (r1.ext e2).dctAt A2 ei
          obtain rfl := keyT_rep r2 ek
          have g := valG_rep (k := k) h5 h6
          rw [et] at g
          obtain ⟨v, g1, g2⟩ := g
          exact ⟨a, v, rfl, by rw [← g1]; exact .k h4, Post.at A2 g2 q2⟩
        · exact q2.elim
      · exact q2.elim⟩⟩
def opDIn (neg : Bool) (x y : T) (st : Sto) : R T := match dctAt st y, keyT x with
  | some (_, kvs), some k => .ok (.bl (if neg then !(valG kvs k).isSome else (valG kvs k).isSome)) st
  | _, _ => .bad
def mDIn (neg : Bool) (mi mo : M T) : M T := mBin (opDIn neg) mi mo
theorem isSome_rep {κ : Type} [DecidableEq κ] {K : PySem.W.Frag} {as : List Addr} {H : Hp} {k : κ} {xs : List (κ × V)} {ys : List (κ × T)} (h : xs.map (·.1) = ys.map (·.1)) (q : Reps K ad as H (xs.map (·.2)) (ys.map (·.2))) : (valV xs k).isSome = (valG ys k).isSome := by
  have g := valG_rep (k := k) h q
  cases e : valG ys k with
  | none => rw [e] at g; rw [g]; rfl
  | some t => rw [e] at g; obtain ⟨v, g1, _⟩ := g; rw [g1]; rfl
theorem t_din {neg : Bool} {mi mo : M T} {σ : St} {H : Hp} {Q : VK} (h : tM X.K ad (Rep X.K) W (mDIn neg mi mo) σ H Q) :
    tM X.K ad (Rep X.K) W mi σ H fun y H1 => tM X.K ad (Rep X.K) W mo σ H1 fun x H2 => ∃ a o, x = .ref a ∧ DGet H2 a y o ∧ Q (.bl (if neg then !o.isSome else o.isSome)) H2 := by
  obtain ⟨hd, ρ, as, st, A, E, q⟩ := h
  exact ⟨hd, ρ, as, st, A, E, Post.step q fun y st1 as1 H1 vy A1 e1 r1 q1 =>
    ⟨hd, ρ, as1, st1, A1, E.ext e1, Post.step q1 fun x st2 as2 H2 vx A2 e2 r2 q2 => by
      unfold opDIn at q2
      split at q2
      · rename_i i kvs k ei ek
        obtain ⟨a, xs, rfl, h2, h3, h4, h5, h6⟩ := r2.dctAt A2 ei
        obtain rfl := keyT_rep r1 ek
        refine ⟨a, _, rfl, .k h4, ?_⟩
        rw [isSome_rep h5 h6]
        exact Post.at A2 (.bl _) q2
      · exact q2.elim⟩⟩
theorem pm_din {mi mo : M T} {i : Expr} (hu : X.A.units + 1 < cLine) (hi : PM X ad W i mi) (ho : PM X ad W o mo) (hm : behindInMarks .In o = false) : PM X ad W (.Compare i [.In] [o] pos) (mDIn false mi mo) :=
  peW (pe_cmp (pc_din hu hi ho) hm) fun σ H Q h => t_din h
theorem pm_dnotin {mi mo : M T} {i : Expr} (hu : X.A.units + 1 < cLine) (hi : PM X ad W i mi) (ho : PM X ad W o mo) (hm : behindInMarks .NotIn o = false) : PM X ad W (.Compare i [.NotIn] [o] pos) (mDIn true mi mo) :=
  peW (pe_cmp (pc_dnotin hu hi ho) hm) fun σ H Q h => t_din h
/-! ### tuples as keys -/
def mDictT : M T := fun _ st => .ok (.ref st.length) (st ++ [.dtt []])
theorem pm_dictT : PM X ad W (.Dict [] [] pos) mDictT :=
  peW pe_dnewT fun σ H Q ⟨hd, ρ, as, st, A, E, q⟩ p hp => by
    obtain ⟨B, ex, r⟩ := A.newO (u := .dT []) (o := .dtt []) hp fun e => ⟨[], upd_same, rfl, .nil⟩
    exact q.to B ex r
def keysK : List T → Option (List Key)
  | [] => some []
  | t :: ts => match keyT t, keysK ts with
    | some k, some ks => some (k :: ks)
    | _, _ => none
theorem keysK_rep {K : PySem.W.Frag} {as : List Addr} {H : Hp} : ∀ {vs : List V} {ts : List T} {ks : List Key}, Reps K ad as H vs ts → keysK ts = some ks → vs = ks.map kV
  | _, _, _, .nil, h => by cases h; rfl
  | _, _, _, .cons r s, h => by
    unfold keysK at h
    split at h
    · rename_i k ks e1 e2
      cases h
      rw [List.map_cons, ← keyT_rep r e1, keysK_rep s e2]
    · cases h
def dttAt (st : Sto) (t : T) : Option (Nat × List (List Key × T)) := match t with
  | .ref i => match st[i]? with
    | some (.dtt kvs) => some (i, kvs)
    | _ => none
  | _ => none
theorem Rep.dttAt {K : PySem.W.Frag} {as : List Addr} {H : Hp} {st : Sto} {i : Nat} {kvs : List (List Key × T)} {v : V} {t : T} (A : Ab K ad as st H) (r : Rep K ad as H v t) (h : dttAt st t = some (i, kvs)) :
    ∃ a xs, v = .ref a ∧ as[i]? = some a ∧ i < st.length ∧ H a = some (.dT xs) ∧ xs.map (·.1) = kvs.map (·.1) ∧ Reps K ad as H (xs.map (·.2)) (kvs.map (·.2)) := by
  unfold Mi.dttAt at h
  split at h
  · split at h
    · rename_i e
      cases h
      obtain ⟨a, h2, xs, h3, h4, h5⟩ := A.get e
      cases r with
      | ref h7 =>
        rw [h2] at h7; cases h7
        exact ⟨_, xs, rfl, h2, (List.getElem?_eq_some_iff.mp e).1, h3, h4, h5⟩
    · cases h
  · cases h
def mDGetT (mo : M T) (ms : M (List T)) : M T := fun ρ st => (mo ρ st).bind fun x st1 => (ms ρ st1).bind fun ts st2 => if ts.length ≤ sizeLine then (match dttAt st2 x, keysK ts with
  | some (_, kvs), some k => match valG kvs k with
    | some t => .ok t st2
    | none => .bad
  | _, _ => .bad) else .bad
theorem pm_dgetT {mo : M T} {ms : M (List T)} {k : Nat} (hu : X.A.units + 1 < cLine) (ho : PM X ad W o mo) (hi : PMA X ad W es ms) (hs : NoSl (.Tuple es k tpos)) : PM X ad W (.Subscript o (.Tuple es k tpos) pos) (mDGetT mo ms) :=
  peW (pe_dget hu ho (pe_tup hi) hs) fun σ H Q ⟨hd, ρ, as, st, A, E, q⟩ => ⟨hd, ρ, as, st, A, E, Post.step q fun x st1 as1 H1 vx A1 e1 r1 q1 =>
    ⟨hd, ρ, as1, st1, A1, E.ext e1, Post.step q1 fun ts st2 as2 H2 vs A2 e2 r2 q2 => by
      split at q2
      · rename_i hl
        refine ⟨by rw [r2.length]; exact hl, fun p hp => ?_⟩
        split at q2
        · rename_i i kvs k ei ek
          split at q2
          · rename_i t et
            have B := A2.fresh (u := .tup vs) hp
            have ex := Ext.fresh (as := as2) (o := .tup vs) hp
            obtain ⟨a, xs, rfl, h2, h3, h4, h5, h6⟩ := ((r1.ext e2).ext ex).dttAt B ei
            obtain rfl := keysK_rep r2 ek
            have g := valG_rep (k := k) h5 h6
            rw [et] at g
            obtain ⟨v, g1, g2⟩ := g
            exact ⟨a, v, rfl, by rw [← g1]; exact .t h4 upd_same, q2.to B ex g2⟩
          · exact q2.elim
        · exact q2.elim
      · exact q2.elim⟩⟩
def mDInT (neg : Bool) (ms : M (List T)) (mo : M T) : M T := fun ρ st => (ms ρ st).bind fun ts st1 => if ts.length ≤ sizeLine then ((mo ρ st1).bind fun x st2 => match dttAt st2 x, keysK ts with
  | some (_, kvs), some k => .ok (.bl (if neg then !(valG kvs k).isSome else (valG kvs k).isSome)) st2
  | _, _ => .bad) else .bad
theorem t_dinT {neg : Bool} {ms : M (List T)} {mo : M T} {σ : St} {H : Hp} {Q : VK} (h : tM X.K ad (Rep X.K) W (mDInT neg ms mo) σ H Q) :
    tTup (tM X.K ad (Reps X.K) W ms) σ H fun y H1 => tM X.K ad (Rep X.K) W mo σ H1 fun x H2 => ∃ a o, x = .ref a ∧ DGet H2 a y o ∧ Q (.bl (if neg then !o.isSome else o.isSome)) H2 := by
  obtain ⟨hd, ρ, as, st, A, E, q⟩ := h
  exact ⟨hd, ρ, as, st, A, E, Post.step q fun ts st1 as1 H1 vs A1 e1 r1 q1 => by
    split at q1
    · rename_i hl
      refine ⟨by rw [r1.length]; exact hl, fun p hp => ?_⟩
      have ex := Ext.fresh (as := as1) (o := .tup vs) hp
      refine ⟨hd, ρ, as1, st1, A1.fresh hp, (E.ext e1).ext ex, Post.step (Post.ext ex q1) fun x st2 as2 H2 vx A2 e2 r2 q2 => ?_⟩
      split at q2
      · rename_i i kvs k ei ek
        obtain ⟨a, xs, rfl, h2, h3, h4, h5, h6⟩ := r2.dttAt A2 ei
        have ev := keysK_rep r1 ek
        rw [ev] at e2
        refine ⟨a, _, rfl, .t h4 (e2.kp (A1.nin hp) upd_same), ?_⟩
        rw [isSome_rep h5 h6]
        exact Post.at A2 (.bl _) q2
      · exact q2.elim
    · exact q1.elim⟩
theorem pm_dinT {ms : M (List T)} {mo : M T} {k : Nat} (hu : X.A.units + 1 < cLine) (hi : PMA X ad W es ms) (ho : PM X ad W o mo) (hm : behindInMarks .In o = false) : PM X ad W (.Compare (.Tuple es k tpos) [.In] [o] pos) (mDInT false ms mo) :=
  peW (pe_cmp (pc_din hu (pe_tup hi) ho) hm) fun σ H Q h => t_dinT h
theorem pm_dnotinT {ms : M (List T)} {mo : M T} {k : Nat} (hu : X.A.units + 1 < cLine) (hi : PMA X ad W es ms) (ho : PM X ad W o mo) (hm : behindInMarks .NotIn o = false) : PM X ad W (.Compare (.Tuple es k tpos) [.NotIn] [o] pos) (mDInT true ms mo) :=
  peW (pe_cmp (pc_dnotin hu (pe_tup hi) ho) hm) fun σ H Q h => t_dinT h
def sDPutT (mo : M T) (ms : M (List T)) (mv : M T) : SM := fun ρ st => RS.of (mv ρ st) ρ fun v st1 => RS.of (mo ρ st1) ρ fun x st2 => RS.of (ms ρ st2) ρ fun ts st3 => if ts.length ≤ sizeLine then (match dttAt st3 x, keysK ts with
  | some (i, kvs), some k => if kvs.length < sizeLine then .nx ρ (st3.set i (.dtt (putG kvs k v))) else .bad
  | _, _ => .bad) else .bad
theorem pms_dputT {mo mv : M T} {ms : M (List T)} {k : Nat} {ipos : Pos} (hu : X.A.units + 1 < cLine) (ho : PM X ad W o mo) (hi : PMA X ad W es ms) (hv : PM X ad W value mv) (hs : swapsWith value (some (.Subscript o (.Tuple es k ipos) tpos)) pos.line X.env = pure false := by rfl) :
    PMS X ad W (.Assign [.Subscript o (.Tuple es k ipos) tpos] value pos) (sDPutT mo ms mv) :=
  psW (ps_dput hu ho (pe_tup hi) hv hs) fun D σ H ⟨hd, ρ, as, st, A, E, q⟩ => ⟨hd, ρ, as, st, A, E, PostS.expr E q fun v st1 as1 H1 vv A1 e1 r1 q1 =>
    ⟨hd, ρ, as1, st1, A1, E.ext e1, PostS.expr (E.ext e1) q1 fun x st2 as2 H2 vx A2 e2 r2 q2 =>
      ⟨hd, ρ, as2, st2, A2, (E.ext e1).ext e2, PostS.expr ((E.ext e1).ext e2) q2 fun ts st3 as3 H3 vs A3 e3 r3 q3 => by
        split at q3
        · rename_i hl0
          refine ⟨by rw [r3.length]; exact hl0, fun p hp => ?_⟩
          split at q3
          · rename_i i kvs k ei ek
            split at q3
            · rename_i hl
              have A4 := A3.fresh (u := .tup vs) hp
              have e4 := Ext.fresh (as := as3) (o := .tup vs) hp
              obtain ⟨a, xs, rfl, h2, h3, h4, h5, h6⟩ := ((r2.ext e3).ext e4).dttAt A4 ei
              obtain rfl := keysK_rep r3 ek
              obtain ⟨g1, g2⟩ := putG_rep (k := k) (((r1.ext e2).ext e3).ext e4) h5 h6
              obtain ⟨B, ex⟩ := A4.putO (u := .dT (putK xs k vv)) (o := .dtt (putG kvs k v)) h2 h3 fun e => ⟨_, upd_same, g1, g2.ext e⟩
              have hlen : xs.length = kvs.length := by
                have := congrArg List.length h5
                simpa using this
              exact ⟨a, _, rfl, .t h4 upd_same (by rw [hlen]; exact hl), q3 as3 _ _ B (e4.trans ex) (((((E.ext e1).ext e2).ext e3).ext e4).ext ex)⟩
            · exact q3.elim
          · exact q3.elim
        · exact q3.elim⟩⟩⟩
/-! ### C(), its one argument by default -/
variable {k n : Nat} {fa : Addr} {fd : FuncData} {ps : List Str} {F : List T → Sto → R T} {x m : Str}
theorem run_gmakeD {sp : Sp} {pins : List (Addr × PySem.Obj)} {σ : St} {H : Hp} {s : Shared} {Q : VK} {d : Value} {dv : V} {C : Addr} (M : Mk X.K C fa) (G : GnOk X.prog X.w X.K X.mg X.base k fa fd ps sp) (S : Sit X W (k + 1)) (hb : Binds X.K fd ps [d]) (I : Inv X pins σ H s) (r : RelV dv d)
    (h : ∀ x dx, H x = none → H dx = none → dx ≠ x → sp [.ref x, dv] (upd (upd H dx (.own x)) x (.ins C dx [])) (fun v H2 => v = .non ∧ Q (.ref x) H2) fun u d H' => W u d σ H') :
    wpAny (model X.prog X.w) X.A (call (.ref C) []) (EP X pins σ Q) X.xe s := by
  have hq := h (s.heap.objs.size + 1) s.heap.objs.size (I.hok.fresh (Nat.le_succ _)) (I.hok.fresh (Nat.le_refl _)) (Nat.ne_of_lt (Nat.lt_succ_self _))
  have I2 := Inv.made (C := C) I
  have r2 : Vals [V.ref (s.heap.objs.size + 1), dv] [Value.ref (s.heap.objs.size + 1), d] := .cons rfl (.cons r .nil)
  have hl : [Value.ref (s.heap.objs.size + 1), d].length = ps.length := by
    have e := r2.length
    rw [G.len _ _ _ _ hq] at e
    exact e.symm
  have bb := hb _ [Value.ref (s.heap.objs.size + 1)] I2.kIn (by simpa using hl)
  have hgd : (X.A.under (.builtin "type.__call__" ⟨[.ref C], []⟩)).guards = some [] := by
    have := S.gd
    first | exact this | simpa [Around.under, Code.weight, Code.isCreation, Code.isGuard, Code.isCaller, Code.frames, Code.isFrame, guardIds] using this
  refine wpAny_call (make_map (f := fa) I.kIn M.makes M.init (beq_iff_eq.mp M.fn) (codeAny_mono (G.run _ X.stack _ _ ⟨[Value.ref (s.heap.objs.size + 1)], []⟩ [Value.ref (s.heap.objs.size + 1), d] _ _ _ (S.rm.make C [] [])
    hgd (I2.env0.make C [] []) bb r2 hq) fun r s' hq' => ?_))
  cases r with
  | error e => exact S.tk e s' (XE.of_call I2 (fun _ _ _ z => z) hq')
  | ok fl =>
    cases fl with
    | ret u =>
      obtain ⟨v, H', I3, rv, ev, q3⟩ := I2.after hq'
      subst ev
      exact ⟨rv, ⟨V.ref (s.heap.objs.size + 1), H', I3, rfl, q3⟩⟩
    | next => exact False.elim hq'
    | brk => exact False.elim hq'
    | cont => exact False.elim hq'
/-- the default of the last parameter -/
def Dfl (K : PySem.W.Frag) (fd : FuncData) (ps : List Str) (t : T) : Prop := ∃ d, Binds K fd ps [d] ∧ Cst K d t
theorem binds_dfl1 {K : PySem.W.Frag} {fd : FuncData} {ps : List Str} {T : Addr} {o : Obj} {d : Value} {n : Nat} (lT : K.lookup T = some o) (oT : o.data = .seq #[d] n)
    (h : ∀ us : List Value, us.length + 1 = ps.length → ∃ k, bindArgs fd ⟨us, []⟩ = seqItems? (.ref T) >>= k ∧ k (some #[d]) = pure (ps.zip (us ++ [d]))) : Binds K fd ps [d] := fun s us X hl => by
  obtain ⟨k, e1, e2⟩ := h us (by simpa using hl)
  exact BindsTo.of_looks fun M => by
    rw [e1]
    exact looks_items X lT oT (by rw [e2]; exact PySem.W.Looks.of_pure rfl)
theorem pm_makeD {t : T} (M : Mk X.K (ad.fn c) fa) (G : GnOk X.prog X.w X.K X.mg X.base k fa fd ps (spF X.K ad n F)) (S : Sit X W (k + 1)) (hg : Gl X x) (hm : X.mg x = some (.ref (ad.fn c))) (hb : Dfl X.K fd ps t)
    (hdb : (x == ("__debug__" : Str)) = false := by decide) :
    PM X ad W (.Call (.Name x p) [] [] pos) (mMake n c F (mCons (mC t) mNil)) := by
  refine ⟨fun pins s σ H Q I ⟨hd, ρ, as, st, A, E, q⟩ => wpAny_Call_Name_kw (ld_glob I hg hm ?_ hdb)⟩
  obtain ⟨d, hb, hc⟩ := hb
  obtain ⟨dv, rd, rp⟩ := hc.rep
  replace q : Post X.K (ad.hide hd) (Rep X.K (ad.hide hd)) as H Q (fun u d H' => W u d σ H') (if 1 + 1 = n then (F [.ref st.length, t] (st ++ [.ins c []])).bind fun r st2 => match r with | .non => .ok (.ref st.length) st2 | _ => .bad else .bad) := q
  refine PySem.W.callWith_K0 I.kIn M.kp (run_gmakeD M G S hb I rd fun x dx hx hdx hne => ?_)
  split at q
  · rename_i hn
    have hx' : (upd H dx (.own x)) x = none := by rw [upd_ne (Ne.symm hne)]; exact hx
    have A2 : Ab X.K (ad.hide hd) as st (upd H dx (.own x)) := A.fresh hdx
    obtain ⟨B, ex, rx⟩ := A2.newO (u := .ins (ad.fn c) dx []) (o := .ins c []) hx' fun e => ⟨dx, [], upd_same, by rw [upd_ne hne, upd_same], fun hmem => by
      rcases List.mem_append.mp hmem with hm | hm
      · exact A.nin hdx hm
      · simp at hm; exact hne hm, .nil⟩
    have ext2 := (Ext.fresh (as := as) (o := .own x) hdx).trans ex
    refine ⟨hn, hd, _, _, _, B, .cons rx (.cons (rp _ _ _) .nil), ?_⟩
    have q2 := Post.ext ext2 q
    revert q2
    cases F [.ref st.length, t] (st ++ [.ins c []]) with
    | ok t' st2 =>
      intro q2 as3 H3 v A3 e3 r3
      cases t' <;> try exact q2.elim
      exact ⟨r3.nonI, q2 as3 H3 _ A3 e3 (rx.ext e3)⟩
    | exc y st2 => exact fun q2 => q2
    | bad => exact fun q2 => q2
  · exact q.elim
end
/-! ### as tests -/
section
variable {X : Cx} {ad : Ad} {W : WX} {pos tpos : Pos} {o i c a b : Expr} {es : List Expr}
theorem ptM_din {mi mo : M T} (hu : X.A.units + 1 < cLine) (hi : PM X ad W i mi) (ho : PM X ad W o mo) (hm : behindInMarks .In o = false) : PMT X ad W (.Compare i [.In] [o] pos) (mTest (mDIn false mi mo)) :=
  ptW (pt_cmp (pc_din hu hi ho) hm) fun σ H Q h => t_din (tTest_ σ H Q h)
theorem ptM_dnotin {mi mo : M T} (hu : X.A.units + 1 < cLine) (hi : PM X ad W i mi) (ho : PM X ad W o mo) (hm : behindInMarks .NotIn o = false) : PMT X ad W (.Compare i [.NotIn] [o] pos) (mTest (mDIn true mi mo)) :=
  ptW (pt_cmp (pc_dnotin hu hi ho) hm) fun σ H Q h => t_din (tTest_ σ H Q h)
theorem ptM_dinT {ms : M (List T)} {mo : M T} {k : Nat} (hu : X.A.units + 1 < cLine) (hi : PMA X ad W es ms) (ho : PM X ad W o mo) (hm : behindInMarks .In o = false) : PMT X ad W (.Compare (.Tuple es k tpos) [.In] [o] pos) (mTest (mDInT false ms mo)) :=
  ptW (pt_cmp (pc_din hu (pe_tup hi) ho) hm) fun σ H Q h => t_dinT (tTest_ σ H Q h)
theorem ptM_dnotinT {ms : M (List T)} {mo : M T} {k : Nat} (hu : X.A.units + 1 < cLine) (hi : PMA X ad W es ms) (ho : PM X ad W o mo) (hm : behindInMarks .NotIn o = false) : PMT X ad W (.Compare (.Tuple es k tpos) [.NotIn] [o] pos) (mTest (mDInT true ms mo)) :=
  ptW (pt_cmp (pc_dnotin hu (pe_tup hi) ho) hm) fun σ H Q h => t_dinT (tTest_ σ H Q h)
/-- a if c else b, as a test -/
def tIfT (t ta tb : TT) : TT := fun σ H Q => t σ H fun c H1 => if c = true then ta σ H1 Q else tb σ H1 Q
theorem pt_ifExp {tc ta tb : TT} (hc : PT X c tc) (ha : PT X a ta) (hb : PT X b tb) : PT X (.IfExp c a b pos) (tIfT tc ta tb) := by
  refine ⟨fun pins s σ H Q I h => ?_⟩
  refine PyProof.Rows.isTrue_IfExp (thn (hc.run pins s σ H _ I h) fun d s1 ⟨H1, I1, q1⟩ => ?_)
  cases d with
  | true => exact ha.run pins s1 σ H1 Q I1 q1
  | false => exact hb.run pins s1 σ H1 Q I1 q1
def mTIte (c a b : M Bool) : M Bool := fun ρ st => (c ρ st).bind fun x st1 => match x with
  | true => a ρ st1
  | false => b ρ st1
theorem ptM_ite {mc ma mb : M Bool} (hc : PMT X ad W c mc) (ha : PMT X ad W a ma) (hb : PMT X ad W b mb) : PMT X ad W (.IfExp c a b pos) (mTIte mc ma mb) :=
  ptW (pt_ifExp hc ha hb) fun σ H Q ⟨hd, ρ, as, st, A, E, q⟩ => ⟨hd, ρ, as, st, A, E, Post.step q fun x st1 as1 H1 vx A1 e1 r1 q1 => by
    obtain rfl := r1
    cases vx with
    | true => exact ⟨hd, ρ, as1, st1, A1, E.ext e1, q1⟩
    | false => exact ⟨hd, ρ, as1, st1, A1, E.ext e1, q1⟩⟩
@[simp] theorem Ok_tIte {Q : Bool → Sto → Prop} {E : Exn → Sto → Prop} {ρ : Sl} {y0 : Option T} {st : Sto} (c a b : M Bool) : Ok (mTIte c a b (y0 :: ρ) st) Q E ↔ Ok (c (y0 :: ρ) st) (fun x st1 => if x = true then Ok (a (y0 :: ρ) st1) Q E else Ok (b (y0 :: ρ) st1) Q E) E := by
  unfold mTIte
  rw [Ok_bind]
  refine iff_of_eq (congrArg (fun f => Ok (c (y0 :: ρ) st) f E) ?_)
  funext x st1
  cases x <;> rfl
end
/-! ### what they ask -/
def dttF (st : Sto) (t : T) : Option (List (List Key × T)) := (dttAt st t).map (·.2)
theorem dctF_ref {st : Sto} {i : Nat} {kvs : List (Key × T)} (h : st[i]? = some (.dct kvs)) : dctF st (.ref i) = some kvs := by simp [dctF, dctAt, h]
theorem dttF_ref {st : Sto} {i : Nat} {kvs : List (List Key × T)} (h : st[i]? = some (.dtt kvs)) : dttF st (.ref i) = some kvs := by simp [dttF, dttAt, h]
theorem dttF_at {st : Sto} {i : Nat} {t : T} {fs : List (List Key × T)} (h : dttAt st t = some (i, fs)) : t = .ref i ∧ dttF st t = some fs := by
  refine ⟨?_, by unfold dttF; rw [h]; rfl⟩
  unfold dttAt at h
  split at h
  · split at h
    · cases h; rfl
    · cases h
  · cases h
section
variable {Q : T → Sto → Prop} {E : Exn → Sto → Prop} {ρ : Sl} {y0 : Option T} {st : Sto} {N : Sl → Sto → Prop} {Rt : T → Sto → Prop} {B C : Sl → Sto → Prop} {Ex : Exn → Sl → Sto → Prop}
@[simp] theorem Ok_dictT : Ok (mDictT (y0 :: ρ) st) Q E ↔ Q (.ref st.length) (st ++ [.dtt []]) := Iff.rfl
@[simp] theorem Ok_dget (mo mi : M T) : Ok (mDGet mo mi (y0 :: ρ) st) Q E ↔ Ok (mo (y0 :: ρ) st) (fun x st1 => Ok (mi (y0 :: ρ) st1) (fun y st2 => ∃ kvs, dctF st2 x = some kvs ∧ ∃ k, keyT y = some k ∧ ∃ t, valG kvs k = some t ∧ Q t st2) E) E := by
  unfold mDGet
  rw [Ok_bind]
  refine Ok_congr fun x st1 => ?_
  rw [Ok_bind]
  refine Ok_congr fun y st2 => ?_
  unfold dctF
  cases h : dctAt st2 x with
  | none => simp
  | some p =>
    cases h2 : keyT y with
    | none => simp
    | some k =>
      cases h3 : valG p.2 k with
      | none => simp [h3]
      | some t => simp [h3]
@[simp] theorem Ok_dIn (neg : Bool) (x y : T) : Ok (opDIn neg x y st) Q E ↔ ∃ kvs, dctF st y = some kvs ∧ ∃ k, keyT x = some k ∧ Q (.bl (if neg then !(valG kvs k).isSome else (valG kvs k).isSome)) st := by
  unfold opDIn dctF
  cases h : dctAt st y with
  | none => simp
  | some p =>
    cases h2 : keyT x with
    | none => simp
    | some k => simp
@[simp] theorem Ok_mDIn (neg : Bool) (mi mo : M T) : Ok (mDIn neg mi mo (y0 :: ρ) st) Q E ↔ Ok (mi (y0 :: ρ) st) (fun x st1 => Ok (mo (y0 :: ρ) st1) (fun y st2 => Ok (opDIn neg x y st2) Q E) E) E := Ok_bin (opDIn neg) mi mo
@[simp] theorem Ok_dgetT (mo : M T) (ms : M (List T)) : Ok (mDGetT mo ms (y0 :: ρ) st) Q E ↔ Ok (mo (y0 :: ρ) st) (fun x st1 => Ok (ms (y0 :: ρ) st1) (fun ts st2 => ts.length ≤ sizeLine ∧ ∃ kvs, dttF st2 x = some kvs ∧ ∃ k, keysK ts = some k ∧ ∃ t, valG kvs k = some t ∧ Q t st2) E) E := by
  unfold mDGetT
  rw [Ok_bind]
  refine Ok_congr fun x st1 => ?_
  rw [Ok_bind]
  refine Ok_congr fun y st2 => ?_
  rw [Ok_iteB]
  unfold dttF
  cases h : dttAt st2 x with
  | none => simp
  | some p =>
    cases h2 : keysK y with
    | none => simp
    | some k =>
      cases h3 : valG p.2 k with
      | none => simp [h3]
      | some t => simp [h3]
@[simp] theorem Ok_dinT (neg : Bool) (ms : M (List T)) (mo : M T) : Ok (mDInT neg ms mo (y0 :: ρ) st) Q E ↔ Ok (ms (y0 :: ρ) st) (fun ts st1 => ts.length ≤ sizeLine ∧ Ok (mo (y0 :: ρ) st1) (fun x st2 => ∃ kvs, dttF st2 x = some kvs ∧ ∃ k, keysK ts = some k ∧ Q (.bl (if neg then !(valG kvs k).isSome else (valG kvs k).isSome)) st2) E) E := by
  unfold mDInT
  rw [Ok_bind]
  refine Ok_congr fun ts st1 => ?_
  rw [Ok_iteB, Ok_bind]
  refine and_congr Iff.rfl (Ok_congr fun x st2 => ?_)
  unfold dttF
  cases h : dttAt st2 x with
  | none => simp
  | some p =>
    cases h2 : keysK ts with
    | none => simp
    | some k => simp
@[simp] theorem OkS_dputT (mo : M T) (ms : M (List T)) (mv : M T) : OkS (sDPutT mo ms mv (y0 :: ρ) st) N Rt B C Ex ↔ Ok (mv (y0 :: ρ) st) (fun v st1 => Ok (mo (y0 :: ρ) st1) (fun x st2 => Ok (ms (y0 :: ρ) st2) (fun ts st3 => ts.length ≤ sizeLine ∧ ∃ i, x = .ref i ∧ ∃ kvs, dttF st3 (.ref i) = some kvs ∧ ∃ k, keysK ts = some k ∧ kvs.length < sizeLine ∧ N (y0 :: ρ) (st3.set i (.dtt (putG kvs k v))))
    (fun e st => Ex e (y0 :: ρ) st)) (fun e st => Ex e (y0 :: ρ) st)) (fun e st => Ex e (y0 :: ρ) st) := by
  unfold sDPutT
  rw [OkS_of]
  refine Ok_congr fun v st1 => ?_
  rw [OkS_of]
  refine Ok_congr fun x st2 => ?_
  rw [OkS_of]
  refine Ok_congr fun ts st3 => ?_
  by_cases hl0 : ts.length ≤ sizeLine
  · rw [if_pos hl0]
    cases h : dttAt st3 x with
    | none =>
      constructor
      · exact fun h => h.elim
      · rintro ⟨_, i, rfl, kvs, h1, _⟩
        unfold dttF at h1
        rw [h] at h1; cases h1
    | some p =>
      obtain ⟨i, kvs⟩ := p
      obtain ⟨rfl, h1⟩ := dttF_at h
      cases h2 : keysK ts with
      | none => simp [OkS]
      | some k =>
        by_cases hl : kvs.length < sizeLine
        · simp only [hl, if_true, OkS_nx]
          exact ⟨fun q => ⟨hl0, i, rfl, kvs, h1, k, rfl, hl, q⟩, fun ⟨_, j, e, kvs', h3, k', e2, _, q⟩ => by cases e; rw [h1] at h3; cases h3; cases e2; exact q⟩
        · simp only [hl, if_false]
          exact ⟨fun q => q.elim, fun ⟨_, j, e, kvs', h3, k', e2, h4, q⟩ => by cases e; rw [h1] at h3; cases h3; exact absurd h4 hl⟩
  · rw [if_neg hl0]
    exact ⟨fun q => q.elim, fun ⟨h, _⟩ => absurd h hl0⟩
end
end Mi

namespace Ga
open PySem L2 Mi
def top (i : Nat) : Stmt := PySem.Challenge.pw_forklots_k55_streams_hand_out_positions.main.body.getD i (.Pass ⟨0, 0, 0, 0⟩)
inductive Fn where
  | is_between
  | is_path
  | is_position
  | is_integer
  | check_integer
  | check_name
  | L_cell
  | L_source
  | L_random
  | L_choice
  | L_same
  | L_index
  | L_any_path
  | L_grown
  | L_is_seen
  | L_is_taken
  | L_is_moved
  | L_known_right
  | law
  | Position___init__
  | Position___sub__
  | Position___repr__
  | Stream___init__
  | Stream_next_index
  | Stream_seek
  | Stream___call__
  | Stream___iadd__
  | Stream_split
  | Stream_named
abbrev CF := Fn → List T → Sto → R T
def nm : Fn → Str
  | .is_between => "is_between"
  | .is_path => "is_path"
  | .is_position => "is_position"
  | .is_integer => "is_integer"
  | .check_integer => "check_integer"
  | .check_name => "check_name"
  | .L_cell => "_law_cell"
  | .L_source => "_law_source"
  | .L_random => "_law_random"
  | .L_choice => "_law_choice"
  | .L_same => "_law_same"
  | .L_index => "_law_index"
  | .L_any_path => "_law_any_path"
  | .L_grown => "_law_grown"
  | .L_is_seen => "_law_is_seen"
  | .L_is_taken => "_law_is_taken"
  | .L_is_moved => "_law_is_moved"
  | .L_known_right => "_law_known_right"
  | .law => "law"
  | .Position___init__ => "__init__"
  | .Position___sub__ => "__sub__"
  | .Position___repr__ => "__repr__"
  | .Stream___init__ => "__init__"
  | .Stream_next_index => "next_index"
  | .Stream_seek => "seek"
  | .Stream___call__ => "__call__"
  | .Stream___iadd__ => "__iadd__"
  | .Stream_split => "split"
  | .Stream_named => "named"
def qn : Fn → Str
  | .is_between => "is_between"
  | .is_path => "is_path"
  | .is_position => "is_position"
  | .is_integer => "is_integer"
  | .check_integer => "check_integer"
  | .check_name => "check_name"
  | .L_cell => "_law_cell"
  | .L_source => "_law_source"
  | .L_random => "_law_random"
  | .L_choice => "_law_choice"
  | .L_same => "_law_same"
  | .L_index => "_law_index"
  | .L_any_path => "_law_any_path"
  | .L_grown => "_law_grown"
  | .L_is_seen => "_law_is_seen"
  | .L_is_taken => "_law_is_taken"
  | .L_is_moved => "_law_is_moved"
  | .L_known_right => "_law_known_right"
  | .law => "law"
  | .Position___init__ => "Position.__init__"
  | .Position___sub__ => "Position.__sub__"
  | .Position___repr__ => "Position.__repr__"
  | .Stream___init__ => "Stream.__init__"
  | .Stream_next_index => "Stream.next_index"
  | .Stream_seek => "Stream.seek"
  | .Stream___call__ => "Stream.__call__"
  | .Stream___iadd__ => "Stream.__iadd__"
  | .Stream_split => "Stream.split"
  | .Stream_named => "Stream.named"
def isM : Fn → Bool
  | .is_between => false
  | .is_path => false
  | .is_position => false
  | .is_integer => false
  | .check_integer => false
  | .check_name => false
  | .L_cell => false
  | .L_source => false
  | .L_random => false
  | .L_choice => false
  | .L_same => false
  | .L_index => false
  | .L_any_path => false
  | .L_grown => false
  | .L_is_seen => false
  | .L_is_taken => false
  | .L_is_moved => false
  | .L_known_right => false
  | .law => false
  | .Position___init__ => true
  | .Position___sub__ => true
  | .Position___repr__ => true
  | .Stream___init__ => true
  | .Stream_next_index => true
  | .Stream_seek => true
  | .Stream___call__ => true
  | .Stream___iadd__ => true
  | .Stream_split => true
  | .Stream_named => true
def sf : Fn → Stmt
  | .is_between => top 9
  | .is_path => top 13
  | .is_position => top 14
  | .is_integer => top 16
  | .check_integer => top 17
  | .check_name => top 18
  | .L_cell => top 22
  | .L_source => top 23
  | .L_random => top 24
  | .L_choice => top 25
  | .L_same => top 26
  | .L_index => top 27
  | .L_any_path => top 28
  | .L_grown => top 29
  | .L_is_seen => top 30
  | .L_is_taken => top 31
  | .L_is_moved => top 32
  | .L_known_right => top 33
  | .law => top 34
  | .Position___init__ => inClass (top 19) 0
  | .Position___sub__ => inClass (top 19) 3
  | .Position___repr__ => inClass (top 19) 9
  | .Stream___init__ => inClass (top 20) 0
  | .Stream_next_index => inClass (top 20) 1
  | .Stream_seek => inClass (top 20) 2
  | .Stream___call__ => inClass (top 20) 3
  | .Stream___iadd__ => inClass (top 20) 4
  | .Stream_split => inClass (top 20) 5
  | .Stream_named => inClass (top 20) 6
def ps : Fn → List Str
  | .is_between => ["thing", "low", "high"]
  | .is_path => ["thing"]
  | .is_position => ["thing"]
  | .is_integer => ["thing"]
  | .check_integer => ["thing"]
  | .check_name => ["thing"]
  | .L_cell => ["_law_script", "_law_k"]
  | .L_source => ["_law_cell_here"]
  | .L_random => ["_law_source_here", "_law_count"]
  | .L_choice => ["_law_source_here", "_law_these"]
  | .L_same => ["_law_got", "_law_due"]
  | .L_index => ["_law_source_here"]
  | .L_any_path => ["_law_source_here", "_law_most"]
  | .L_grown => ["_law_one", "_law_number"]
  | .L_is_seen => ["_law_one", "_law_path", "_law_index_here"]
  | .L_is_taken => ["_law_source_here", "_law_held", "_law_known", "_law_at"]
  | .L_is_moved => ["_law_source_here", "_law_held", "_law_at"]
  | .L_known_right => []
  | .law => ["_law_script"]
  | .Position___init__ => ["self", "path", "index"]
  | .Position___sub__ => ["self", "other"]
  | .Position___repr__ => ["self"]
  | .Stream___init__ => ["self", "path"]
  | .Stream_next_index => ["self"]
  | .Stream_seek => ["self", "index"]
  | .Stream___call__ => ["self"]
  | .Stream___iadd__ => ["self", "other"]
  | .Stream_split => ["self"]
  | .Stream_named => ["self", "name"]
def ar : Fn → Nat
  | .is_between => 3
  | .is_path => 1
  | .is_position => 1
  | .is_integer => 1
  | .check_integer => 1
  | .check_name => 1
  | .L_cell => 2
  | .L_source => 1
  | .L_random => 2
  | .L_choice => 2
  | .L_same => 2
  | .L_index => 1
  | .L_any_path => 2
  | .L_grown => 2
  | .L_is_seen => 3
  | .L_is_taken => 4
  | .L_is_moved => 3
  | .L_known_right => 0
  | .law => 1
  | .Position___init__ => 3
  | .Position___sub__ => 2
  | .Position___repr__ => 1
  | .Stream___init__ => 2
  | .Stream_next_index => 1
  | .Stream_seek => 2
  | .Stream___call__ => 1
  | .Stream___iadd__ => 2
  | .Stream_split => 1
  | .Stream_named => 2
abbrev c_MAX_STEPS : T := (.int 10)
abbrev c_LAST_INDEX : T := (.int 1000000000000)
abbrev c_MAX_NAME : T := (.int 9)
/- slots of is_between: 0=thing 1=low 2=high -/
def b_is_between (cf : CF) : SM := (sCons (sRet (mAnd (mApp fIsiS (mCons (mVar 0) (mCons (mC (.ty "int")) mNil))) (mAnd (mNot (mApp fIsiS (mCons (mVar 0) (mCons (mC (.ty "bool")) mNil)))) (mChain opLe opLe (mVar 1) (mVar 0) (mVar 2)))))
  sNil)
/- slots of is_path: 0=thing 1=step -/
def b_is_path (cf : CF) : SM := (sCons (sIf (mTOr (mTNot (mTest (mApp fIsiS (mCons (mVar 0) (mCons (mC (.ty "tuple")) mNil))))) (mTest (mBin opGt (mApp fLen (mCons (mVar 0) mNil)) (mC c_MAX_STEPS)))) (sCons (sRet (mC (.bl false)))
    sNil) sNil)
  (sCons (sRet (mApp fAll (mCons (mLc (mIt (mVar 0)) (tgN 1) mYes (mCall 3 (cf .is_between) (mCons (mVar 1) (mCons (mBin opSub (mUn opNeg (mC (.int 1))) (mC c_MAX_NAME)) (mCons (mC c_LAST_INDEX) mNil)))) [1]) mNil)))
  sNil))
/- slots of is_position: 0=thing -/
def b_is_position (cf : CF) : SM := (sCons (sRet (mAnd (mApp fIsiS (mCons (mVar 0) (mCons (mC (.ty "tuple")) mNil))) (mAnd (mBin (opEqB false) (mApp fLen (mCons (mVar 0) mNil)) (mC (.int 2))) (mAnd (mCall 1 (cf .is_path) (mCons (mBin opIx (mVar 0) (mC (.int 0))) mNil)) (mCall 3 (cf .is_between) (mCons (mBin opIx (mVar 0) (mC (.int 1))) (mCons (mC (.int 0)) (mCons (mC c_LAST_INDEX) mNil))))))))
  sNil)
/- slots of is_integer: 0=thing -/
def b_is_integer (cf : CF) : SM := (sCons (sRet (mAnd (mApp fIsiS (mCons (mVar 0) (mCons (mC (.ty "int")) mNil))) (mNot (mApp fIsiS (mCons (mVar 0) (mCons (mC (.ty "bool")) mNil))))))
  sNil)
/- slots of check_integer: 0=thing -/
def b_check_integer (cf : CF) : SM := (sCons (sIf (mTNot (mTest (mCall 1 (cf .is_integer) (mCons (mVar 0) mNil)))) (sCons sNever
    sNil) sNil)
  sNil)
/- slots of check_name: 0=thing -/
def b_check_name (cf : CF) : SM := (sCons (sIf (mTNot (mTest (mCall 3 (cf .is_between) (mCons (mVar 0) (mCons (mC (.int 0)) (mCons (mC c_MAX_NAME) mNil)))))) (sCons sNever
    sNil) sNil)
  sNil)
/- slots of _law_cell: 0=_law_script 1=_law_k -/
def b_L_cell (cf : CF) : SM := (sCons (sIf (mTest (mBin opLt (mVar 1) (mApp fLen (mCons (mVar 0) mNil)))) (sCons (sRet (mBin opIx (mVar 0) (mVar 1)))
    sNil) sNil)
  (sCons (sRet (mC (.int 0)))
  sNil))
/- slots of _law_source: 0=_law_cell_here -/
def b_L_source (cf : CF) : SM := (sCons (sRet (mLstS (mCons (mApp fMax2 (mCons (mC (.int 0)) (mCons (mBin opSub (mVar 0) (mBin opPow (mC (.int 10)) (mC (.int 18)))) mNil))) (mCons (mBin opAdd (mBin opMod (mApp fInt (mCons (mVar 0) mNil)) (mC (.int 2147483629))) (mC (.int 1))) (mCons (mC (.int 0)) mNil)))))
  sNil)
/- slots of _law_random: 0=_law_source_here 1=_law_count 2=_law_found 3=_law_stirred -/
def b_L_random (cf : CF) : SM := (sCons (sIf (mTest (mBin opGt (mBin opIx (mVar 0) (mC (.int 0))) (mC (.int 0)))) (sCons (sAsg (mBin opMod (mApp fInt (mCons (mBin opIx (mVar 0) (mC (.int 0))) mNil)) (mVar 1)) (gSet 2))
    (sCons (sAsg (mBin opFdiv (mBin opIx (mVar 0) (mC (.int 0))) (mVar 1)) (gItem (mVar 0) (mC (.int 0))))
    (sCons (sRet (mVar 2))
    sNil))) sNil)
  (sCons (sAsg (mBin opAdd (mBin opIx (mVar 0) (mC (.int 2))) (mC (.int 1))) (gItem (mVar 0) (mC (.int 2))))
  (sCons (sAsg (mBin opMod (mApp fInt (mCons (mBin opAdd (mBin opAdd (mBin opMul (mBin opIx (mVar 0) (mC (.int 1))) (mC (.int 48271))) (mBin opMul (mC (.int 1009)) (mBin opIx (mVar 0) (mC (.int 2))))) (mC (.int 7))) mNil)) (mC (.int 2147483647))) (gItem (mVar 0) (mC (.int 1))))
  (sCons (sAsg (mBin opMod (mApp fInt (mCons (mBin opAdd (mBin opAdd (mBin opMul (mBin opIx (mVar 0) (mC (.int 1))) (mBin opIx (mVar 0) (mC (.int 1)))) (mBin opMul (mC (.int 69621)) (mBin opIx (mVar 0) (mC (.int 1))))) (mC (.int 11))) mNil)) (mC (.int 2147483629))) (gSet 3))
  (sCons (sAsg (mBin opMod (mApp fInt (mCons (mBin opAdd (mBin opMul (mVar 3) (mVar 3)) (mBin opMul (mC (.int 40014)) (mVar 3))) mNil)) (mC (.int 2147483587))) (gSet 3))
  (sCons (sRet (mBin opMod (mApp fInt (mCons (mBin opFdiv (mVar 3) (mC (.int 16))) mNil)) (mVar 1)))
  sNil))))))
/- slots of _law_choice: 0=_law_source_here 1=_law_these -/
def b_L_choice (cf : CF) : SM := (sCons (sRet (mBin opIx (mVar 1) (mCall 2 (cf .L_random) (mCons (mVar 0) (mCons (mApp fLen (mCons (mVar 1) mNil)) mNil)))))
  sNil)
/- slots of _law_same: 0=_law_got 1=_law_due -/
def b_L_same (cf : CF) : SM := (sCons (sRet (mBin (opEqB false) (mApp fRepr (mCons (mVar 0) mNil)) (mApp fRepr (mCons (mVar 1) mNil))))
  sNil)
/- slots of _law_index: 0=_law_source_here 1=_law_near -/
def b_L_index (cf : CF) : SM := (sCons (sAsg (mLst (mCons (mC (.int 63)) (mCons (mC (.int 64)) (mCons (mC (.int 127)) (mCons (mC (.int 128)) (mCons (mC (.int 8191)) (mCons (mC (.int 8192)) (mCons (mC (.int 16383)) (mCons (mC (.int 16384)) (mCons (mBin opSub (mBin opPow (mC (.int 10)) (mC (.int 12))) (mC (.int 1))) (mCons (mBin opPow (mC (.int 10)) (mC (.int 12))) mNil))))))))))) (gSet 1))
  (sCons (sRet (mCall 2 (cf .L_choice) (mCons (mVar 0) (mCons (mBin opAdd (mVar 1) (mLst (mCons (mCall 2 (cf .L_random) (mCons (mVar 0) (mCons (mC (.int 4)) mNil))) (mCons (mCall 2 (cf .L_random) (mCons (mVar 0) (mCons (mBin opPow (mC (.int 10)) (mC (.int 9))) mNil))) mNil)))) mNil))))
  sNil))
/- slots of _law_any_path: 0=_law_source_here 1=_law_most 2=_law_found 3=_law_turn -/
def w_L_any_path_0 (cf : CF) : SM := (sCons (sExpr (mMeth "list" fAppend (mVar 2) (mCons (mIte (mTest (mBin (opEqB false) (mCall 2 (cf .L_random) (mCons (mVar 0) (mCons (mC (.int 3)) mNil))) (mC (.int 0)))) (mBin opSub (mUn opNeg (mC (.int 1))) (mCall 2 (cf .L_random) (mCons (mVar 0) (mCons (mC (.int 10)) mNil)))) (mCall 1 (cf .L_index) (mCons (mVar 0) mNil))) mNil)))
    sNil)
def b_L_any_path (cf : CF) : SM := (sCons (sAsg (mLstS mNil) (gSet 2))
  (sCons (sFor (mRng itRng1 (mCons (mCall 2 (cf .L_choice) (mCons (mVar 0) (mCons (mLst (mCons (mC (.int 0)) (mCons (mC (.int 1)) (mCons (mC (.int 1)) (mCons (mC (.int 2)) (mCons (mC (.int 3)) (mCons (mVar 1) mNil))))))) mNil))) mNil)) (gSet 3) (w_L_any_path_0 cf))
  (sCons (sRet (mApp fTuple (mCons (mVar 2) mNil)))
  sNil)))
/- slots of _law_grown: 0=_law_one 1=_law_number -/
def b_L_grown (cf : CF) : SM := (sCons (sAugO 0 1 (cf .Stream___iadd__) (mVar 1))
  (sCons (sRet (mVar 0))
  sNil))
/- slots of _law_is_seen: 0=_law_one 1=_law_path 2=_law_index_here 3=_law_text -/
def b_L_is_seen (cf : CF) : SM := (sCons (sAsg (mBin opAdd (mBin opAdd (mBin opAdd (mBin opAdd (mC (.str "Position(")) (mApp fRepr (mCons (mVar 1) mNil))) (mC (.str ", "))) (mApp fStr (mCons (mVar 2) mNil))) (mC (.str ")"))) (gSet 3))
  (sCons (sRet (mCall 2 (cf .L_same) (mCons (mLst (mCons (mFld 0 "path" (mVar 0)) (mCons (mFld 0 "index" (mVar 0)) (mCons (mApp (fReprO 0 (cf .Position___repr__)) (mCons (mVar 0) mNil)) mNil)))) (mCons (mLst (mCons (mVar 1) (mCons (mVar 2) (mCons (mVar 3) mNil)))) mNil))))
  sNil))
/- slots of _law_is_taken: 0=_law_source_here 1=_law_held 2=_law_known 3=_law_at 4=_law_one 5=_law_path 6=_law_upcoming 7=_law_name 8=_law_inner 9=_law_other -/
def b_L_is_taken_4 (cf : CF) : SM := (sCons (sIf (mTest (mDInT false (mCons (mVar 3) (mCons (mVar 7) mNil)) (mVar 2))) (sCons (sRet (mBin (opEqI 1) (mMethO 1 2 "named" (cf .Stream_named) (mVar 4) (mCons (mVar 7) mNil)) (mBin opIx (mBin opIx (mVar 1) (mDGetT (mVar 2) (mCons (mVar 3) (mCons (mVar 7) mNil)))) (mC (.int 0)))))
    sNil) sNil)
  (sCons (sIf (mTest (mBin opLt (mApp fLen (mCons (mVar 1) mNil)) (mC (.int 6)))) (sCons (sDPutT (mVar 2) (mCons (mVar 3) (mCons (mVar 7) mNil)) (mApp fLen (mCons (mVar 1) mNil)))
    (sCons (sAsg (mMethO 1 2 "named" (cf .Stream_named) (mVar 4) (mCons (mVar 7) mNil)) (gSet 8))
    (sCons (sExpr (mMeth "list" fAppend (mVar 1) (mCons (mLst (mCons (mVar 8) (mCons (mBin opAdd (mVar 5) (mTup (mCons (mBin opSub (mUn opNeg (mC (.int 1))) (mVar 7)) mNil))) (mCons (mC (.int 0)) mNil)))) mNil)))
    (sCons (sRet (mBin (opEqB false) (mLc (mIt (mSl (mVar 1) mNoPart (mPart (mUn opNeg (mC (.int 1)))))) (tgN 9) (mTest (mBin (opEqI 1) (mBin opIx (mVar 9) (mC (.int 0))) (mVar 8))) (mC (.int 1)) [9]) (mLst mNil)))
    sNil)))) sNil)
  (sCons (sRet (mC (.bl true)))
  sNil)))
def b_L_is_taken_2 (cf : CF) : SM := (sCons (sAsg (mCall 2 (cf .L_random) (mCons (mVar 0) (mCons (mC (.int 4)) mNil))) (gSet 7))
  (sCons (sIf (mTAnd (mTest (mBin (opEqB false) (mVar 7) (mC (.int 3)))) (mTest (mBin opLt (mApp fLen (mCons (mVar 1) mNil)) (mC (.int 6))))) (sCons (sAsg (mLst (mCons (mVar 4) (mCons (mVar 5) (mCons (mBin opAdd (mVar 6) (mC (.int 1))) mNil)))) (gItem (mVar 1) (mVar 3)))
    (sCons (sExpr (mMeth "list" fAppend (mVar 1) (mCons (mLst (mCons (mMethO 1 1 "split" (cf .Stream_split) (mVar 4) mNil) (mCons (mBin opAdd (mVar 5) (mTup (mCons (mVar 6) mNil))) (mCons (mC (.int 0)) mNil)))) mNil)))
    (sCons (sRet (mC (.bl true)))
    sNil))) sNil)
  (b_L_is_taken_4 cf)))
def b_L_is_taken (cf : CF) : SM := (sCons (sAsg (mBin opIx (mVar 1) (mVar 3)) (gTupM 3 (gsCons (gSet 4) (gsCons (gSet 5) (gsCons (gSet 6) gsNil)))))
  (sCons (sIf (mTOr (mTest (mBin opGt (mCall 2 (cf .L_random) (mCons (mVar 0) (mCons (mC (.int 3)) mNil))) (mC (.int 0)))) (mTOr (mTest (mBin opGt (mApp fLen (mCons (mVar 5) mNil)) (mC (.int 9)))) (mTest (mBin opGt (mVar 6) (mBin opPow (mC (.int 10)) (mC (.int 12))))))) (sCons (sIf (mTest (mBin opGt (mVar 6) (mBin opPow (mC (.int 10)) (mC (.int 12))))) (sCons (sRet (mC (.bl true)))
      sNil) sNil)
    (sCons (sAsg (mLst (mCons (mVar 4) (mCons (mVar 5) (mCons (mBin opAdd (mVar 6) (mC (.int 1))) mNil)))) (gItem (mVar 1) (mVar 3)))
    (sCons (sRet (mCall 3 (cf .L_is_seen) (mCons (mCallO0 1 (cf .Stream___call__) (mVar 4)) (mCons (mVar 5) (mCons (mVar 6) mNil)))))
    sNil))) sNil)
  (b_L_is_taken_2 cf)))
/- slots of _law_is_moved: 0=_law_source_here 1=_law_held 2=_law_at 3=_law_one 4=_law_path 5=_law_upcoming 6=_law_index_here 7=_law_number -/
def b_L_is_moved_2 (cf : CF) : SM := (sCons (sAsg (mBin opSub (mCall 2 (cf .L_random) (mCons (mVar 0) (mCons (mC (.int 50)) mNil))) (mApp fMin2 (mCons (mC (.int 20)) (mCons (mVar 5) mNil)))) (gSet 7))
  (sCons (sIf (mTest (mChain opLe opLe (mC (.int 0)) (mBin opAdd (mVar 5) (mVar 7)) (mBin opPow (mC (.int 10)) (mC (.int 12))))) (sCons (sAsg (mLst (mCons (mVar 3) (mCons (mVar 4) (mCons (mBin opAdd (mVar 5) (mVar 7)) mNil)))) (gItem (mVar 1) (mVar 2)))
    (sCons (sRet (mBin (opEqI 1) (mCall 2 (cf .L_grown) (mCons (mVar 3) (mCons (mVar 7) mNil))) (mVar 3)))
    sNil)) sNil)
  (sCons (sRet (mC (.bl true)))
  sNil)))
def b_L_is_moved (cf : CF) : SM := (sCons (sAsg (mBin opIx (mVar 1) (mVar 2)) (gTupM 3 (gsCons (gSet 3) (gsCons (gSet 4) (gsCons (gSet 5) gsNil)))))
  (sCons (sIf (mTest (mBin (opEqB false) (mCall 2 (cf .L_random) (mCons (mVar 0) (mCons (mC (.int 2)) mNil))) (mC (.int 0)))) (sCons (sAsg (mCall 1 (cf .L_index) (mCons (mVar 0) mNil)) (gSet 6))
    (sCons (sAsg (mLst (mCons (mVar 3) (mCons (mVar 4) (mCons (mVar 6) mNil)))) (gItem (mVar 1) (mVar 2)))
    (sCons (sRet (mBin (opIs false) (mMethO 1 2 "seek" (cf .Stream_seek) (mVar 3) (mCons (mVar 6) mNil)) (mC .non)))
    sNil))) sNil)
  (b_L_is_moved_2 cf)))
/- slots of _law_known_right: 0=_law_root 1=_law_inner 2=_law_first 3=_law_second -/
def b_L_known_right (cf : CF) : SM := (sCons (sAsg (mMake 2 1 (cf .Stream___init__) (mCons (mC (.tup [])) mNil)) (gSet 0))
  (sCons (sAsg (mMethO 1 2 "named" (cf .Stream_named) (mVar 0) (mCons (mC (.int 1)) mNil)) (gSet 1))
  (sCons (sIf (mTNot (mTest (mCall 2 (cf .L_same) (mCons (mLst (mCons (mBin (opEqI 1) (mVar 1) (mMethO 1 2 "named" (cf .Stream_named) (mVar 0) (mCons (mC (.int 1)) mNil))) (mCons (mBin (opEqI 1) (mVar 1) (mMethO 1 2 "named" (cf .Stream_named) (mVar 0) (mCons (mC (.int 2)) mNil))) (mCons (mBin (opEqI 1) (mMake 2 1 (cf .Stream___init__) (mCons (mC (.tup [])) mNil)) (mVar 0)) mNil)))) (mCons (mLst (mCons (mC (.bl true)) (mCons (mC (.bl false)) (mCons (mC (.bl false)) mNil)))) mNil))))) (sCons (sRet (mC (.bl false)))
    sNil) sNil)
  (sCons (sPar 2 3 (mCons (mCallO0 1 (cf .Stream___call__) (mVar 1)) (mCons (mCallO0 1 (cf .Stream___call__) (mVar 1)) mNil)))
  (sCons (sIf (mTNot (mTest (mCall 2 (cf .L_same) (mCons (mLst (mCons (mProp 1 (cf .Stream_next_index) (mVar 0)) (mCons (mProp 1 (cf .Stream_next_index) (mVar 1)) (mCons (mBinO 0 (cf .Position___sub__) (mVar 3) (mVar 2)) mNil)))) (mCons (mLst (mCons (mC (.int 0)) (mCons (mC (.int 2)) (mCons (mC (.int 1)) mNil)))) mNil))))) (sCons (sRet (mC (.bl false)))
    sNil) sNil)
  (sCons (sRet (mAnd (mCall 3 (cf .L_is_seen) (mCons (mCallO0 1 (cf .Stream___call__) (mMethO 1 1 "split" (cf .Stream_split) (mMethO 1 1 "split" (cf .Stream_split) (mVar 0) mNil) mNil)) (mCons (mTup (mCons (mC (.int 0)) (mCons (mC (.int 0)) mNil))) (mCons (mC (.int 0)) mNil)))) (mBin (opEqB false) (mProp 1 (cf .Stream_next_index) (mVar 0)) (mC (.int 1)))))
  sNil))))))
/- slots of law: 0=_law_script 1=_law_k 2=_law_source_here 3=_law_path 4=_law_known 5=_law_held 6=_law_turn 7=_law_at 8=_law_is_taken_here 9=_law_one 10=_law_its 11=_law_upcoming -/
def w_law_0 (cf : CF) : SM := (sCons (sIf (mTNot (mTest (mCall 2 (cf .L_same) (mCons (mLst (mCons (mFld 1 "path" (mVar 9)) (mCons (mProp 1 (cf .Stream_next_index) (mVar 9)) mNil))) (mCons (mLst (mCons (mVar 10) (mCons (mVar 11) mNil))) mNil))))) (sCons (sRet (mC (.bl false)))
          sNil) sNil)
        sNil)
def w_law_1 (cf : CF) : SM := (sCons (sAsg (mCall 2 (cf .L_random) (mCons (mVar 2) (mCons (mApp fLen (mCons (mVar 5) mNil)) mNil))) (gSet 7))
      (sCons (sAsg (mBin opGt (mCall 2 (cf .L_random) (mCons (mVar 2) (mCons (mC (.int 3)) mNil))) (mC (.int 0))) (gSet 8))
      (sCons (sIf (mTNot (mTIte (mTest (mVar 8)) (mTest (mCall 4 (cf .L_is_taken) (mCons (mVar 2) (mCons (mVar 5) (mCons (mVar 4) (mCons (mVar 7) mNil)))))) (mTest (mCall 3 (cf .L_is_moved) (mCons (mVar 2) (mCons (mVar 5) (mCons (mVar 7) mNil))))))) (sCons (sRet (mC (.bl false)))
        sNil) sNil)
      (sCons (sFor (mIt (mVar 5)) (gTupM 3 (gsCons (gSet 9) (gsCons (gSet 10) (gsCons (gSet 11) gsNil)))) (w_law_0 cf))
      sNil))))
def w_law_2 (cf : CF) : SM := (sCons (sAsg (mCall 1 (cf .L_source) (mCons (mCall 2 (cf .L_cell) (mCons (mVar 0) (mCons (mVar 1) mNil))) mNil)) (gSet 2))
    (sCons (sPar 3 4 (mCons (mCall 2 (cf .L_any_path) (mCons (mVar 2) (mCons (mC (.int 9)) mNil))) (mCons mDictT mNil)))
    (sCons (sAsg (mLstS (mCons (mLst (mCons (mMake 2 1 (cf .Stream___init__) (mCons (mC (.tup [])) mNil)) (mCons (mTup mNil) (mCons (mC (.int 0)) mNil)))) (mCons (mLst (mCons (mMake 2 1 (cf .Stream___init__) (mCons (mVar 3) mNil)) (mCons (mVar 3) (mCons (mC (.int 0)) mNil)))) mNil))) (gSet 5))
    (sCons (sFor (mRng itRng1 (mCons (mC (.int 30)) mNil)) (gSet 6) (w_law_1 cf))
    sNil))))
def b_law (cf : CF) : SM := (sCons (sIf (mTNot (mTest (mCall 0 (cf .L_known_right) mNil))) (sCons (sRet (mC (.bl false)))
    sNil) sNil)
  (sCons (sFor (mRng itRng1 (mCons (mApp fMax2 (mCons (mC (.int 1)) (mCons (mApp fMin2 (mCons (mApp fLen (mCons (mVar 0) mNil)) (mCons (mC (.int 3)) mNil))) mNil))) mNil)) (gSet 1) (w_law_2 cf))
  (sCons (sRet (mC (.bl true)))
  sNil)))
/- slots of Position.__init__: 0=self 1=path 2=index -/
def b_Position___init__ (cf : CF) : SM := (sCons (sIf (mTNot (mTest (mCall 1 (cf .is_position) (mCons (mTup (mCons (mVar 1) (mCons (mVar 2) mNil))) mNil)))) (sCons sNever
    sNil) sNil)
  (sCons (sFld 0 "path" (mVar 0) (mVar 1))
  (sCons (sFld 0 "index" (mVar 0) (mVar 2))
  sNil)))
/- slots of Position.__sub__: 0=self 1=other -/
def b_Position___sub__ (cf : CF) : SM := (sCons (sIf (mTest (mApp (fIsiC 0) (mCons (mVar 1) (mCons (mAdr 0) mNil)))) (sCons (sIf (mTest (mBin (opEqB true) (mFld 0 "path" (mVar 0)) (mFld 0 "path" (mVar 1)))) (sCons sNever
      sNil) sNil)
    (sCons (sRet (mBin opSub (mFld 0 "index" (mVar 0)) (mFld 0 "index" (mVar 1))))
    sNil)) sNil)
  (sCons (sExpr (mCall 1 (cf .check_integer) (mCons (mVar 1) mNil)))
  (sCons (sRet (mMake 3 0 (cf .Position___init__) (mCons (mFld 0 "path" (mVar 0)) (mCons (mBin opSub (mFld 0 "index" (mVar 0)) (mVar 1)) mNil))))
  sNil)))
/- slots of Position.__repr__: 0=self -/
def b_Position___repr__ (cf : CF) : SM := (sCons (sRet (mJs [(mC (.str "Position(")), (mFmt (mFld 0 "path" (mVar 0))), (mC (.str ", ")), (mFmt (mFld 0 "index" (mVar 0))), (mC (.str ")"))] Str.empty))
  sNil)
/- slots of Stream.__init__: 0=self 1=path -/
def b_Stream___init__ (cf : CF) : SM := (sCons (sIf (mTNot (mTest (mCall 1 (cf .is_path) (mCons (mVar 1) mNil)))) (sCons sNever
    sNil) sNil)
  (sCons (sFld 1 "path" (mVar 0) (mVar 1))
  (sCons (sFld 1 "upcoming" (mVar 0) (mC (.int 0)))
  (sCons (sFld 1 "known" (mVar 0) mDictS)
  sNil))))
/- slots of Stream.next_index: 0=self -/
def b_Stream_next_index (cf : CF) : SM := (sCons (sRet (mFld 1 "upcoming" (mVar 0)))
  sNil)
/- slots of Stream.seek: 0=self 1=index -/
def b_Stream_seek (cf : CF) : SM := (sCons (sIf (mTNot (mTest (mCall 3 (cf .is_between) (mCons (mVar 1) (mCons (mC (.int 0)) (mCons (mC c_LAST_INDEX) mNil)))))) (sCons sNever
    sNil) sNil)
  (sCons (sFld 1 "upcoming" (mVar 0) (mVar 1))
  sNil))
/- slots of Stream.__call__: 0=self 1=position -/
def b_Stream___call__ (cf : CF) : SM := (sCons (sAsg (mMake 3 0 (cf .Position___init__) (mCons (mFld 1 "path" (mVar 0)) (mCons (mFld 1 "upcoming" (mVar 0)) mNil))) (gSet 1))
  (sCons (sFldAdd 1 "upcoming" (mVar 0) (mC (.int 1)))
  (sCons (sRet (mVar 1))
  sNil)))
/- slots of Stream.__iadd__: 0=self 1=other -/
def b_Stream___iadd__ (cf : CF) : SM := (sCons (sExpr (mCall 1 (cf .check_integer) (mCons (mVar 1) mNil)))
  (sCons (sIf (mTNot (mTest (mCall 3 (cf .is_between) (mCons (mBin opAdd (mFld 1 "upcoming" (mVar 0)) (mVar 1)) (mCons (mC (.int 0)) (mCons (mC c_LAST_INDEX) mNil)))))) (sCons sNever
    sNil) sNil)
  (sCons (sFldAdd 1 "upcoming" (mVar 0) (mVar 1))
  (sCons (sRet (mVar 0))
  sNil))))
/- slots of Stream.split: 0=self -/
def b_Stream_split (cf : CF) : SM := (sCons (sIf (mTOr (mTest (mBin (opEqB false) (mApp fLen (mCons (mFld 1 "path" (mVar 0)) mNil)) (mC c_MAX_STEPS))) (mTest (mBin opGt (mFld 1 "upcoming" (mVar 0)) (mC c_LAST_INDEX)))) (sCons sNever
    sNil) sNil)
  (sCons (sFldAdd 1 "upcoming" (mVar 0) (mC (.int 1)))
  (sCons (sRet (mMake 2 1 (cf .Stream___init__) (mCons (mTup (mStar (mFld 1 "path" (mVar 0)) (mCons (mBin opSub (mFld 1 "upcoming" (mVar 0)) (mC (.int 1))) mNil))) mNil)))
  sNil)))
/- slots of Stream.named: 0=self 1=name -/
def b_Stream_named (cf : CF) : SM := (sCons (sExpr (mCall 1 (cf .check_name) (mCons (mVar 1) mNil)))
  (sCons (sIf (mTest (mBin (opEqB false) (mApp fLen (mCons (mFld 1 "path" (mVar 0)) mNil)) (mC c_MAX_STEPS))) (sCons sNever
    sNil) sNil)
  (sCons (sIf (mTest (mDIn true (mVar 1) (mFld 1 "known" (mVar 0)))) (sCons (sDPut (mFld 1 "known" (mVar 0)) (mVar 1) (mMake 2 1 (cf .Stream___init__) (mCons (mTup (mStar (mFld 1 "path" (mVar 0)) (mCons (mBin opSub (mUn opNeg (mC (.int 1))) (mVar 1)) mNil))) mNil)))
    sNil) sNil)
  (sCons (sRet (mDGet (mFld 1 "known" (mVar 0)) (mVar 1)))
  sNil))))
def stepF (cf : CF) : CF
  | .is_between => runF 3 (b_is_between cf)
  | .is_path => runF 2 (b_is_path cf)
  | .is_position => runF 1 (b_is_position cf)
  | .is_integer => runF 1 (b_is_integer cf)
  | .check_integer => runF 1 (b_check_integer cf)
  | .check_name => runF 1 (b_check_name cf)
  | .L_cell => runF 2 (b_L_cell cf)
  | .L_source => runF 1 (b_L_source cf)
  | .L_random => runF 4 (b_L_random cf)
  | .L_choice => runF 2 (b_L_choice cf)
  | .L_same => runF 2 (b_L_same cf)
  | .L_index => runF 2 (b_L_index cf)
  | .L_any_path => runF 4 (b_L_any_path cf)
  | .L_grown => runF 2 (b_L_grown cf)
  | .L_is_seen => runF 4 (b_L_is_seen cf)
  | .L_is_taken => runF 10 (b_L_is_taken cf)
  | .L_is_moved => runF 8 (b_L_is_moved cf)
  | .L_known_right => runF 4 (b_L_known_right cf)
  | .law => runF 12 (b_law cf)
  | .Position___init__ => runF 3 (b_Position___init__ cf)
  | .Position___sub__ => runF 2 (b_Position___sub__ cf)
  | .Position___repr__ => runF 1 (b_Position___repr__ cf)
  | .Stream___init__ => runF 2 (b_Stream___init__ cf)
  | .Stream_next_index => runF 1 (b_Stream_next_index cf)
  | .Stream_seek => runF 2 (b_Stream_seek cf)
  | .Stream___call__ => runF 2 (b_Stream___call__ cf)
  | .Stream___iadd__ => runF 2 (b_Stream___iadd__ cf)
  | .Stream_split => runF 1 (b_Stream_split cf)
  | .Stream_named => runF 2 (b_Stream_named cf)
def callF : Nat → CF
  | 0 => fun _ _ _ => .bad
  | k + 1 => stepF (callF k)
theorem run_is_between (k : Nat) : callF (k + 1) .is_between = runF 3 (b_is_between (callF k)) := rfl
theorem run_is_path (k : Nat) : callF (k + 1) .is_path = runF 2 (b_is_path (callF k)) := rfl
theorem run_is_position (k : Nat) : callF (k + 1) .is_position = runF 1 (b_is_position (callF k)) := rfl
theorem run_is_integer (k : Nat) : callF (k + 1) .is_integer = runF 1 (b_is_integer (callF k)) := rfl
theorem run_check_integer (k : Nat) : callF (k + 1) .check_integer = runF 1 (b_check_integer (callF k)) := rfl
theorem run_check_name (k : Nat) : callF (k + 1) .check_name = runF 1 (b_check_name (callF k)) := rfl
theorem run_L_cell (k : Nat) : callF (k + 1) .L_cell = runF 2 (b_L_cell (callF k)) := rfl
theorem run_L_source (k : Nat) : callF (k + 1) .L_source = runF 1 (b_L_source (callF k)) := rfl
theorem run_L_random (k : Nat) : callF (k + 1) .L_random = runF 4 (b_L_random (callF k)) := rfl
theorem run_L_choice (k : Nat) : callF (k + 1) .L_choice = runF 2 (b_L_choice (callF k)) := rfl
theorem run_L_same (k : Nat) : callF (k + 1) .L_same = runF 2 (b_L_same (callF k)) := rfl
theorem run_L_index (k : Nat) : callF (k + 1) .L_index = runF 2 (b_L_index (callF k)) := rfl
theorem run_L_any_path (k : Nat) : callF (k + 1) .L_any_path = runF 4 (b_L_any_path (callF k)) := rfl
theorem run_L_grown (k : Nat) : callF (k + 1) .L_grown = runF 2 (b_L_grown (callF k)) := rfl
theorem run_L_is_seen (k : Nat) : callF (k + 1) .L_is_seen = runF 4 (b_L_is_seen (callF k)) := rfl
theorem run_L_is_taken (k : Nat) : callF (k + 1) .L_is_taken = runF 10 (b_L_is_taken (callF k)) := rfl
theorem run_L_is_moved (k : Nat) : callF (k + 1) .L_is_moved = runF 8 (b_L_is_moved (callF k)) := rfl
theorem run_L_known_right (k : Nat) : callF (k + 1) .L_known_right = runF 4 (b_L_known_right (callF k)) := rfl
theorem run_law (k : Nat) : callF (k + 1) .law = runF 12 (b_law (callF k)) := rfl
theorem run_Position___init__ (k : Nat) : callF (k + 1) .Position___init__ = runF 3 (b_Position___init__ (callF k)) := rfl
theorem run_Position___sub__ (k : Nat) : callF (k + 1) .Position___sub__ = runF 2 (b_Position___sub__ (callF k)) := rfl
theorem run_Position___repr__ (k : Nat) : callF (k + 1) .Position___repr__ = runF 1 (b_Position___repr__ (callF k)) := rfl
theorem run_Stream___init__ (k : Nat) : callF (k + 1) .Stream___init__ = runF 2 (b_Stream___init__ (callF k)) := rfl
theorem run_Stream_next_index (k : Nat) : callF (k + 1) .Stream_next_index = runF 1 (b_Stream_next_index (callF k)) := rfl
theorem run_Stream_seek (k : Nat) : callF (k + 1) .Stream_seek = runF 2 (b_Stream_seek (callF k)) := rfl
theorem run_Stream___call__ (k : Nat) : callF (k + 1) .Stream___call__ = runF 2 (b_Stream___call__ (callF k)) := rfl
theorem run_Stream___iadd__ (k : Nat) : callF (k + 1) .Stream___iadd__ = runF 2 (b_Stream___iadd__ (callF k)) := rfl
theorem run_Stream_split (k : Nat) : callF (k + 1) .Stream_split = runF 1 (b_Stream_split (callF k)) := rfl
theorem run_Stream_named (k : Nat) : callF (k + 1) .Stream_named = runF 2 (b_Stream_named (callF k)) := rfl
end Ga

namespace Ga
open PySem L2 Mi
theorem r_random {k i m : Nat} {n : Int} {st : Sto} (h : Src st i m) (hn : 0 < n) (hn2 : n ≤ 1000000) (hm : m < 2 ^ 62) :
    Ok (callF (k + 1) .L_random [.ref i, .int n] st) (fun t st' => (∃ r, t = .int r ∧ 0 ≤ r ∧ r < n) ∧ Src st' i (m + 1) ∧ Frm i st st') noE := rand_ok h hn hn2 hm
theorem r_choice {k i m : Nat} {ts : List T} {st : Sto} (h : Src st i m) (h0 : ts ≠ []) (hl : ts.length ≤ 1000) (hm : m < 2 ^ 62) :
    Ok (callF (k + 2) .L_choice [.ref i, .lst ts] st) (fun t st' => t ∈ ts ∧ Src st' i (m + 1) ∧ Frm i st st') noE := by
  have hp : 0 < ts.length := List.length_pos_iff.mpr h0
  rw [run_L_choice, Ok_runF]
  unfold b_L_choice
  simp [fLen, seqR, lstR]
  refine Ok.imp (r_random h (n := (ts.length : Int)) (by omega) (by omega) hm) ?_ (fun _ _ h => h)
  rintro t st' ⟨⟨r, rfl, r0, r1⟩, s1, f1⟩
  obtain ⟨j, rfl⟩ : ∃ j : Nat, r = (j : Int) := ⟨r.toNat, by omega⟩
  have hj : j < ts.length := by omega
  rw [Ok_ixL _ (ts := ts) rfl]
  exact ⟨ts[j], atI_nat (by simp [hj]), List.getElem_mem hj, s1, f1⟩
theorem r_cell {k j : Nat} {ns : List Int} {st : Sto} (hl : ns.length ≤ 63) : ∃ v, callF (k + 1) .L_cell [.frz (ns.map T.int), .int (j : Nat)] st = .ok (.int v) st := by
  by_cases hj : j < ns.length
  · refine ⟨ns[j], ?_⟩
    apply Ok.eq
    rw [run_L_cell, Ok_runF]
    unfold b_L_cell
    simp [fLen, seqR, lstR, hj]
    rw [Ok_ixL _ (ts := ns.map T.int) rfl]
    exact ⟨.int ns[j], atI_nat (by simp [hj]), rfl, rfl⟩
  · refine ⟨0, ?_⟩
    apply Ok.eq
    rw [run_L_cell, Ok_runF]
    unfold b_L_cell
    simp [fLen, seqR, lstR, hj]
theorem r_source {k : Nat} {v : Int} {st : Sto} : Ok (callF (k + 1) .L_source [.int v] st) (fun t st' => t = .ref st.length ∧ Src st' st.length 0) noE := by
  rw [run_L_source, Ok_runF]
  unfold b_L_source
  simp [fMax2, sizeLine_eq]
  exact ⟨_, _, _, by simp; exact ⟨rfl, rfl, rfl⟩, by omega, by omega, by omega, by omega⟩
end Ga

namespace Ga
open PySem L2 Mi
/-! draws of great counts -/
theorem rand_okW {st : Sto} {i m : Nat} {n : Int} (h : Src st i m) (hn : 0 < n) (lg : n.natAbs.log2 < 9000) (hm : m < 2 ^ 62) :
    Ok (runF 4 randB [.ref i, .int n] st) (fun t st' => (∃ r, t = .int r ∧ 0 ≤ r ∧ r < n) ∧ Src st' i (m + 1) ∧ Frm i st st') noE := by
  obtain ⟨a, b, c, h1, h2, h3, h4, h5⟩ := h
  have hl : i < st.length := (List.getElem?_eq_some_iff.mp h1).1
  have e2 : ((2 : Nat) ^ 62 : Nat) = 4611686018427387904 := by decide
  have g2 : ∀ x : O, (st.set i x)[i]? = some x := fun x => by simp [hl]
  have l3 : (48271 : Nat).log2 = 15 := by decide +kernel
  have l4 : (1009 : Nat).log2 = 9 := by decide +kernel
  have l5 : (69621 : Nat).log2 = 16 := by decide +kernel
  have l6 : (40014 : Nat).log2 = 15 := by decide +kernel
  have l7 : (16 : Nat).log2 = 4 := by decide +kernel
  have l1 : b.natAbs.log2 < 31 := log_lt h2 (by omega) (by omega)
  have l2 : (c + 1).natAbs.log2 < 63 := log_lt (by omega) (by omega) (by omega)
  rw [Ok_runF]
  unfold randB
  simp [h1, atI_0, atI_1, atI_2, hn, lg, g2, ixN, l3, l4, l5, l6, l7]
  by_cases ha : 0 < a
  · exact .inr ⟨ha, ⟨Int.emod_nonneg _ (by omega), Int.emod_lt_of_pos _ hn⟩, ⟨a / n, b, c, by simp [hl], h2, h3, h4, by omega⟩, Frm.set _⟩
  · refine .inl ⟨by omega, by omega, by omega, ?_⟩
    generalize hb : (b * 48271 + 1009 * (c + 1) + 7) % 2147483647 = b'
    have hb1 : 0 ≤ b' := by rw [← hb]; exact Int.emod_nonneg _ (by omega)
    have hb2 : b' < 2147483647 := by rw [← hb]; exact Int.emod_lt_of_pos _ (by omega)
    have lb : b'.natAbs.log2 < 31 := log_lt hb1 (by omega) (by omega)
    refine ⟨by omega, by omega, ?_⟩
    generalize hs : (b' * b' + 69621 * b' + 11) % 2147483629 = s
    have hs1 : 0 ≤ s := by rw [← hs]; exact Int.emod_nonneg _ (by omega)
    have hs2 : s < 2147483629 := by rw [← hs]; exact Int.emod_lt_of_pos _ (by omega)
    have ls : s.natAbs.log2 < 31 := log_lt hs1 (by omega) (by omega)
    refine ⟨by omega, by omega, ⟨Int.emod_nonneg _ (by omega), Int.emod_lt_of_pos _ hn⟩, ⟨a, b', c + 1, by simp [hl], hb1, by omega, by omega, by omega⟩, Frm.set _⟩
theorem r_randomW {k i m : Nat} {n : Int} {st : Sto} (h : Src st i m) (hn : 0 < n) (lg : n.natAbs.log2 < 9000) (hm : m < 2 ^ 62) :
    Ok (callF (k + 1) .L_random [.ref i, .int n] st) (fun t st' => (∃ r, t = .int r ∧ 0 ≤ r ∧ r < n) ∧ Src st' i (m + 1) ∧ Frm i st st') noE := rand_okW h hn lg hm
end Ga

namespace Ga
open PySem L2 Mi
theorem r_same {k : Nat} {t : T} {st : Sto} (h : t.tr = true) (hd : t.dep ≤ 64) (hw : t.wt ≤ 1000000) : callF (k + 1) .L_same [t, t] st = .ok (.bl true) st := by
  have rp : ∀ {Q : T → Sto → Prop} {E : Exn → Sto → Prop} {st : Sto}, Ok (fRepr [t] st) Q E ↔ Q (.str t.text) st := fun {Q E st} => Ok_repr h hd hw
  apply Ok.eq
  rw [run_L_same, Ok_runF]
  unfold b_L_same
  simp [rp]
theorem r_sameB {n w : Nat} {k : Nat} {t : T} {st : Sto} (h : BT n w t) (hd : n ≤ 64) (hw : w ≤ 1000000) : callF (k + 1) .L_same [t, t] st = .ok (.bl true) st := r_same h.tr (by have := h.dp; omega) (by have := h.wt; omega)
end Ga

namespace Ga
open PySem L2 Mi
/-! paths -/
@[simp] theorem lg128 : Nat.log2 128 = 7 := by decide +kernel
@[simp] theorem lg2 : Nat.log2 2 = 1 := by decide +kernel
@[simp] theorem Ok_fdivI {Q : T → Sto → Prop} {E : Exn → Sto → Prop} {st : Sto} (i j : Int) : Ok (opFdiv (.int i) (.int j) st) Q E ↔ (0 < j ∧ j.natAbs.log2 < 9000) ∧ Q (.int (i / j)) st := by
  rw [Ok_opII]; simp only [fFdiv_some]
  exact ⟨fun ⟨t, ⟨a, b⟩, c⟩ => ⟨a, b ▸ c⟩, fun ⟨a, c⟩ => ⟨_, ⟨a, rfl⟩, c⟩⟩
@[simp] theorem Ok_modI {Q : T → Sto → Prop} {E : Exn → Sto → Prop} {st : Sto} (i j : Int) : Ok (opMod (.int i) (.int j) st) Q E ↔ 0 < j ∧ Q (.int (i % j)) st := by
  rw [Ok_opII]; simp only [fMod_some]
  exact ⟨fun ⟨t, ⟨a, b⟩, c⟩ => ⟨a, b ▸ c⟩, fun ⟨a, c⟩ => ⟨_, ⟨a, rfl⟩, c⟩⟩
abbrev IT (l : List Int) : List T := l.map T.int
def Pth (ps : List Int) : Prop := ps.length ≤ 10 ∧ ∀ p ∈ ps, -10 ≤ p ∧ p ≤ 1000000000000
end Ga

namespace Ga
open PySem L2 Mi
/-! positions -/
def pf (ps : List Int) (i : Nat) : List (Str × T) := [("path", .tup (IT ps)), ("index", .int (i : Int))]
def PosAt (st : Sto) (a : Nat) (ps : List Int) (i : Nat) : Prop := st[a]? = some (.ins 0 (pf ps i))
theorem PosAt.app {st l : Sto} {a : Nat} {ps : List Int} {i : Nat} (h : PosAt st a ps i) : PosAt (st ++ l) a ps i := by
  unfold PosAt
  rw [List.getElem?_append_left (List.getElem?_eq_some_iff.mp h).1]; exact h
theorem PosAt.ins {st : Sto} {a : Nat} {ps : List Int} {i : Nat} (h : PosAt st a ps i) : insF st 0 (.ref a) = some (pf ps i) := by
  unfold PosAt at h
  simp [insF, insAt, h]
@[simp] theorem pf_path {ps : List Int} {i : Nat} : (pf ps i).lookup ("path" : Str) = some (.tup (IT ps)) := by simp [pf, List.lookup]
@[simp] theorem pf_index {ps : List Int} {i : Nat} : (pf ps i).lookup ("index" : Str) = some (.int (i : Int)) := by simp [pf, List.lookup, show (("index" : Str) == "path") = false by decide +kernel]
@[simp] theorem nk_code {ps : List Int} {i : Nat} : noKey (pf ps i) "code" := by simp [noKey, pf, List.lookup, show (("code" : Str) == "path") = false by decide +kernel, show (("code" : Str) == "index") = false by decide +kernel]
theorem r_is_betweenI {k : Nat} {a lo hi : Int} {st : Sto} : callF (k + 1) .is_between [.int a, .int lo, .int hi] st = .ok (.bl (decide (lo ≤ a ∧ a ≤ hi))) st := by
  apply Ok.eq
  rw [run_is_between, Ok_runF]
  unfold b_is_between
  simp [fIsiS, tyName, isTy]
  by_cases h : lo ≤ a <;> by_cases h2 : a ≤ hi <;> simp [h, h2] <;> omega
theorem r_is_path {k : Nat} {ps : List Int} {st : Sto} (h : Pth ps) : callF (k + 2) .is_path [.tup (IT ps)] st = .ok (.bl true) st := by
  apply Ok.eq
  rw [run_is_path, Ok_runF]
  unfold b_is_path
  have hl := h.1
  have e : lcW (tgN 1) mYes (mCall 3 (callF (k + 1) .is_between) (mCons (mVar 1) (mCons (mBin opSub (mUn opNeg (mC (.int 1))) (mC c_MAX_NAME)) (mCons (mC c_LAST_INDEX) mNil)))) (wipeT [some (.tup (IT ps)), none] [1]) (.seq (IT ps)) st = .ok ((IT ps).map fun _ => .bl true) st := by
    refine lc_map (fun _ => .bl true) _ (by simp [sizeLine_eq]; omega) fun t ht => ?_
    obtain ⟨p, hp, rfl⟩ := List.mem_map.mp ht
    refine ⟨_, rfl, rfl, ?_⟩
    have hp := h.2 p hp
    apply Ok.eq
    simp [wipeT, r_is_betweenI]
    omega
  have eall : ∀ {Q : T → Sto → Prop} {E : Exn → Sto → Prop} {st : Sto}, Ok (fAll [.lst ((IT ps).map fun _ => T.bl true)] st) Q E ↔ Q (.bl true) st := fun {Q E st} => by
    have := Ok_all (Q := Q) (E := E) (st := st) (IT ps) (fun _ => true)
    rw [this, List.all_eq_true.mpr fun _ _ => rfl]
  simp [fIsiS, tyName, isTy, fLen, seqR, hl]
  rw [Ok_lc]
  simp
  rw [e]
  simp only [Ok_ok]
  rw [eall]
  simp
  omega
theorem r_is_position {k : Nat} {ps : List Int} {i : Nat} {st : Sto} (h : Pth ps) (hi' : i ≤ 1000000000000) : callF (k + 3) .is_position [.tup [.tup (IT ps), .int (i : Int)]] st = .ok (.bl true) st := by
  apply Ok.eq
  rw [run_is_position, Ok_runF]
  unfold b_is_position
  simp [fIsiS, tyName, isTy, fLen, seqR, atI_0, atI_1, r_is_path h, r_is_betweenI]
  omega
theorem r_init {k : Nat} {ps : List Int} {i : Nat} {st : Sto} (h : Pth ps) (hi' : i ≤ 1000000000000) :
    callF (k + 4) .Position___init__ [.ref st.length, .tup (IT ps), .int (i : Int)] (st ++ [.ins 0 []]) = .ok .non (st ++ [.ins 0 (pf ps i)]) := by
  apply Ok.eq
  rw [run_Position___init__, Ok_runF]
  unfold b_Position___init__
  simp [sizeLine_eq, r_is_position h hi', insF, insAt, putT, pf, show (("path" : Str) = "index") = False by decide +kernel]
theorem pos_new {st : Sto} {ps : List Int} {i : Nat} : PosAt (st ++ [.ins 0 (pf ps i)]) st.length ps i := by simp [PosAt]
end Ga

namespace Ga
open PySem L2 Mi
/-! ==, repr of positions -/
theorem ls_path {ps : List Int} (h : Pth ps) : LS 0 (1012 * 10) (IT ps) := by
  have hl := h.1
  refine (LS_all (n := 0) (w := 1010) (ts := IT ps) fun t ht => ?_).mono (Nat.le_refl _) (by simp; omega)
  obtain ⟨p, hp, rfl⟩ := List.mem_map.mp ht
  have := h.2 p hp
  refine BT.intW ?_
  by_cases hz : p.natAbs = 0
  · rw [hz]; decide
  · exact Nat.lt_trans ((Nat.log2_lt hz).mpr (by have : (2:Nat)^50 = 1125899906842624 := by decide
                                                 omega : p.natAbs < 2 ^ 50)) (by decide)
theorem gd_path {ps : List Int} (h : Pth ps) : Gd (.tup (IT ps)) := (ls_path h).tup.gd (by omega) (by omega)
theorem gd_repr {st : Sto} {t : T} (g : Gd t) : reprOf st t = some t.text ∧ t.text.length ≤ 1000000 := by
  obtain ⟨d, h1, h2, h3, h4, h5⟩ := T.tr_pd g.tr
  unfold Mi.reprOf T.text
  rw [T.tr_now g.tr, h1]
  have h6 := g.wt
  have h7 := g.dp
  have : d.shown.length ≤ sizeLine := Nat.le_trans (Nat.le_trans h3 h6) (by decide)
  simp [h2, h4, h7, this]
  omega
theorem txt_int {i : Nat} (h : i ≤ 1000000000000) : (PySem.Str.ofString (toString (i : Int))).length ≤ 2000 ∧ (i : Int).natAbs.log2 < 1920 := by
  have lg : i.log2 < 50 := by
    by_cases hz : i = 0
    · rw [hz]; decide
    · exact (Nat.log2_lt hz).mpr (by have : (2:Nat)^50 = 1125899906842624 := by decide
                                     omega)
  obtain ⟨d, h1, h2, h3, h4, h5⟩ := T.tr_pd (t := .int (i : Int)) (by simp [T.tr]; omega)
  cases h1
  refine ⟨Nat.le_trans h3 ?_, by simpa using Nat.lt_trans lg (by decide)⟩
  simp [T.wt]; omega
section
variable {Q : T → Sto → Prop} {E : Exn → Sto → Prop} {ρ : Sl} {y0 : Option T} {st : Sto}
theorem Ok_jsNil {acc : Str} : Ok (mJs [] acc (y0 :: ρ) st) Q E ↔ Q (.str acc) st := Iff.rfl
theorem Ok_jsCons {acc : Str} {m : M T} {ms : List (M T)} : Ok (mJs (m :: ms) acc (y0 :: ρ) st) Q E ↔ Ok (m (y0 :: ρ) st) (fun x st1 => ∃ y, x = .str y ∧ (acc ++ y).length ≤ sizeLine ∧ Ok (mJs ms (acc ++ y) (y0 :: ρ) st1) Q E) E := by
  show Ok (R.bind _ _) Q E ↔ _
  rw [Ok_bind]
  refine Ok_congr fun x st1 => ?_
  cases x <;> simp
end
def reprP (ps : List Int) (i : Nat) : Str := ((((Str.empty ++ "Position(") ++ (T.tup (IT ps)).text) ++ ", ") ++ PySem.Str.ofString (toString (i : Int))) ++ ")"
theorem r_repr {k a : Nat} {ps : List Int} {i : Nat} {st : Sto} (h : Pth ps) (hi' : i ≤ 1000000000000) (ho : PosAt st a ps i) : callF (k + 1) .Position___repr__ [.ref a] st = .ok (.str (reprP ps i)) st := by
  apply Ok.eq
  rw [run_Position___repr__, Ok_runF]
  unfold b_Position___repr__
  obtain ⟨g1, g2⟩ := gd_repr (st := st) (gd_path h)
  obtain ⟨t1, t2⟩ := txt_int hi'
  have l1 : ("Position(" : Str).length = 9 := by decide +kernel
  have l2 : (", " : Str).length = 2 := by decide +kernel
  have l3 : (")" : Str).length = 1 := by decide +kernel
  have l0 : Str.empty.length = 0 := rfl
  simp [Ok_jsCons, Ok_jsNil, Ok_fmt, ho.ins, fmtOf, g1, t2, sizeLine_eq, reprP, PySem.Str.length_append]
  simp at t1 t2
  exact ⟨by omega, by omega, by omega, _, ⟨t2, rfl⟩, by omega, by omega, rfl⟩
theorem own_repr {k a : Nat} {ps : List Int} {i : Nat} {st : Sto} (h : Pth ps) (hi' : i ≤ 1000000000000) (ha : PosAt st a ps i) : fReprO 0 (callF (k + 1) .Position___repr__) [.ref a] st = .ok (.str (reprP ps i)) st := by
  obtain ⟨x, e1⟩ := insF_ex ha.ins
  unfold fReprO
  simp only []
  rw [e1]
  simp only []
  rw [r_repr h hi' ha]; rfl
end Ga

namespace Ga
open PySem L2 Mi
/-! random indices and paths -/
theorem p12 : (10 : Int) ^ (12 : Int).toNat = 1000000000000 := by decide
theorem p9 : (10 : Int) ^ (9 : Int).toNat = 1000000000 := by decide
theorem lgp9 : (1000000000 : Int).natAbs.log2 < 9000 := by decide +kernel
theorem lgp12 : (1000000000000 : Int).natAbs.log2 < 9000 := by decide +kernel
def IxT (t : T) : Prop := ∃ n : Nat, t = .int (n : Int) ∧ n ≤ 1000000000000
theorem r_index {k i m : Nat} {st : Sto} (h : Src st i m) (hm : m + 10 < 2 ^ 62) :
    Ok (callF (k + 3) .L_index [.ref i] st) (fun t st' => IxT t ∧ Src st' i (m + 3) ∧ Frm i st st') noE := by
  rw [run_L_index, Ok_runF]
  unfold b_L_index
  show OkS (sCons _ _ [some (T.ref i), none] st) _ _ _ _ _
  rw [OkS_cons]
  simp [-OkS_cons, sizeLine_eq, p12]
  rw [OkS_cons]
  simp only [OkS_ret, Ok_call, Ok_cons, Ok_var, Ok_bin, Ok_C, Ok_nil, Ok_lst]
  simp [-OkS_cons, p9]
  refine Ok.imp (r_random (k := k + 1) h (n := 4) (by omega) (by omega) (by omega)) ?_ (fun _ _ h => h.elim)
  rintro _ st1 ⟨⟨r1, rfl, r10, r11⟩, s1, f1⟩
  refine Ok.imp (r_randomW (k := k + 1) s1 (n := 1000000000) (by omega) lgp9 (by omega)) ?_ (fun _ _ h => h.elim)
  rintro _ st2 ⟨⟨r2, rfl, r20, r21⟩, s2, f2⟩
  simp [sizeLine_eq]
  refine Ok.imp (r_choice (k := k) s2 (by simp) (by simp) (by omega)) ?_ (fun _ _ h => h.elim)
  rintro t st3 ⟨ht, s3, f3⟩
  refine ⟨?_, s3, (f1.trans f2).trans f3⟩
  simp only [List.mem_cons, List.not_mem_nil, or_false] at ht
  rcases ht with rfl | rfl | rfl | rfl | rfl | rfl | rfl | rfl | rfl | rfl | rfl | rfl
  · exact ⟨63, rfl, by omega⟩
  · exact ⟨64, rfl, by omega⟩
  · exact ⟨127, rfl, by omega⟩
  · exact ⟨128, rfl, by omega⟩
  · exact ⟨8191, rfl, by omega⟩
  · exact ⟨8192, rfl, by omega⟩
  · exact ⟨16383, rfl, by omega⟩
  · exact ⟨16384, rfl, by omega⟩
  · exact ⟨999999999999, rfl, by omega⟩
  · exact ⟨1000000000000, rfl, by omega⟩
  · exact ⟨r1.toNat, by rw [Int.toNat_of_nonneg r10], by omega⟩
  · exact ⟨r2.toNat, by rw [Int.toNat_of_nonneg r20], by omega⟩
/-- a random path: the list at p grows -/
def InvP (st0 : Sto) (i p : Nat) (m : Nat) (M : Int) (rest : List T) (ρ : Sl) (st : Sto) : Prop := ∃ (ps : List Int) (y : Option T) (c : Nat), ρ = [some (.ref i), some (.int M), some (.ref p), y] ∧ st[p]? = some (.lst (IT ps)) ∧ (∀ q ∈ ps, -10 ≤ q ∧ q ≤ 1000000000000) ∧
  ps.length + rest.length ≤ 10 ∧ c + 4 * rest.length ≤ 41 ∧ Src st i (m + c) ∧ Fr2 i p st0 st
theorem r_any_path {k i m : Nat} {M : Int} {st : Sto} (h : Src st i m) (hm : m + 100 < 2 ^ 62) (hM : 0 ≤ M ∧ M ≤ 10) :
    Ok (callF (k + 4) .L_any_path [.ref i, .int M] st) (fun t st' => (∃ ps, t = .tup (IT ps) ∧ Pth ps) ∧ Src st' i (m + 41) ∧ Frm i st st') noE := by
  rw [run_L_any_path, Ok_runF]
  unfold b_L_any_path
  show OkS (sCons _ _ [some (T.ref i), some (T.int M), none, none] st) _ _ _ _ _
  have hi : i < st.length := by obtain ⟨a, b, c, h1, _⟩ := h; exact (List.getElem?_eq_some_iff.mp h1).1
  rw [OkS_cons]
  simp [-OkS_cons, sizeLine_eq]
  rw [OkS_cons]
  simp [-OkS_cons, sizeLine_eq]
  refine Ok.imp (r_choice (k := k + 1) (h.app [O.lst []]) (by simp) (by simp) (by omega)) ?_ (fun _ _ h => h.elim)
  rintro t st1 ⟨ht, s1, f1⟩
  have hp1 : st1[st.length]? = some (.lst []) := f1.2 _ _ (by omega) (by simp)
  have fr1 : Fr2 i st.length st st1 := ⟨by have := f1.1; simp at this; omega, fun j o hj hlt e => f1.2 j o hj (by rw [List.getElem?_append_left hlt]; exact e)⟩
  obtain ⟨n, rfl, hn⟩ : ∃ n : Nat, t = .int (n : Int) ∧ n ≤ 10 := by
    simp only [List.mem_cons, List.not_mem_nil, or_false] at ht
    rcases ht with rfl | rfl | rfl | rfl | rfl | rfl
    · exact ⟨0, rfl, by omega⟩
    · exact ⟨1, rfl, by omega⟩
    · exact ⟨1, rfl, by omega⟩
    · exact ⟨2, rfl, by omega⟩
    · exact ⟨3, rfl, by omega⟩
    · exact ⟨M.toNat, by rw [Int.toNat_of_nonneg hM.1], by omega⟩
  simp [-OkS_cons]
  refine ⟨by omega, ?_⟩
  have hlen : (rgT 0 n).length = n := by simp [rgT]
  refine for_rec (InvP st i st.length m M) ⟨[], none, 1, rfl, hp1, by simp, by simp [hlen]; omega, by rw [hlen]; omega, s1, fr1⟩ ?_ ?_
  · rintro t rest ρ st2 ⟨ps, y, c, rfl, hp, hb, hl, hc, s2, fr2⟩
    simp only [Ok_gSet, List.set_cons_succ, List.set_cons_zero]
    simp at hl hc
    unfold w_L_any_path_0
    have hty : tyM st2 (.ref st.length) = some "list" := by simp [tyM, lstR, hp]
    have fin : ∀ (st3 : Sto) (q : Int) (j : Nat), (-10 ≤ q ∧ q ≤ 1000000000000) → j ≤ 4 → Src st3 i (m + c + j) → Frm i st2 st3 →
        Ok (fAppend (.ref st.length) [.int q] st3) (fun _ st4 => InvP st i st.length m M rest [some (.ref i), some (.int M), some (.ref st.length), some t] st4) noE := fun st3 q j hq hj s3 f3 => by
      have hp3 := f3.at (p := st.length) (by omega) hp
      have hpl := (List.getElem?_eq_some_iff.mp hp3).1
      simp [fAppend, atS, hp3, sizeLine_eq]
      refine ⟨by omega, ps ++ [q], _, c + j, rfl, by simp [hpl], ?_, by simp; omega, by omega, ?_, ?_⟩
      · intro a ha
        rcases List.mem_append.mp ha with ha | ha
        · exact hb a ha
        · simp at ha; subst ha; exact hq
      · rw [← Nat.add_assoc]
        exact s3.set (j := st.length) (by omega)
      · exact (fr2.trans f3.fr2).trans (Fr2.set _)
    rw [OkS_cons, OkS_expr, Ok_meth]
    simp only [Ok_var]
    refine ⟨_, rfl, hty, ?_⟩
    simp only [Ok_cons, Ok_iteM, Ok_test, Ok_bin, Ok_call, Ok_var, Ok_C, Ok_nil, Ok_un]
    refine ⟨_, rfl, rfl, ?_⟩
    refine Ok.imp (r_random (k := k + 2) s2 (n := 3) (by omega) (by omega) (by omega)) ?_ (fun _ _ h => h.elim)
    rintro _ st3 ⟨⟨r, rfl, r0, r1⟩, s3, f3⟩
    simp
    by_cases hr : r = 0
    · simp [hr]
      refine Ok.imp (r_random (k := k + 2) s3 (n := 10) (by omega) (by omega) (by omega)) ?_ (fun _ _ h => h.elim)
      rintro _ st4 ⟨⟨q, rfl, q0, q1⟩, s4, f4⟩
      simp
      exact fin st4 (-1 - q) 2 (by omega) (by omega) s4 (f3.trans f4)
    · simp [hr]
      refine Ok.imp (r_index (k := k) s3 (by omega)) ?_ (fun _ _ h => h.elim)
      rintro _ st4 ⟨⟨q, rfl, q1⟩, s4, f4⟩
      exact fin st4 q 4 (by omega) (by omega) s4 (f3.trans f4)
  · rintro ρ st2 ⟨ps, y, c, rfl, hp, hb, hl, hc, s2, fr2⟩
    simp at hl hc
    simp [fTuple, lstR, hp]
    exact ⟨⟨ps, rfl, hl, hb⟩, s2.mono (by omega), fr2.frm (Nat.le_refl _)⟩
end Ga

namespace Ga
open PySem L2 Mi
/-! what calls of instances, properties, += and the words of exceptions ask -/
section
variable {Q : T → Sto → Prop} {E : Exn → Sto → Prop} {ρ : Sl} {y0 : Option T} {st : Sto}
theorem ins_some {st : Sto} {c : Nat} {x : T} {i : Nat} {fs : List (Str × T)} (h : insAt st c x = some (i, fs)) : insF st c x = some fs := (insF_at.mp h).2
@[simp] theorem Ok_callO0 (c : Nat) (F : List T → Sto → R T) (m : M T) : Ok (mCallO0 c F m (y0 :: ρ) st) Q E ↔ Ok (m (y0 :: ρ) st) (fun x st1 => ∃ fs, insF st1 c x = some fs ∧ Ok (F [x] st1) Q E) E := by
  unfold mCallO0
  rw [Ok_bind]
  refine Ok_congr fun x st1 => ?_
  cases h : insAt st1 c x with
  | none => simp [insF, h]
  | some p => simp [insF, h]
theorem Ok_noExcI (r : R T) : Ok (noExc r) Q E ↔ Ok r Q (fun _ _ => False) := by cases r <;> rfl
@[simp] theorem Ok_prop (c : Nat) (F : List T → Sto → R T) (m : M T) : Ok (mProp c F m (y0 :: ρ) st) Q E ↔ Ok (m (y0 :: ρ) st) (fun x st1 => ∃ fs, insF st1 c x = some fs ∧ Ok (F [x] st1) Q (fun _ _ => False)) E := by
  unfold mProp
  rw [Ok_bind]
  refine Ok_congr fun x st1 => ?_
  cases h : insAt st1 c x with
  | none => simp [insF, h]
  | some p => simp [insF, h, Ok_noExcI]
/-- the call raises; its word is y -/
theorem Ok_bareX {wd : Nat → Option Str} {rp : List T → Sto → R T} {m : M T} {ρ : Sl} (c : Nat) (y : Str) (hw : ∃ z, wd c = some z ∧ bareOf (("! " : Str) ++ z) = some y ∧ z.length ≤ 1000)
    (h : Ok (m ρ st) (fun _ _ => False) (fun e s => e = ⟨c, []⟩ ∧ Q (.str y) s)) : Ok (mBare wd rp m ρ st) Q E := by
  obtain ⟨z, h1, h2, h3⟩ := hw
  revert h
  unfold mBare mSaid
  cases m ρ st with
  | ok a s => exact fun h => h.elim
  | bad => exact fun h => h.elim
  | exc e s =>
    rintro ⟨rfl, q⟩
    have l2 : ("! " : Str).length = 2 := by decide +kernel
    simp only [h1]
    rw [if_pos ⟨by rw [l2, sizeLine_eq]; omega, trivial⟩]
    show Ok (match bareOf (("! " : Str) ++ z) with | some y => R.ok (T.str y) s | none => .bad) Q E
    rw [h2]
    exact q
end
section
variable {N : Sl → Sto → Prop} {Rt : T → Sto → Prop} {B C : Sl → Sto → Prop} {Ex : Exn → Sl → Sto → Prop} {ρ : Sl} {y0 : Option T} {st : Sto}
@[simp] theorem OkS_augO (i c : Nat) (F : List T → Sto → R T) (m : M T) : OkS (sAugO i c F m (y0 :: ρ) st) N Rt B C Ex ↔ ∃ x, (y0 :: ρ)[i]? = some (some x) ∧ Ok (m (y0 :: ρ) st) (fun y st1 => ∃ fs, insF st1 c x = some fs ∧ Ok (F [x, y] st1) (fun z st2 => N ((y0 :: ρ).set i (some z)) st2) (fun e st => Ex e (y0 :: ρ) st)) (fun e st => Ex e (y0 :: ρ) st) := by
  unfold sAugO
  cases h : (y0 :: ρ)[i]? with
  | none => simp [OkS]
  | some o =>
    cases o with
    | none => simp [OkS]
    | some x =>
      simp only []
      rw [OkS_of]
      constructor
      · intro q
        refine ⟨x, rfl, Ok.imp q (fun y st1 q => ?_) fun _ _ q => q⟩
        cases h2 : insAt st1 c x with
        | none => rw [h2] at q; exact q.elim
        | some p => rw [h2] at q; exact ⟨p.2, by simp [insF, h2], (OkS_of ..).mp q⟩
      · rintro ⟨x', e, q⟩
        cases e
        refine Ok.imp q (fun y st1 q => ?_) fun _ _ q => q
        obtain ⟨fs, h2, q⟩ := q
        obtain ⟨j, h3⟩ := insF_ex h2
        rw [h3]
        exact (OkS_of ..).mpr q
end
theorem Ok.exq {r : R T} {x : Exn} {st : Sto} (h : Ok r (fun _ _ => False) (fun e s => e = x ∧ s = st)) : r = .exc x st := by
  cases r with
  | ok b s => exact h.elim
  | exc e s => obtain ⟨h1, h2⟩ := h; rw [h1, h2]
  | bad => exact h.elim
/-- no int, no object of the store -/
def NoInt (t : T) : Prop := match t with
  | .non | .bl _ | .str _ | .tup _ | .lst _ | .dct _ _ => True
  | _ => False
theorem isi_int {t : T} (h : NoInt t) (st : Sto) : ∃ b, fIsiS [t, .ty "int"] st = .ok (.bl b) st ∧ (b = true → fIsiS [t, .ty "bool"] st = .ok (.bl true) st) := by
  cases t <;> first | exact h.elim | exact ⟨_, rfl, fun _ => by first | rfl | contradiction⟩
end Ga

namespace Ga
open PySem L2 Mi
/-! checks of numbers and names -/
theorem r_chkint {k : Nat} {v : Int} {st : Sto} : callF (k + 2) .check_integer [.int v] st = .ok .non st := by
  apply Ok.eq
  rw [run_check_integer, Ok_runF]
  unfold b_check_integer
  have e : callF (k + 1) .is_integer [.int v] st = .ok (.bl true) st := by
    apply Ok.eq
    rw [run_is_integer, Ok_runF]
    unfold b_is_integer
    simp [fIsiS, tyName, isTy]
  simp [e]
theorem r_chkname {k : Nat} {v : Int} {st : Sto} (h : 0 ≤ v ∧ v ≤ 9) : callF (k + 2) .check_name [.int v] st = .ok .non st := by
  apply Ok.eq
  rw [run_check_name, Ok_runF]
  unfold b_check_name
  simp [r_is_betweenI, h]
end Ga

namespace Ga
open PySem L2 Mi
/-! streams -/
def sfl (ps : List Int) (u : Int) (d : Nat) : List (Str × T) := [("path", .tup (IT ps)), ("upcoming", .int u), ("known", .ref d)]
def StrAt (st : Sto) (a : Nat) (ps : List Int) (u : Int) (d : Nat) : Prop := st[a]? = some (.ins 1 (sfl ps u d))
theorem StrAt.app {st l : Sto} {a d : Nat} {ps : List Int} {u : Int} (h : StrAt st a ps u d) : StrAt (st ++ l) a ps u d := by
  unfold StrAt
  rw [List.getElem?_append_left (List.getElem?_eq_some_iff.mp h).1]; exact h
theorem StrAt.ins {st : Sto} {a d : Nat} {ps : List Int} {u : Int} (h : StrAt st a ps u d) : insF st 1 (.ref a) = some (sfl ps u d) := by
  unfold StrAt at h
  simp [insF, insAt, h]
theorem StrAt.insA {st : Sto} {a d : Nat} {ps : List Int} {u : Int} (h : StrAt st a ps u d) : insAt st 1 (.ref a) = some (a, sfl ps u d) := by
  unfold StrAt at h
  simp [insAt, h]
theorem StrAt.put {st : Sto} {a d : Nat} {ps : List Int} {u v : Int} (h : StrAt st a ps u d) : StrAt (st.set a (.ins 1 (sfl ps v d))) a ps v d := by
  have := (List.getElem?_eq_some_iff.mp h).1
  simp [StrAt, this]
@[simp] theorem sfl_path {ps : List Int} {u : Int} {d : Nat} : (sfl ps u d).lookup ("path" : Str) = some (.tup (IT ps)) := by simp [sfl, List.lookup]
@[simp] theorem sfl_up {ps : List Int} {u : Int} {d : Nat} : (sfl ps u d).lookup ("upcoming" : Str) = some (.int u) := by simp [sfl, List.lookup, show (("upcoming" : Str) == "path") = false by decide +kernel]
@[simp] theorem sfl_put {ps : List Int} {u v : Int} {d : Nat} : putT "upcoming" (.int v) (sfl ps u d) = sfl ps v d := by simp [sfl, putT, show (("path" : Str) = "upcoming") = False by decide +kernel, show (("upcoming" : Str) = "path") = False by decide +kernel]
@[simp] theorem sfl_len {ps : List Int} {u : Int} {d : Nat} : (sfl ps u d).length = 3 := rfl
theorem sfl_nk {ps : List Int} {u : Int} {d : Nat} {f : Str} (h1 : (f == "path") = false) (h2 : (f == "upcoming") = false) (h3 : (f == "known") = false) : noKey (sfl ps u d) f := by simp [noKey, sfl, List.lookup, h1, h2, h3]
theorem r_sinit {k : Nat} {ps : List Int} {st : Sto} (h : Pth ps) :
    callF (k + 3) .Stream___init__ [.ref st.length, .tup (IT ps)] (st ++ [.ins 1 []]) = .ok .non (st ++ [.ins 1 (sfl ps 0 (st.length + 1)), .dct []]) := by
  apply Ok.eq
  rw [run_Stream___init__, Ok_runF]
  unfold b_Stream___init__
  simp [r_is_path h, insF, insAt, putT, sfl, mDictS, show (("path" : Str) = "upcoming") = False by decide +kernel, show (("upcoming" : Str) = "path") = False by decide +kernel, show (("path" : Str) = "known") = False by decide +kernel, show (("upcoming" : Str) = "known") = False by decide +kernel]
theorem r_seek {k a d : Nat} {ps : List Int} {u v : Int} {st : Sto} (hs : StrAt st a ps u d) (hv : 0 ≤ v ∧ v ≤ 1000000000000) : callF (k + 2) .Stream_seek [.ref a, .int v] st = .ok .non (st.set a (.ins 1 (sfl ps v d))) := by
  apply Ok.eq
  rw [run_Stream_seek, Ok_runF]
  unfold b_Stream_seek
  simp [r_is_betweenI, hv, hs.ins]
theorem r_next {k a d : Nat} {ps : List Int} {u : Int} {st : Sto} (hs : StrAt st a ps u d) : callF (k + 1) .Stream_next_index [.ref a] st = .ok (.int u) st := by
  apply Ok.eq
  rw [run_Stream_next_index, Ok_runF]
  unfold b_Stream_next_index
  simp [hs.ins]
theorem r_scall {k a d : Nat} {ps : List Int} {i : Nat} {st : Sto} (h : Pth ps) (hs : StrAt st a ps (i : Int) d) (hi' : i ≤ 1000000000000) :
    callF (k + 5) .Stream___call__ [.ref a] st = .ok (.ref st.length) ((st ++ [O.ins 0 (pf ps i)]).set a (.ins 1 (sfl ps ((i : Int) + 1) d))) := by
  apply Ok.eq
  rw [run_Stream___call__, Ok_runF]
  unfold b_Stream___call__
  simp [hs.ins, r_init h hi', (hs.app (l := [O.ins 0 (pf ps i)])).ins]
theorem r_iadd {k a d : Nat} {ps : List Int} {u v : Int} {st : Sto} (hs : StrAt st a ps u d) (hu : 0 ≤ u + v ∧ u + v ≤ 1000000000000) : callF (k + 3) .Stream___iadd__ [.ref a, .int v] st = .ok (.ref a) (st.set a (.ins 1 (sfl ps (u + v) d))) := by
  apply Ok.eq
  rw [run_Stream___iadd__, Ok_runF]
  unfold b_Stream___iadd__
  have e : ∀ ρ : Sl, sFldAdd 1 "upcoming" (mVar 0) (mVar 1) (some (.ref a) :: some (.int v) :: ρ) st = .nx (some (.ref a) :: some (.int v) :: ρ) (st.set a (.ins 1 (sfl ps (u + v) d))) := fun ρ => by
    simp [sFldAdd, RS.of, mVar, hs.insA]
  show OkS (sCons _ _ [some (T.ref a), some (T.int v)] st) _ _ _ _ _
  rw [OkS_cons]
  simp [-OkS_cons, r_chkint]
  rw [OkS_cons]
  simp [-OkS_cons, r_is_betweenI, hs.ins]
  refine .inr ⟨hu, ?_⟩
  rw [OkS_cons, e]
  exact ⟨rfl, rfl⟩
end Ga

namespace Ga
open PySem L2 Mi
/-- texts of numbers hold no surrogate -/
def okC (x : PySem.Str) : Prop := ∀ c ∈ x.cps.toList, c < 0x110000
theorem okC.app {x y : PySem.Str} (h : okC x) (h2 : okC y) : okC (x ++ y) := fun c hc => by
  rw [PySem.Str.cps_append, Array.toList_append] at hc
  exact (List.mem_append.mp hc).elim (h c) (h2 c)
theorem okC.of (s : String) : okC (PySem.Str.ofString s) := fun c hc => by
  rw [PySem.Str.ofString_eq_toList] at hc
  simp at hc
  obtain ⟨x, _, rfl⟩ := hc
  show x.toNat < 1114112
  rcases x.valid with h | h <;> simp [UInt32.lt_iff_toNat_lt] at h <;> omega
theorem okC.join {sep : PySem.Str} (hs : okC sep) : ∀ {ts : List PySem.Str}, (∀ t ∈ ts, okC t) → okC (PySem.Str.join sep ts)
  | [], _ => fun c hc => by cases hc
  | [x], h => h x (by simp)
  | x :: y :: r, h => ((h x (by simp)).app hs).app (okC.join hs fun t ht => h t (List.mem_cons_of_mem _ ht))
theorem okC.ok {x : PySem.Str} (h : okC x) : PyData.strOk x = true := by
  unfold PyData.strOk
  rw [← Array.all_toList]
  exact List.all_eq_true.mpr fun c hc => by simpa using h c hc
theorem okC.path (ps : List Int) : okC (T.tup (IT ps)).text := by
  have e : T.pds (IT ps) = some (ps.map PyData.int) := by
    induction ps with
    | nil => rfl
    | cons p ps ih => simp [T.pds, T.pd] at ih ⊢; rw [ih]
  have e2 : (T.tup (IT ps)).text = tupleText (PyData.shownAll (ps.map PyData.int)) := by
    unfold T.text
    simp only [T.pd, e]
    rfl
  rw [e2]
  have h : ∀ t ∈ PyData.shownAll (ps.map PyData.int), okC t := by
    clear e e2
    induction ps with
    | nil => intro t ht; cases ht
    | cons p ps ih =>
      intro t ht
      rcases List.mem_cons.mp ht with rfl | ht
      · exact okC.of _
      · exact ih t ht
  unfold tupleText
  exact ((okC.of _).app (okC.join (okC.of _) h)).app (by split <;> exact okC.of _)
theorem okC.repr (ps : List Int) (i : Nat) : okC (reprP ps i) := by
  have h0 : okC PySem.Str.empty := fun c hc => by simp [PySem.Str.empty] at hc
  exact ((((h0.app (okC.of _)).app (okC.path ps)).app (okC.of _)).app (okC.of _)).app (okC.of _)
end Ga

namespace Ga
open PySem L2 Mi
theorem r_is_seen {k p : Nat} {ps : List Int} {i : Nat} {st : Sto} (h : Pth ps) (hi' : i ≤ 1000000000000) (ho : PosAt st p ps i) : callF (k + 2) .L_is_seen [.ref p, .tup (IT ps), .int (i : Int)] st = .ok (.bl true) st := by
  apply Ok.eq
  rw [run_L_is_seen, Ok_runF]
  unfold b_L_is_seen
  show OkS (sCons _ _ [some (T.ref p), some (T.tup (IT ps)), some (T.int (i : Int)), none] st) _ _ _ _ _
  obtain ⟨g1, g2⟩ := gd_repr (st := st) (gd_path h)
  obtain ⟨t1, t2⟩ := txt_int hi'
  have l1 : ("Position(" : Str).length = 9 := by decide +kernel
  have l2 : (", " : Str).length = 2 := by decide +kernel
  have l3 : (")" : Str).length = 1 := by decide +kernel
  have l0 : Str.empty.length = 0 := rfl
  have er : fRepr [.tup (IT ps)] st = .ok (.str (T.tup (IT ps)).text) st := by
    show (match reprOf st (T.tup (IT ps)) with | some z => R.ok (T.str z) st | none => .bad) = _
    rw [g1]
  have es : fStr [.int (i : Int)] st = .ok (.str (PySem.Str.ofString (toString (i : Int)))) st := if_pos t2
  have bi : BT 0 1010 (.int (i : Int)) := BT.intW (by
    have : (i : Int).natAbs.log2 < 50 := by
      by_cases hz : (i : Int).natAbs = 0
      · rw [hz]; decide
      · exact (Nat.log2_lt hz).mpr (by have : (2:Nat)^50 = 1125899906842624 := by decide
                                       omega)
    omega)
  have bp := (ls_path h).tup
  have tl : (T.tup (IT ps)).text.length ≤ 10123 := by
    obtain ⟨d, h1, h2, h3, h4, h5⟩ := T.tr_pd bp.tr
    have : (T.tup (IT ps)).text = d.shown := by unfold T.text; rw [h1]
    rw [this]
    exact Nat.le_trans h3 bp.wt
  have et : ((("Position(" : Str) ++ (T.tup (IT ps)).text) ++ ", ") ++ PySem.Str.ofString (toString (i : Int)) ++ ")" = reprP ps i := by
    unfold reprP
    rw [PySem.Str.empty_append]
  have rl : (reprP ps i).length ≤ 12135 := by
    rw [← et]
    simp [PySem.Str.length_append, l1, l2, l3] at t1 ⊢
    omega
  have bt : BT 0 121352 (.str (reprP ps i)) := ⟨by show PyData.strOk _ = true; exact (okC.repr ps i).ok, rfl, Nat.le_refl _, by show 10 * (reprP ps i).length + 2 ≤ _; omega⟩
  have l4 : LS 1 121354 [T.str (reprP ps i)] := LS.cons (bt.mono (Nat.zero_le _) (Nat.le_refl _)) (LS.nil (w := 0)) (by omega)
  have l5 : LS 1 122400 [T.int (i : Int), .str (reprP ps i)] := LS.cons (bi.mono (Nat.zero_le _) (Nat.le_refl _)) l4 (by omega)
  have l6 : LS 1 140000 [T.tup (IT ps), .int (i : Int), .str (reprP ps i)] := LS.cons bp l5 (by omega)
  have bl := l6.lst
  have es2 := r_sameB (k := k) (st := st) bl (by omega) (by omega)
  simp at t1
  rw [OkS_cons]
  simp [-OkS_cons, er, es, PySem.Str.length_append, l1, l2, l3, sizeLine_eq]
  refine ⟨by omega, by omega, by omega, by omega, ?_⟩
  simp at et
  rw [et]
  simp [ho.ins, own_repr (k := k) h hi' ho, es2, sizeLine_eq]

end Ga

namespace Ga
open PySem L2 Mi
/-! a stream grows -/
theorem r_grown {k a d : Nat} {ps : List Int} {u v : Int} {st : Sto} (hs : StrAt st a ps u d) (hu : 0 ≤ u + v ∧ u + v ≤ 1000000000000) : callF (k + 4) .L_grown [.ref a, .int v] st = .ok (.ref a) (st.set a (.ins 1 (sfl ps (u + v) d))) := by
  apply Ok.eq
  rw [run_L_grown, Ok_runF]
  unfold b_L_grown
  simp [hs.ins, r_iadd hs hu]
end Ga

namespace Ga
open PySem L2 Mi
/-! streams that are asked, moved; the rest stays -/
theorem StrAt.lt {st : Sto} {a d : Nat} {ps : List Int} {u : Int} (h : StrAt st a ps u d) : a < st.length := (List.getElem?_eq_some_iff.mp h).1
/-- nothing but the entry at a is changed -/
def Oth (a : Nat) (st st' : Sto) : Prop := ∀ j o, j ≠ a → st[j]? = some o → st'[j]? = some o
theorem r_scallQ {k a d : Nat} {ps : List Int} {u : Int} {st : Sto} (h : Pth ps) (hs : StrAt st a ps u d) (hu : 0 ≤ u ∧ u ≤ 1000000000000) :
    ∃ p st', callF (k + 5) .Stream___call__ [.ref a] st = .ok (.ref p) st' ∧ PosAt st' p ps u.toNat ∧ StrAt st' a ps (u + 1) d ∧ Oth a st st' := by
  obtain ⟨i, rfl⟩ : ∃ i : Nat, u = (i : Int) := ⟨u.toNat, by omega⟩
  have hl := hs.lt
  refine ⟨_, _, r_scall h hs (by omega), ?_, ?_, ?_⟩
  · have : a ≠ st.length := by omega
    simp [PosAt, this]
  · exact (hs.app (l := [O.ins 0 (pf ps i)])).put
  · intro j o hj e
    have hjl := (List.getElem?_eq_some_iff.mp e).1
    rw [List.getElem?_set_ne (fun e => hj e.symm), List.getElem?_append_left hjl]
    exact e
theorem r_is_seenI {k p : Nat} {ps : List Int} {u : Int} {st : Sto} (h : Pth ps) (hu : 0 ≤ u ∧ u ≤ 1000000000000) (ho : PosAt st p ps u.toNat) : callF (k + 2) .L_is_seen [.ref p, .tup (IT ps), .int u] st = .ok (.bl true) st := by
  have := r_is_seen (k := k) (i := u.toNat) h (by omega) ho
  rwa [Int.toNat_of_nonneg hu.1] at this
theorem r_grownQ {k a d : Nat} {ps : List Int} {u v : Int} {st : Sto} (hs : StrAt st a ps u d) (hu : 0 ≤ u + v ∧ u + v ≤ 1000000000000) : ∃ st', callF (k + 4) .L_grown [.ref a, .int v] st = .ok (.ref a) st' ∧ StrAt st' a ps (u + v) d ∧ Oth a st st' :=
  ⟨_, r_grown hs hu, hs.put, fun j o hj e => by rw [List.getElem?_set_ne (fun e => hj e.symm)]; exact e⟩
end Ga

namespace Ga
open PySem L2 Mi
/-! dicts, streams that are split and named -/
section
variable {κ : Type} [DecidableEq κ]
theorem valG_map (k j : κ) (y : T) : ∀ kvs : List (κ × T), valG (kvs.map fun kv => if kv.1 = k then (kv.1, y) else kv) j = (valG kvs j).map fun x => if j = k then y else x
  | [] => rfl
  | p :: r => by
    have ih := valG_map k j y r
    unfold valG at ih ⊢
    rw [List.map_cons, List.find?_cons, List.find?_cons]
    by_cases h : p.1 = k
    · by_cases e : p.1 = j
      · simp only [h, if_true]
        subst h
        simp [e]
      · simp only [h, if_true]
        have e2 : ¬ k = j := h ▸ e
        simp only [e2, decide_false]
        exact ih
    · simp only [h, if_false]
      by_cases e : p.1 = j
      · have e2 : ¬ j = k := e ▸ h
        simp [e, e2]
      · simp only [e, decide_false]
        exact ih
theorem valG_any (k : κ) : ∀ kvs : List (κ × T), (kvs.any fun kv => decide (kv.1 = k)) = (valG kvs k).isSome
  | [] => rfl
  | p :: r => by
    have ih := valG_any k r
    unfold valG at ih ⊢
    rw [List.any_cons, List.find?_cons]
    by_cases e : p.1 = k
    · simp [e]
    · simp only [e, decide_false, Bool.false_or]; exact ih
theorem valG_snoc (k j : κ) (y : T) : ∀ kvs : List (κ × T), valG kvs k = none → valG (kvs ++ [(k, y)]) j = if j = k then some y else valG kvs j
  | [], _ => by
    unfold valG
    by_cases e : k = j
    · simp [e]
    · have e2 : ¬ j = k := fun z => e z.symm
      simp [e, e2]
  | p :: r, hn => by
    have ih := valG_snoc k j y r
    unfold valG at ih hn ⊢
    rw [List.find?_cons] at hn
    rw [List.cons_append, List.find?_cons, List.find?_cons]
    by_cases e : p.1 = k
    · simp [e] at hn
    · simp only [e, decide_false] at hn
      have ih := ih hn
      by_cases e2 : p.1 = j
      · have e3 : ¬ j = k := e2 ▸ e
        simp [e2, e3]
      · simp only [e2, decide_false]
        exact ih
theorem valG_put (kvs : List (κ × T)) (k j : κ) (y : T) : valG (putG kvs k y) j = if j = k then some y else valG kvs j := by
  unfold putG
  by_cases a : (kvs.any fun kv => decide (kv.1 = k)) = true
  · rw [if_pos a, valG_map]
    rw [valG_any] at a
    by_cases e : j = k
    · subst e
      obtain ⟨x, hx⟩ := Option.isSome_iff_exists.mp a
      simp [hx]
    · simp only [e, if_false]
      cases valG kvs j <;> rfl
  · rw [if_neg a]
    rw [valG_any] at a
    exact valG_snoc k j y kvs (by simpa using a)
theorem length_putG (kvs : List (κ × T)) (k : κ) (y : T) : (putG kvs k y).length ≤ kvs.length + 1 := by
  unfold putG
  split <;> simp
end
theorem putKT_G (kvs : List (Key × T)) (k : Key) (v : T) : putKT kvs k v = putG kvs k v := rfl
@[simp] theorem sfl_known {ps : List Int} {u : Int} {d : Nat} : (sfl ps u d).lookup ("known" : Str) = some (.ref d) := by simp [sfl, List.lookup, show (("known" : Str) == "path") = false by decide +kernel, show (("known" : Str) == "upcoming") = false by decide +kernel]
theorem Pth.snoc {ps : List Int} {v : Int} (h : Pth ps) (hl : ps.length < 10) (hv : -10 ≤ v ∧ v ≤ 1000000000000) : Pth (ps ++ [v]) := ⟨by simp; omega, fun p hp => by
  rcases List.mem_append.mp hp with hp | hp
  · exact h.2 p hp
  · simp at hp; subst hp; exact hv⟩
theorem r_named_old {k a d : Nat} {ps : List Int} {u n : Int} {ks : List (Key × T)} {t : T} {st : Sto} (hs : StrAt st a ps u d) (hk : st[d]? = some (.dct ks)) (h : Pth ps) (hl : ps.length < 10) (hn : 0 ≤ n ∧ n ≤ 9) (hv : valG ks (.inl n) = some t) :
    callF (k + 4) .Stream_named [.ref a, .int n] st = .ok t st := by
  apply Ok.eq
  rw [run_Stream_named, Ok_runF]
  unfold b_Stream_named
  have sh : shaped (.int (ps.length : Int)) = true := (BT.int (v := (ps.length : Int)) (by omega)).gd (by omega) (by omega) |>.sh
  have : (ps.length : Int) ≠ 10 := by omega
  simp [r_chkname hn, hs.ins, fLen, seqR, sh, this, dctF_ref hk, keyT, hv]
theorem r_named_new {k a d : Nat} {ps : List Int} {u n : Int} {ks : List (Key × T)} {st : Sto} (hs : StrAt st a ps u d) (hk : st[d]? = some (.dct ks)) (h : Pth ps) (hl : ps.length < 10) (hn : 0 ≤ n ∧ n ≤ 9) (hv : valG ks (.inl n) = none) (hz : ks.length < 1000) :
    callF (k + 4) .Stream_named [.ref a, .int n] st = .ok (.ref st.length) ((st ++ [O.ins 1 (sfl (ps ++ [-1 - n]) 0 (st.length + 1)), O.dct []]).set d (O.dct (putG ks (.inl n) (.ref st.length)))) := by
  apply Ok.eq
  rw [run_Stream_named, Ok_runF]
  unfold b_Stream_named
  have sh : shaped (.int (ps.length : Int)) = true := (BT.int (v := (ps.length : Int)) (by omega)).gd (by omega) (by omega) |>.sh
  have hl' : (ps.length : Int) ≠ 10 := by omega
  have hp := h.snoc hl (v := -1 - n) (by omega)
  have ei := r_sinit (k := k) (st := st) hp
  have em : (IT (ps ++ [-1 - n])) = IT ps ++ [.int (-1 - n)] := by simp
  rw [em] at ei
  have hs2 := hs.app (l := [.ins 1 (sfl (ps ++ [-1 - n]) 0 (st.length + 1)), .dct []])
  have hd := (List.getElem?_eq_some_iff.mp hk).1
  have hk2 : (st ++ [.ins 1 (sfl (ps ++ [-1 - n]) 0 (st.length + 1)), .dct []])[d]? = some (.dct ks) := by rw [List.getElem?_append_left hd]; exact hk
  have hda : d ≠ a := by
    intro e
    subst e
    unfold StrAt at hs
    rw [hk] at hs; cases hs
  have hk3 : ((st ++ [O.ins 1 (sfl (ps ++ [-1 - n]) 0 (st.length + 1)), O.dct []]).set d (.dct (putKT ks (.inl n) (.ref st.length))))[d]? = some (.dct (putKT ks (.inl n) (.ref st.length))) :=
    List.getElem?_set_self (by rw [List.length_append]; omega)
  have hs3 : StrAt ((st ++ [O.ins 1 (sfl (ps ++ [-1 - n]) 0 (st.length + 1)), O.dct []]).set d (.dct (putKT ks (.inl n) (.ref st.length)))) a ps u d := by
    unfold StrAt
    rw [List.getElem?_set_ne hda]; exact hs2
  simp [r_chkname hn, hs.ins, fLen, seqR, sh, hl', dctF_ref hk, keyT, hv, sizeLine_eq, ei]
  refine ⟨by omega, _, hs2.ins, _, sfl_known, d, rfl, ks, dctF_ref hk2, by omega, _, hs3.ins, _, sfl_known, _, dctF_ref hk3, _, ?_, rfl, rfl⟩
  rw [putKT_G, valG_put]
  simp
theorem r_split {k a d : Nat} {ps : List Int} {u : Int} {st : Sto} (hs : StrAt st a ps u d) (h : Pth ps) (hl : ps.length < 10) (hu : 0 ≤ u ∧ u ≤ 1000000000000) :
    callF (k + 4) .Stream_split [.ref a] st = .ok (.ref st.length) (st.set a (.ins 1 (sfl ps (u + 1) d)) ++ [.ins 1 (sfl (ps ++ [u]) 0 (st.length + 1)), .dct []]) := by
  apply Ok.eq
  rw [run_Stream_split, Ok_runF]
  unfold b_Stream_split
  have sh : shaped (.int (ps.length : Int)) = true := (BT.int (v := (ps.length : Int)) (by omega)).gd (by omega) (by omega) |>.sh
  have hl' : (ps.length : Int) ≠ 10 := by omega
  have hs2 := hs.put (v := u + 1)
  have ei := r_sinit (k := k) (st := st.set a (.ins 1 (sfl ps (u + 1) d))) (h.snoc hl (v := u) (by omega))
  have em : (IT (ps ++ [u])) = IT ps ++ [.int u] := by simp
  rw [em] at ei
  simp at ei
  have e1 : u + 1 - 1 = u := by omega
  simp [hs.ins, fLen, seqR, sh, hl', hs2.ins, sizeLine_eq, e1, ei]
  omega
end Ga

namespace Ga
open PySem L2 Mi
/-! what is held -/
structure HS where
  a : Nat
  ps : List Int
  u : Int
  d : Nat
  ks : List (Key × T)
def HS.t (h : HS) : T := .lst [.ref h.a, .tup (IT h.ps), .int h.u]
structure H1 (st : Sto) (h : HS) : Prop where
  s : StrAt st h.a h.ps h.u h.d
  k : st[h.d]? = some (.dct h.ks)
  p : Pth h.ps
  u0 : 0 ≤ h.u ∧ h.u ≤ 1000000000001
theorem H1.frm {S : Nat} {st st' : Sto} {h : HS} (q : H1 st h) (f : Frm S st st') (h1 : S ≠ h.a) (h2 : S ≠ h.d) : H1 st' h := ⟨f.2 _ _ h1.symm q.s, f.2 _ _ h2.symm q.k, q.p, q.u0⟩
def Kn (hs : List HS) (kn : List (List Key × T)) : Prop := ∀ (i : Nat) (n : Int), (hs[i]? = none ∧ valG kn [.inl (i : Int), .inl n] = none) ∨ ∃ h, hs[i]? = some h ∧
  ((valG kn [.inl (i : Int), .inl n] = none ∧ valG h.ks (.inl n) = none) ∨ ∃ (j : Nat) (h' : HS), valG kn [.inl (i : Int), .inl n] = some (.int (j : Int)) ∧ hs[j]? = some h' ∧ valG h.ks (.inl n) = some (.ref h'.a))
structure Inv (L D : Nat) (st : Sto) (hs : List HS) (kn : List (List Key × T)) : Prop where
  l : st[L]? = some (.lst (hs.map HS.t))
  d : st[D]? = some (.dtt kn)
  h : ∀ h ∈ hs, H1 st h
  na : (hs.map HS.a).Nodup
  nd : (hs.map HS.d).Nodup
  l1 : 1 ≤ hs.length ∧ hs.length ≤ 6
  kl : kn.length ≤ hs.length ∧ ∀ h ∈ hs, h.ks.length ≤ hs.length
  kn : Kn hs kn
theorem at_ne {st : Sto} {i j : Nat} {o u : O} (h : st[i]? = some o) (h2 : st[j]? = some u) (n : o ≠ u) : i ≠ j := by
  rintro rfl
  rw [h] at h2
  exact n (Option.some.inj h2)
theorem Inv.src {L D S m : Nat} {st st' : Sto} {hs : List HS} {kn : List (List Key × T)} (I : Inv L D st hs kn) (s : Src st S m) (hL : S ≠ L) (f : Frm S st st') : Inv L D st' hs kn := by
  obtain ⟨a, b, c, e, _⟩ := s
  refine ⟨f.2 _ _ hL.symm I.l, f.2 _ _ (at_ne e I.d (by simp)).symm I.d, fun h hh => ?_, I.na, I.nd, I.l1, I.kl, I.kn⟩
  have q := I.h h hh
  exact q.frm f (at_ne e q.s (by simp)) (at_ne e q.k (by simp))
theorem Inv.at {L D : Nat} {st : Sto} {hs : List HS} {kn : List (List Key × T)} (I : Inv L D st hs kn) {i : Nat} {h : HS} (hi : hs[i]? = some h) : H1 st h := I.h h (List.mem_of_getElem? hi)
theorem na_ne {α : Type} {f : α → Nat} {hs : List α} (n : (hs.map f).Nodup) {i j : Nat} {h h' : α} (hi : hs[i]? = some h) (hj : hs[j]? = some h') (e : f h = f h') : i = j := by
  have l : i < (hs.map f).length := by rw [List.length_map]; exact (List.getElem?_eq_some_iff.mp hi).1
  refine (List.getElem?_inj l n).mp ?_
  rw [List.getElem?_map, List.getElem?_map, hi, hj]
  exact congrArg some e
/-- the list of items, one of them changed -/
theorem map_set {α β : Type} (f : α → β) (l : List α) (i : Nat) (x : α) : (l.set i x).map f = (l.map f).set i (f x) := List.map_set
theorem same_set {α : Type} {f : α → Nat} {hs : List α} {i : Nat} {h x : α} (hi : hs[i]? = some h) (e : f x = f h) : (hs.set i x).map f = hs.map f := by
  rw [List.map_set, e]
  refine List.ext_getElem? fun j => ?_
  by_cases hj : i = j
  · subst hj
    have := (List.getElem?_eq_some_iff.mp hi).1
    rw [List.getElem?_set_self (by simpa using this), List.getElem?_map, hi]; rfl
  · rw [List.getElem?_set_ne hj]
/-- the index of one is another -/
theorem Inv.upd {L D i : Nat} {v : Int} {st st' : Sto} {hs : List HS} {h : HS} {kn : List (List Key × T)} (I : Inv L D st hs kn) (hi : hs[i]? = some h) (hv : 0 ≤ v ∧ v ≤ 1000000000001)
    (f : ∀ j o, j ≠ L → j ≠ h.a → st[j]? = some o → st'[j]? = some o) (e1 : st'[L]? = some (.lst ((hs.map HS.t).set i ({ h with u := v } : HS).t))) (e2 : StrAt st' h.a h.ps v h.d) : Inv L D st' (hs.set i { h with u := v }) kn := by
  have q0 := I.at hi
  have il := (List.getElem?_eq_some_iff.mp hi).1
  have lD : D ≠ L := (at_ne I.l I.d (by simp)).symm
  have sa : (hs.set i { h with u := v }).map HS.a = hs.map HS.a := same_set hi rfl
  have sd : (hs.set i { h with u := v }).map HS.d = hs.map HS.d := same_set hi rfl
  have aD : D ≠ h.a := (at_ne q0.s I.d (by simp)).symm
  refine ⟨by rw [map_set]; exact e1, f _ _ lD aD I.d, fun g hg => ?_, by rw [sa]; exact I.na, by rw [sd]; exact I.nd, by simpa using I.l1, ⟨by simpa using I.kl.1, fun g hg => ?_⟩, fun j n => ?_⟩
  · obtain ⟨j, hj⟩ := List.mem_iff_getElem?.mp hg
    by_cases e : i = j
    · subst e
      rw [List.getElem?_set_self il] at hj
      cases hj
      exact ⟨e2, f _ _ (at_ne q0.k I.l (by simp)) (at_ne q0.k q0.s (by simp)) q0.k, q0.p, hv⟩
    · rw [List.getElem?_set_ne e] at hj
      have q := I.at hj
      exact ⟨f _ _ (at_ne q.s I.l (by simp)) (fun z => e (na_ne I.na hi hj z.symm)) q.s, f _ _ (at_ne q.k I.l (by simp)) (at_ne q.k q0.s (by simp)) q.k, q.p, q.u0⟩
  · rw [List.length_set]
    rcases List.mem_or_eq_of_mem_set hg with hg | rfl
    · exact I.kl.2 g hg
    · exact I.kl.2 h (List.mem_of_getElem? hi)
  · have look : ∀ {j : Nat} {g : HS}, hs[j]? = some g → ∃ g', (hs.set i { h with u := v })[j]? = some g' ∧ g'.a = g.a ∧ g'.ks = g.ks := by
      intro j g hj
      by_cases e : i = j
      · subst e
        rw [hi] at hj; cases hj
        exact ⟨_, List.getElem?_set_self il, rfl, rfl⟩
      · exact ⟨g, by rw [List.getElem?_set_ne e]; exact hj, rfl, rfl⟩
    rcases I.kn j n with ⟨h1, h2⟩ | ⟨g, h1, h2⟩
    · refine .inl ⟨?_, h2⟩
      rw [List.getElem?_eq_none_iff] at h1 ⊢
      simpa using h1
    · obtain ⟨g', k1, k2, k3⟩ := look h1
      refine .inr ⟨g', k1, ?_⟩
      rw [k3]
      rcases h2 with h2 | ⟨m, h', a1, a2, a3⟩
      · exact .inl h2
      · obtain ⟨g2, l1, l2, l3⟩ := look a2
        exact .inr ⟨m, g2, a1, l1, by rw [l2]; exact a3⟩
/-- one more, split from one of them -/
theorem Inv.add {L D : Nat} {st st' : Sto} {hs : List HS} {x : HS} {kn : List (List Key × T)} (I : Inv L D st hs kn) (f : ∀ j o, j ≠ L → st[j]? = some o → st'[j]? = some o) (e1 : st'[L]? = some (.lst (hs.map HS.t ++ [x.t])))
    (hx : H1 st' x) (fr : ∀ h ∈ hs, h.a ≠ x.a ∧ h.d ≠ x.d) (hl : hs.length < 6) (hk : x.ks = []) : Inv L D st' (hs ++ [x]) kn := by
  have lD : D ≠ L := (at_ne I.l I.d (by simp)).symm
  refine ⟨by rw [List.map_append]; exact e1, f _ _ lD I.d, fun g hg => ?_, ?_, ?_, by simp; omega, ⟨by have := I.kl.1; simp; omega, fun g hg => ?_⟩, fun j n => ?_⟩
  · rcases List.mem_append.mp hg with hg | hg
    · have q := I.h g hg
      exact ⟨f _ _ (at_ne q.s I.l (by simp)) q.s, f _ _ (at_ne q.k I.l (by simp)) q.k, q.p, q.u0⟩
    · simp at hg; subst hg; exact hx
  · rw [List.map_append, List.nodup_append]
    refine ⟨I.na, by simp, fun a ha b hb => ?_⟩
    obtain ⟨g, hg, rfl⟩ := List.mem_map.mp ha
    simp at hb; subst hb
    exact (fr g hg).1
  · rw [List.map_append, List.nodup_append]
    refine ⟨I.nd, by simp, fun a ha b hb => ?_⟩
    obtain ⟨g, hg, rfl⟩ := List.mem_map.mp ha
    simp at hb; subst hb
    exact (fr g hg).2
  · rcases List.mem_append.mp hg with hg | hg
    · have := I.kl.2 g hg
      simp; omega
    · simp at hg; subst hg; rw [hk]; simp
  · rcases I.kn j n with ⟨h1, h2⟩ | ⟨g, h1, h2⟩
    · rw [List.getElem?_eq_none_iff] at h1
      by_cases e : j = hs.length
      · subst e
        exact .inr ⟨x, by simp, .inl ⟨h2, by rw [hk]; rfl⟩⟩
      · exact .inl ⟨by rw [List.getElem?_eq_none_iff]; simp; omega, h2⟩
    · have l1 := (List.getElem?_eq_some_iff.mp h1).1
      refine .inr ⟨g, by rw [List.getElem?_append_left l1]; exact h1, ?_⟩
      rcases h2 with h2 | ⟨m, h', a1, a2, a3⟩
      · exact .inl h2
      · have l2 := (List.getElem?_eq_some_iff.mp a2).1
        exact .inr ⟨m, h', a1, by rw [List.getElem?_append_left l2]; exact a2, a3⟩
/-- one more, a name of one of them -/
theorem Inv.name {L D i : Nat} {n : Int} {st st' : Sto} {hs : List HS} {h x : HS} {kn : List (List Key × T)} (I : Inv L D st hs kn) (hi : hs[i]? = some h) (f : ∀ j o, j ≠ L → j ≠ D → j ≠ h.d → st[j]? = some o → st'[j]? = some o)
    (eL : st'[L]? = some (.lst (hs.map HS.t ++ [x.t]))) (eD : st'[D]? = some (.dtt (putG kn [.inl (i : Int), .inl n] (.int (hs.length : Int))))) (ed : st'[h.d]? = some (.dct (putG h.ks (.inl n) (.ref x.a))))
    (hx : H1 st' x) (fr : ∀ h ∈ hs, h.a ≠ x.a ∧ h.d ≠ x.d) (hl : hs.length < 6) (hk : x.ks = []) : Inv L D st' (hs.set i { h with ks := putG h.ks (.inl n) (.ref x.a) } ++ [x]) (putG kn [.inl (i : Int), .inl n] (.int (hs.length : Int))) := by
  have q0 := I.at hi
  have il := (List.getElem?_eq_some_iff.mp hi).1
  have sa : (hs.set i { h with ks := putG h.ks (.inl n) (.ref x.a) }).map HS.a = hs.map HS.a := same_set hi rfl
  have sd : (hs.set i { h with ks := putG h.ks (.inl n) (.ref x.a) }).map HS.d = hs.map HS.d := same_set hi rfl
  have lp := length_putG kn [.inl (i : Int), .inl n] (.int (hs.length : Int))
  have lq := length_putG h.ks (.inl n) (.ref x.a)
  have e0 : (hs.set i { h with ks := putG h.ks (.inl n) (.ref x.a) }).map HS.t = hs.map HS.t := by
    rw [List.map_set]
    refine List.ext_getElem? fun j => ?_
    by_cases hj : i = j
    · subst hj
      rw [List.getElem?_set_self (by simpa using il), List.getElem?_map, hi]; rfl
    · rw [List.getElem?_set_ne hj]
  refine ⟨by rw [List.map_append, e0]; exact eL, eD, fun g hg => ?_, ?_, ?_, by simp; omega, ⟨by have := I.kl.1; simp; omega, fun g hg => ?_⟩, fun j m => ?_⟩
  · rcases List.mem_append.mp hg with hg | hg
    · obtain ⟨j, hj⟩ := List.mem_iff_getElem?.mp hg
      by_cases e : i = j
      · subst e
        rw [List.getElem?_set_self il] at hj
        cases hj
        exact ⟨f _ _ (at_ne q0.s I.l (by simp)) (at_ne q0.s I.d (by simp)) (at_ne q0.s q0.k (by simp)) q0.s, ed, q0.p, q0.u0⟩
      · rw [List.getElem?_set_ne e] at hj
        have q := I.at hj
        exact ⟨f _ _ (at_ne q.s I.l (by simp)) (at_ne q.s I.d (by simp)) (at_ne q.s q0.k (by simp)) q.s, f _ _ (at_ne q.k I.l (by simp)) (at_ne q.k I.d (by simp)) (fun z => e (na_ne I.nd hi hj z.symm)) q.k, q.p, q.u0⟩
    · simp at hg; subst hg; exact hx
  · rw [List.map_append, sa, List.nodup_append]
    refine ⟨I.na, by simp, fun a ha b hb => ?_⟩
    obtain ⟨g, hg, rfl⟩ := List.mem_map.mp ha
    simp at hb; subst hb
    exact (fr g hg).1
  · rw [List.map_append, sd, List.nodup_append]
    refine ⟨I.nd, by simp, fun a ha b hb => ?_⟩
    obtain ⟨g, hg, rfl⟩ := List.mem_map.mp ha
    simp at hb; subst hb
    exact (fr g hg).2
  · rw [List.length_append, List.length_set]
    rcases List.mem_append.mp hg with hg | hg
    · rcases List.mem_or_eq_of_mem_set hg with hg | rfl
      · have := I.kl.2 g hg
        simp; omega
      · have := I.kl.2 h (List.mem_of_getElem? hi)
        show (putG h.ks (.inl n) (.ref x.a)).length ≤ _
        simp; omega
    · simp at hg; subst hg; rw [hk]; simp
  · have look : ∀ {j : Nat} {g : HS}, hs[j]? = some g → ∃ g', (hs.set i { h with ks := putG h.ks (.inl n) (.ref x.a) } ++ [x])[j]? = some g' ∧ g'.a = g.a ∧ g'.ks = if i = j then putG h.ks (.inl n) (.ref x.a) else g.ks := by
      intro j g hj
      have jl := (List.getElem?_eq_some_iff.mp hj).1
      rw [List.getElem?_append_left (by simpa using jl)]
      by_cases e : i = j
      · subst e
        rw [hi] at hj; cases hj
        exact ⟨_, List.getElem?_set_self il, rfl, by simp⟩
      · exact ⟨g, by rw [List.getElem?_set_ne e]; exact hj, rfl, by simp [e]⟩
    have last : (hs.set i { h with ks := putG h.ks (.inl n) (.ref x.a) } ++ [x])[hs.length]? = some x := by
      rw [List.getElem?_append_right (by simp)]; simp
    have keq : (([.inl (j : Int), .inl m] : List Key) = [.inl (i : Int), .inl n]) ↔ j = i ∧ m = n := by
      constructor
      · intro z
        simp only [List.cons.injEq, Sum.inl.injEq, and_true] at z
        exact ⟨by omega, z.2⟩
      · rintro ⟨rfl, rfl⟩; rfl
    rw [valG_put]
    rcases I.kn j m with ⟨h1, h2⟩ | ⟨g, h1, h2⟩
    · rw [List.getElem?_eq_none_iff] at h1
      have nk : ¬ (([.inl (j : Int), .inl m] : List Key) = [.inl (i : Int), .inl n]) := by rw [keq]; omega
      rw [if_neg nk]
      by_cases e : j = hs.length
      · subst e
        exact .inr ⟨x, last, .inl ⟨h2, by rw [hk]; rfl⟩⟩
      · exact .inl ⟨by rw [List.getElem?_eq_none_iff]; simp; omega, h2⟩
    · obtain ⟨g', k1, k2, k3⟩ := look h1
      refine .inr ⟨g', k1, ?_⟩
      rw [k3]
      by_cases e : i = j
      · subst e
        rw [hi] at h1; cases h1
        rw [if_pos rfl, valG_put]
        by_cases e2 : m = n
        · subst e2
          rw [if_pos (keq.mpr ⟨rfl, rfl⟩), if_pos rfl]
          exact .inr ⟨hs.length, x, rfl, last, rfl⟩
        · rw [if_neg (fun z => e2 (keq.mp z).2), if_neg (fun z => e2 (Sum.inl.inj z))]
          rcases h2 with h2 | ⟨o, h', a1, a2, a3⟩
          · exact .inl h2
          · obtain ⟨g2, b1, b2, _⟩ := look a2
            exact .inr ⟨o, g2, a1, b1, by rw [b2]; exact a3⟩
      · rw [if_neg (fun z => e (keq.mp z).1.symm), if_neg e]
        rcases h2 with h2 | ⟨o, h', a1, a2, a3⟩
        · exact .inl h2
        · obtain ⟨g2, b1, b2, _⟩ := look a2
          exact .inr ⟨o, g2, a1, b1, by rw [b2]; exact a3⟩
end Ga

namespace Ga
open PySem L2 Mi
/-! one is split, named, read -/
theorem Ok_pushX {Q : T → Sto → Prop} {E : Exn → Sto → Prop} {st : Sto} {j : Nat} {l : List T} {x : T} (h : st[j]? = some (.lst l)) (hl : l.length < 1000) (hq : Q .non (st.set j (.lst (l ++ [x])))) : Ok (fAppend (.ref j) [x] st) Q E := by
  have : fAppend (.ref j) [x] st = .ok .non (st.set j (.lst (l ++ [x]))) := by
    simp [fAppend, atS, h, sizeLine_eq]; omega
  rw [this]; exact hq
theorem src_to {st st' : Sto} {S m : Nat} (s : Src st S m) (f : ∀ o, st[S]? = some o → st'[S]? = some o) : Src st' S m := by
  obtain ⟨a, b, c, e, r⟩ := s
  exact ⟨a, b, c, f _ e, r⟩
theorem src_ne {st : Sto} {S m j : Nat} {o : O} (s : Src st S m) (h : st[j]? = some o) (n : ∀ l, o ≠ .lst l) : S ≠ j := by
  obtain ⟨a, b, c, e, r⟩ := s
  exact at_ne e h fun z => n _ z.symm
theorem okB_eq {r : R Bool} {b : Bool} {st : Sto} (h : Ok r (fun c s => c = b ∧ s = st) noE) : r = .ok b st := by
  cases r with
  | ok b s => obtain ⟨h1, h2⟩ := h; rw [h1, h2]
  | exc e st => exact h.elim
  | bad => exact h.elim
theorem new_lt {L D : Nat} {st : Sto} {hs : List HS} {kn : List (List Key × T)} (I : Inv L D st hs kn) {g : HS} (hg : g ∈ hs) : g.a < st.length ∧ g.d < st.length :=
  ⟨(List.getElem?_eq_some_iff.mp (I.h g hg).s).1, (List.getElem?_eq_some_iff.mp (I.h g hg).k).1⟩
theorem item_at {hs : List HS} {i : Nat} {h : HS} (hi : hs[i]? = some h) : atI (hs.map HS.t) (i : Int) = some h.t := atI_nat (by rw [List.getElem?_map, hi]; rfl)
theorem len_held {L : Nat} {st : Sto} {hs : List HS} (h : st[L]? = some (.lst (hs.map HS.t))) : fLen [.ref L] st = .ok (.int (hs.length : Int)) st := by
  have : lstR st (.ref L) = some (hs.map HS.t) := by simp [lstR, h]
  simp [fLen, seqR, this]
section
variable {N : Sl → Sto → Prop} {Rt : T → Sto → Prop} {B C : Sl → Sto → Prop} {E : Exn → Sl → Sto → Prop} {k S L D m i : Nat} {st : Sto} {hs : List HS} {h : HS} {kn : List (List Key × T)} {y7 y8 y9 : Option T}
theorem eqI_ref {st : Sto} {a b d e : Nat} {p q : List Int} {u v : Int} (h1 : StrAt st a p u d) (h2 : StrAt st b q v e) : opEqI 1 (.ref a) (.ref b) st = .ok (.bl (a == b)) st := by simp [opEqI, h1.insA, h2.insA]
theorem tk_known {n : Int} (I : Inv L D st hs kn) (s : Src st S m) (hSL : S ≠ L) (hi : hs[i]? = some h) (hl : h.ps.length ≤ 9) (n0 : 0 ≤ n) (n1 : n < 4)
    (hR : ∀ st' hs' kn', Inv L D st' hs' kn' → Src st' S m → Rt (.bl true) st') :
    OkS (b_L_is_taken_4 (callF (k + 5)) [some (.ref S), some (.ref L), some (.ref D), some (.int (i : Int)), some (.ref h.a), some (.tup (IT h.ps)), some (.int h.u), some (.int n), y8, y9] st) N Rt B C E := by
  unfold b_L_is_taken_4
  have q := I.at hi
  have il := (List.getElem?_eq_some_iff.mp hi).1
  have ln := len_held I.l
  have l6 := I.l1
  have kD := dttF_ref I.d
  rw [OkS_cons, OkS_if]
  rcases I.kn i n with ⟨h1, _⟩ | ⟨g, h1, h2⟩
  · rw [hi] at h1; cases h1
  rw [hi] at h1; cases h1
  rcases h2 with ⟨h2, h3⟩ | ⟨j, h', a1, a2, a3⟩
  · simp [-OkS_cons, kD, keysK, keyT, h2, sizeLine_eq]
    rw [OkS_cons, OkS_if]
    by_cases hc : hs.length < 6
    · have hc' : (hs.length : Int) < 6 := by omega
      simp [-OkS_cons, ln, hc']
      rw [OkS_cons]
      simp [-OkS_cons, ln, kD, keysK, keyT, sizeLine_eq]
      refine ⟨by have := I.kl.1; omega, ?_⟩
      have lD : D ≠ L := (at_ne I.l I.d (by simp)).symm
      have aD : h.a ≠ D := at_ne q.s I.d (by simp)
      have dD : h.d ≠ D := at_ne q.k I.d (by simp)
      have aL : h.a ≠ L := at_ne q.s I.l (by simp)
      have dL : h.d ≠ L := at_ne q.k I.l (by simp)
      have SD : S ≠ D := src_ne s I.d (by simp)
      have Sd : S ≠ h.d := src_ne s q.k (by simp)
      have DD := (List.getElem?_eq_some_iff.mp I.d).1
      have eD : (List.set st D (O.dtt (putG kn [.inl (i : Int), .inl n] (.int (hs.length : Int)))))[D]? = some (.dtt (putG kn [.inl (i : Int), .inl n] (.int (hs.length : Int)))) := List.getElem?_set_self DD
      have f2 : ∀ j o, j ≠ D → st[j]? = some o → (List.set st D (O.dtt (putG kn [.inl (i : Int), .inl n] (.int (hs.length : Int)))))[j]? = some o := fun j o hj e => by rw [List.getElem?_set_ne hj.symm]; exact e
      have len2 : (List.set st D (O.dtt (putG kn [.inl (i : Int), .inl n] (.int (hs.length : Int))))).length = st.length := by simp
      generalize List.set st D (O.dtt (putG kn [.inl (i : Int), .inl n] (.int (hs.length : Int)))) = st2 at eD f2 len2
      have sA : StrAt st2 h.a h.ps h.u h.d := f2 _ _ aD q.s
      have kd := f2 _ _ dD q.k
      have eL := f2 _ _ lD.symm I.l
      have en := r_named_new (k := k + 1) (n := n) sA kd q.p (by omega) (by omega) h3 (by have := I.kl.2 h (List.mem_of_getElem? hi); omega)
      rw [OkS_cons]
      simp [-OkS_cons, sA.ins, sfl_nk (f := "named") (by decide +kernel) (by decide +kernel) (by decide +kernel), en]
      have d2 := (List.getElem?_eq_some_iff.mp kd).1
      have L2 := (List.getElem?_eq_some_iff.mp eL).1
      have D2 := (List.getElem?_eq_some_iff.mp eD).1
      have A2 := (List.getElem?_eq_some_iff.mp sA).1
      have f3 : ∀ j o, j ≠ h.d → st2[j]? = some o → ((st2 ++ [O.ins 1 (sfl (h.ps ++ [-1 - n]) 0 (st2.length + 1)), O.dct []]).set h.d (O.dct (putG h.ks (.inl n) (.ref st2.length))))[j]? = some o := fun j o hj e => by
        rw [List.getElem?_set_ne hj.symm, List.getElem?_append_left (List.getElem?_eq_some_iff.mp e).1]; exact e
      have ed3 : ((st2 ++ [O.ins 1 (sfl (h.ps ++ [-1 - n]) 0 (st2.length + 1)), O.dct []]).set h.d (O.dct (putG h.ks (.inl n) (.ref st2.length))))[h.d]? = some (O.dct (putG h.ks (.inl n) (.ref st2.length))) := List.getElem?_set_self (by simp; omega)
      have ex3 : StrAt ((st2 ++ [O.ins 1 (sfl (h.ps ++ [-1 - n]) 0 (st2.length + 1)), O.dct []]).set h.d (O.dct (putG h.ks (.inl n) (.ref st2.length)))) st2.length (h.ps ++ [-1 - n]) 0 (st2.length + 1) := by
        unfold StrAt
        rw [List.getElem?_set_ne (by omega), List.getElem?_append_right (by simp)]; simp
      have ek3 : ((st2 ++ [O.ins 1 (sfl (h.ps ++ [-1 - n]) 0 (st2.length + 1)), O.dct []]).set h.d (O.dct (putG h.ks (.inl n) (.ref st2.length))))[st2.length + 1]? = some (O.dct []) := by
        rw [List.getElem?_set_ne (by omega), List.getElem?_append_right (by simp)]; simp
      generalize (st2 ++ [O.ins 1 (sfl (h.ps ++ [-1 - n]) 0 (st2.length + 1)), O.dct []]).set h.d (O.dct (putG h.ks (.inl n) (.ref st2.length))) = st3 at f3 ed3 ex3 ek3
      have eL3 := f3 _ _ dL.symm eL
      rw [OkS_cons, OkS_expr, Ok_meth]
      simp only [Ok_var]
      refine ⟨_, rfl, by simp [tyM, lstR, eL3], ?_⟩
      simp [-OkS_cons, sizeLine_eq]
      refine ⟨by omega, Ok_pushX eL3 (by simp; omega) ?_⟩
      have L3 := (List.getElem?_eq_some_iff.mp eL3).1
      have f4 : ∀ j o, j ≠ L → st3[j]? = some o → (st3.set L (O.lst (List.map HS.t hs ++ [T.lst [T.ref st2.length, T.tup (IT h.ps ++ [T.int (-1 - n)]), T.int 0]])))[j]? = some o := fun j o hj e => by rw [List.getElem?_set_ne hj.symm]; exact e
      have eL4 : (st3.set L (O.lst (List.map HS.t hs ++ [T.lst [T.ref st2.length, T.tup (IT h.ps ++ [T.int (-1 - n)]), T.int 0]])))[L]? = some (O.lst (List.map HS.t hs ++ [T.lst [T.ref st2.length, T.tup (IT h.ps ++ [T.int (-1 - n)]), T.int 0]])) := List.getElem?_set_self L3
      generalize st3.set L (O.lst (List.map HS.t hs ++ [T.lst [T.ref st2.length, T.tup (IT h.ps ++ [T.int (-1 - n)]), T.int 0]])) = st4 at f4 eL4
      have I4 : Inv L D st4 (hs.set i { h with ks := putG h.ks (.inl n) (.ref st2.length) } ++ [⟨st2.length, h.ps ++ [-1 - n], 0, st2.length + 1, []⟩]) (putG kn [.inl (i : Int), .inl n] (.int (hs.length : Int))) := by
        refine I.name (x := ⟨st2.length, h.ps ++ [-1 - n], 0, st2.length + 1, []⟩) hi (fun j o h1 h2 h3 e => f4 _ _ h1 (f3 _ _ h3 (f2 _ _ h2 e))) ?_ (f4 _ _ lD (f3 _ _ dD.symm eD)) (f4 _ _ dL ed3) ⟨f4 _ _ (by show st2.length ≠ L; omega) ex3, f4 _ _ (by show st2.length + 1 ≠ L; omega) ek3, q.p.snoc (by omega) (by omega), by show (0:Int) ≤ 0 ∧ (0:Int) ≤ _; omega⟩ (fun g hg => ?_) hc rfl
        · rw [eL4]
          simp [HS.t]
        · have := new_lt I hg
          exact ⟨by show g.a ≠ st2.length; omega, by show g.d ≠ st2.length + 1; omega⟩
      have hs4 : ∀ g ∈ hs, ∃ u d p, StrAt st4 g.a p u d ∧ g.a ≠ st2.length := fun g hg => by
        have q4 := I.h g hg
        have := new_lt I hg
        exact ⟨g.u, g.d, g.ps, f4 _ _ (at_ne q4.s I.l (by simp)) (f3 _ _ (at_ne q4.s q.k (by simp)) (f2 _ _ (at_ne q4.s I.d (by simp)) q4.s)), by omega⟩
      have ex4 : StrAt st4 st2.length (h.ps ++ [-1 - n]) 0 (st2.length + 1) := f4 _ _ (by omega) ex3
      rw [OkS_cons, OkS_ret, Ok_bin, Ok_lc]
      have lL4 : lstR st4 (.ref L) = some (List.map HS.t hs ++ [T.lst [T.ref st2.length, T.tup (IT h.ps ++ [T.int (-1 - n)]), T.int 0]]) := by simp [lstR, eL4]
      have lcE : ∀ ρ : Sl, ρ = wipeT [some (T.ref S), some (T.ref L), some (T.ref D), some (T.int (i : Int)), some (T.ref h.a), some (T.tup (IT h.ps)), some (T.int h.u), some (T.int n), some (T.ref st2.length), y9] [9] →
          lcW (tgN 9) (mTest (mBin (opEqI 1) (mBin opIx (mVar 9) (mC (T.int 0))) (mVar 8))) (mC (T.int 1)) ρ (.seq (List.map HS.t hs)) st4 = .ok [] st4 := fun ρ hρ => by
        subst hρ
        have := lc_pure (g := tgN 9) (tt := mTest (mBin (opEqI 1) (mBin opIx (mVar 9) (mC (T.int 0))) (mVar 8))) (elt := mC (T.int 1)) (ρ := wipeT [some (T.ref S), some (T.ref L), some (T.ref D), some (T.int (i : Int)), some (T.ref h.a), some (T.tup (IT h.ps)), some (T.int h.u), some (T.int n), some (T.ref st2.length), y9] [9]) (st := st4) (fun _ => none) (List.map HS.t hs) fun t ht => by
          obtain ⟨g, hg, rfl⟩ := List.mem_map.mp ht
          obtain ⟨u, d, p, s4, ne⟩ := hs4 g hg
          have ee := eqI_ref s4 ex4
          refine ⟨_, rfl, .inr ⟨rfl, ?_⟩⟩
          refine okB_eq ?_
          have : atI [T.ref g.a, .tup (IT g.ps), .int g.u] 0 = some (.ref g.a) := atI_0
          simp [wipeT, HS.t, this, ee, ne]
        have e0 : (List.map HS.t hs).filterMap (fun _ => (none : Option T)) = [] := by simp
        rw [e0] at this
        show (if (List.map HS.t hs).length ≤ sizeLine then _ else _) = _
        rw [if_pos (by rw [sizeLine_eq]; simp; omega)]
        exact this
      simp [opSl, lL4, cut_last, lcE _ rfl]
      have s0 : shaped (.lst []) = true := by decide +kernel
      have e0 : T.eqv (.lst []) (.lst []) = true := by decide +kernel
      rw [Ok_eq (x := .lst []) (y := .lst []) (st := st4) (by exact s0) (by exact s0)]
      rw [show T.eqv (now st4 (.lst [])) (now st4 (.lst [])) = true from e0]
      exact hR _ _ _ I4 (src_to s fun o e => f4 _ _ hSL (f3 _ _ Sd (f2 _ _ SD e)))
    · have hc' : ¬ (hs.length : Int) < 6 := by omega
      simp [ln, hc']
      exact hR _ _ _ I s
  · have q' := I.at a2
    have eo := r_named_old (k := k + 1) (n := n) q.s q.k q.p (by omega) (by omega) a3
    simp [-OkS_cons, kD, keysK, keyT, a1, sizeLine_eq]
    rw [OkS_cons]
    simp [-OkS_cons, kD, keysK, keyT, a1, sizeLine_eq, q.s.ins, sfl_nk (f := "named") (by decide +kernel) (by decide +kernel) (by decide +kernel), eo, I.l, item_at a2, HS.t, atI_0]
    have ee := eqI_ref q'.s q'.s
    simp at ee
    rw [ee]
    exact hR _ _ _ I s
theorem tk_tail (I : Inv L D st hs kn) (s : Src st S m) (hm : m + 2 < 2 ^ 62) (hSL : S ≠ L) (hi : hs[i]? = some h) (hl : h.ps.length ≤ 9) (hu : h.u ≤ 1000000000000)
    (hR : ∀ st' hs' kn', Inv L D st' hs' kn' → Src st' S (m + 1) → Rt (.bl true) st') :
    OkS (b_L_is_taken_2 (callF (k + 5)) [some (.ref S), some (.ref L), some (.ref D), some (.int (i : Int)), some (.ref h.a), some (.tup (IT h.ps)), some (.int h.u), y7, y8, y9] st) N Rt B C E := by
  unfold b_L_is_taken_2
  rw [OkS_cons]
  simp [-OkS_cons]
  refine Ok.imp (r_random (k := k + 4) s (n := 4) (by omega) (by omega) (by omega)) ?_ (fun _ _ h => h.elim)
  rintro _ st1 ⟨⟨n, rfl, n0, n1⟩, s1, f1⟩
  have I1 := I.src s hSL f1
  have q := I1.at hi
  have il := (List.getElem?_eq_some_iff.mp hi).1
  have ln := len_held I1.l
  have l6 := I1.l1
  rw [OkS_cons]
  by_cases hc : n = 3 ∧ hs.length < 6
  · obtain ⟨rfl, hc⟩ := hc
    have hix : ixN (hs.map HS.t).length (i : Int) = some i := by
      unfold ixN
      rw [if_pos (by omega), if_pos (by simp; omega)]
      rfl
    rw [OkS_if]
    have hc' : (hs.length : Int) < 6 := by omega
    simp [-OkS_cons, ln, hc']
    rw [OkS_cons]
    simp [-OkS_cons, I1.l, sizeLine_eq]
    simp at hix
    refine ⟨i, hix, ?_⟩
    rw [OkS_cons]
    have aL : h.a ≠ L := at_ne q.s I1.l (by simp)
    have LL := (List.getElem?_eq_some_iff.mp I1.l).1
    have lL : (List.set st1 L (O.lst ((List.map HS.t hs).set i (T.lst [T.ref h.a, T.tup (IT h.ps), T.int (h.u + 1)]))))[L]? = some (O.lst ((List.map HS.t hs).set i (T.lst [T.ref h.a, T.tup (IT h.ps), T.int (h.u + 1)]))) := List.getElem?_set_self LL
    have sA : StrAt (List.set st1 L (O.lst ((List.map HS.t hs).set i (T.lst [T.ref h.a, T.tup (IT h.ps), T.int (h.u + 1)])))) h.a h.ps h.u h.d := by
      unfold StrAt
      rw [List.getElem?_set_ne aL.symm]; exact q.s
    have fr2 : ∀ j o, j ≠ L → st1[j]? = some o → (List.set st1 L (O.lst ((List.map HS.t hs).set i (T.lst [T.ref h.a, T.tup (IT h.ps), T.int (h.u + 1)]))))[j]? = some o := fun j o hj e => by rw [List.getElem?_set_ne hj.symm]; exact e
    have len2 : (List.set st1 L (O.lst ((List.map HS.t hs).set i (T.lst [T.ref h.a, T.tup (IT h.ps), T.int (h.u + 1)])))).length = st1.length := by simp
    generalize List.set st1 L (O.lst ((List.map HS.t hs).set i (T.lst [T.ref h.a, T.tup (IT h.ps), T.int (h.u + 1)]))) = st2 at lL sA fr2 len2
    have u0 := q.u0
    have es := r_split (k := k + 1) sA q.p (by omega) ⟨u0.1, hu⟩
    rw [OkS_expr, Ok_meth]
    simp only [Ok_var]
    refine ⟨_, rfl, by simp [tyM, lstR, lL], ?_⟩
    simp [-OkS_cons, sA.ins, sfl_nk (f := "split") (by decide +kernel) (by decide +kernel) (by decide +kernel), es, sizeLine_eq]
    have L2 := (List.getElem?_eq_some_iff.mp lL).1
    have A2 := (List.getElem?_eq_some_iff.mp sA).1
    have lS : ((st2.set h.a (O.ins 1 (sfl h.ps (h.u + 1) h.d)) ++ [O.ins 1 (sfl (h.ps ++ [h.u]) 0 (st2.length + 1)), O.dct []]))[L]? = some (O.lst ((List.map HS.t hs).set i (T.lst [T.ref h.a, T.tup (IT h.ps), T.int (h.u + 1)]))) := by
      rw [List.getElem?_append_left (by simpa using L2), List.getElem?_set_ne aL]; exact lL
    refine ⟨by omega, Ok_pushX lS (by simp; omega) ?_⟩
    rw [OkS_cons]
    simp [-OkS_cons]
    have I2 : Inv L D (st2.set h.a (O.ins 1 (sfl h.ps (h.u + 1) h.d))) (hs.set i { h with u := h.u + 1 }) kn := I1.upd hi (by omega) (fun j o hL ha e => by rw [List.getElem?_set_ne ha.symm]; exact fr2 j o hL e) (by rw [List.getElem?_set_ne aL]; exact lL) sA.put
    have I3 : Inv L D ((st2.set h.a (O.ins 1 (sfl h.ps (h.u + 1) h.d)) ++ [O.ins 1 (sfl (h.ps ++ [h.u]) 0 (st2.length + 1)), O.dct []]).set L (.lst ((List.map HS.t hs).set i (T.lst [T.ref h.a, T.tup (IT h.ps), T.int (h.u + 1)]) ++ [T.lst [T.ref st2.length, T.tup (IT h.ps ++ [T.int h.u]), T.int 0]])))
        (hs.set i { h with u := h.u + 1 } ++ [⟨st2.length, h.ps ++ [h.u], 0, st2.length + 1, []⟩]) kn := by
      refine I2.add (fun j o hj e => ?_) ?_ ⟨?_, ?_, q.p.snoc (by omega) (by omega), by show (0:Int) ≤ 0 ∧ (0:Int) ≤ _; omega⟩ (fun g hg => ?_) (by simp; omega) rfl
      · rw [List.getElem?_set_ne hj.symm, List.getElem?_append_left (List.getElem?_eq_some_iff.mp e).1]; exact e
      · rw [List.getElem?_set_self (by simp; omega), map_set]
        simp [HS.t]
      · show ((_ : Sto))[st2.length]? = _
        rw [List.getElem?_set_ne (by omega), List.getElem?_append_right (by simp)]
        simp
      · show ((_ : Sto))[st2.length + 1]? = _
        rw [List.getElem?_set_ne (by omega), List.getElem?_append_right (by simp)]
        simp
      · have := new_lt I2 hg
        simp at this
        exact ⟨Nat.ne_of_lt this.1, by show g.d ≠ st2.length + 1; omega⟩
    refine hR _ _ _ I3 (src_to s1 fun o e => ?_)
    have Sa : S ≠ h.a := src_ne s1 q.s (by simp)
    have e2 := fr2 S o hSL e
    rw [List.getElem?_set_ne hSL.symm, List.getElem?_append_left (by simpa using (List.getElem?_eq_some_iff.mp e2).1), List.getElem?_set_ne Sa.symm]
    exact e2
  · by_cases h3 : n = 3
    · subst h3
      have hc' : ¬ (hs.length : Int) < 6 := by omega
      rw [OkS_if]
      simp [-OkS_cons, ln, hc']
      exact tk_known I1 s1 hSL hi hl (by omega) (by omega) hR
    · rw [OkS_if]
      simp [-OkS_cons, ln, h3]
      exact tk_known I1 s1 hSL hi hl (by omega) (by omega) hR
end
end Ga

namespace Ga
open PySem L2 Mi
/-! a stream is taken from, moved -/
def TkR (L D S m : Nat) (st' : Sto) : Prop := ∃ hs' kn', Inv L D st' hs' kn' ∧ Src st' S m
section
variable {N : Sl → Sto → Prop} {Rt : T → Sto → Prop} {B C : Sl → Sto → Prop} {E : Exn → Sl → Sto → Prop} {k S L D m i : Nat} {st : Sto} {hs : List HS} {h : HS} {kn : List (List Key × T)} {y7 y8 y9 : Option T}
theorem tk_take (I : Inv L D st hs kn) (s : Src st S m) (hSL : S ≠ L) (hi : hs[i]? = some h) (hR : ∀ st', TkR L D S m st' → Rt (.bl true) st') :
    OkS (sCons (sIf (mTest (mBin opGt (mVar 6) (mBin opPow (mC (T.int 10)) (mC (T.int 12))))) (sCons (sRet (mC (T.bl true))) sNil) sNil)
      (sCons (sAsg (mLst (mCons (mVar 4) (mCons (mVar 5) (mCons (mBin opAdd (mVar 6) (mC (T.int 1))) mNil)))) (gItem (mVar 1) (mVar 3)))
      (sCons (sRet (mCall 3 (callF (k + 5) Fn.L_is_seen) (mCons (mCallO0 1 (callF (k + 5) Fn.Stream___call__) (mVar 4)) (mCons (mVar 5) (mCons (mVar 6) mNil)))))
      sNil)) [some (.ref S), some (.ref L), some (.ref D), some (.int (i : Int)), some (.ref h.a), some (.tup (IT h.ps)), some (.int h.u), y7, y8, y9] st) N Rt B C E := by
  have q := I.at hi
  have il := (List.getElem?_eq_some_iff.mp hi).1
  have l6 := I.l1
  have u0 := q.u0
  rw [OkS_cons, OkS_if]
  by_cases hu : h.u ≤ 1000000000000
  · have hu' : ¬ 1000000000000 < h.u := by omega
    simp [-OkS_cons, p12, hu']
    have hix : ixN (hs.map HS.t).length (i : Int) = some i := by
      unfold ixN
      rw [if_pos (by omega), if_pos (by simp; omega)]
      rfl
    rw [OkS_cons]
    simp [-OkS_cons, I.l, sizeLine_eq]
    simp at hix
    refine ⟨i, hix, ?_⟩
    have aL : h.a ≠ L := at_ne q.s I.l (by simp)
    have LL := (List.getElem?_eq_some_iff.mp I.l).1
    have lL : (List.set st L (O.lst ((List.map HS.t hs).set i (T.lst [T.ref h.a, T.tup (IT h.ps), T.int (h.u + 1)]))))[L]? = some (O.lst ((List.map HS.t hs).set i (T.lst [T.ref h.a, T.tup (IT h.ps), T.int (h.u + 1)]))) := List.getElem?_set_self LL
    have sA : StrAt (List.set st L (O.lst ((List.map HS.t hs).set i (T.lst [T.ref h.a, T.tup (IT h.ps), T.int (h.u + 1)])))) h.a h.ps h.u h.d := by
      unfold StrAt
      rw [List.getElem?_set_ne aL.symm]; exact q.s
    have fr2 : ∀ j o, j ≠ L → st[j]? = some o → (List.set st L (O.lst ((List.map HS.t hs).set i (T.lst [T.ref h.a, T.tup (IT h.ps), T.int (h.u + 1)]))))[j]? = some o := fun j o hj e => by rw [List.getElem?_set_ne hj.symm]; exact e
    generalize List.set st L (O.lst ((List.map HS.t hs).set i (T.lst [T.ref h.a, T.tup (IT h.ps), T.int (h.u + 1)]))) = st2 at lL sA fr2
    obtain ⟨p3, st3, e3, q3, s3, o3⟩ := r_scallQ (k := k) q.p sA ⟨u0.1, hu⟩
    have es := r_is_seenI (k := k + 3) q.p ⟨u0.1, hu⟩ q3
    have I3 : Inv L D st3 (hs.set i { h with u := h.u + 1 }) kn := I.upd hi (by omega) (fun j o hL ha e => o3 j o ha (fr2 j o hL e)) (o3 _ _ aL.symm lL) s3
    rw [OkS_cons]
    simp [sA.ins, e3, es]
    exact hR _ ⟨_, _, I3, src_to s fun o e => o3 _ _ (src_ne s q.s (by simp)) (fr2 _ _ hSL e)⟩
  · have hu' : 1000000000000 < h.u := by omega
    simp [p12, hu']
    exact hR _ ⟨_, _, I, s⟩
end
theorem Inv.mono_src {m m' S : Nat} {st : Sto} (s : Src st S m) (h : m ≤ m') : Src st S m' := Mi.Src.mono s h
theorem TkR.mono {L D S m m' : Nat} {st : Sto} (h : TkR L D S m st) (hm : m ≤ m') : TkR L D S m' st := by
  obtain ⟨a, b, c, d⟩ := h
  exact ⟨a, b, c, Mi.Src.mono d hm⟩
theorem r_is_taken {k S L D m i : Nat} {st : Sto} {hs : List HS} {h : HS} {kn : List (List Key × T)} (I : Inv L D st hs kn) (s : Src st S m) (hm : m + 10 < 2 ^ 62) (hSL : S ≠ L) (hi : hs[i]? = some h) :
    Ok (callF (k + 6) .L_is_taken [.ref S, .ref L, .ref D, .int (i : Int)] st) (fun t st' => t = .bl true ∧ TkR L D S (m + 2) st') noE := by
  rw [run_L_is_taken, Ok_runF]
  unfold b_L_is_taken
  show OkS (sCons _ _ [some (T.ref S), some (T.ref L), some (T.ref D), some (T.int (i : Int)), none, none, none, none, none, none] st) _ _ _ _ _
  rw [OkS_cons]
  simp [-OkS_cons, I.l, item_at hi, HS.t, seqR]
  rw [OkS_cons, OkS_if]
  have u0 := (I.at hi).u0
  have hp := (I.at hi).p.1
  simp [-OkS_cons]
  refine Ok.imp (r_random (k := k + 4) s (n := 3) (by omega) (by omega) (by omega)) ?_ (fun _ _ h => h.elim)
  rintro _ st1 ⟨⟨r, rfl, r0, r1⟩, s1, f1⟩
  have I1 := I.src s hSL f1
  have take := fun {y7 y8 y9 : Option T} => tk_take (k := k) (y7 := y7) (y8 := y8) (y9 := y9) (N := fun ρ1 st1 => OkS (b_L_is_taken_2 (callF (k + 5)) ρ1 st1) (fun x st => False) (fun t st' => t = T.bl true ∧ TkR L D S (m + 2) st') (fun x st => False) (fun x st => False) fun e x st => noE e st)
    (Rt := fun t st' => t = T.bl true ∧ TkR L D S (m + 2) st') (B := fun _ _ => False) (C := fun _ _ => False) (E := fun e x st => noE e st) I1 s1 hSL hi (fun st' r => ⟨rfl, r.mono (by omega)⟩)
  by_cases h1 : 0 < r
  · simp [-OkS_cons, h1]
    exact take
  · have h1' : r ≤ 0 := by omega
    simp [-OkS_cons, h1, h1', fLen, seqR]
    by_cases h2 : 9 < h.ps.length
    · refine .inr ⟨by omega, take⟩
    · refine .inl ⟨by omega, ?_⟩
      by_cases h3 : h.u ≤ 1000000000000
      · exact .inl ⟨h3, tk_tail I1 s1 (by omega) hSL hi (by omega) h3 fun st' hs' kn' I' s' => ⟨rfl, hs', kn', I', s'⟩⟩
      · exact .inr ⟨by omega, take⟩
end Ga

namespace Ga
open PySem L2 Mi
/-! a stream is moved -/
/-- the item of a stream is set: what stands then -/
theorem set_item {L D i : Nat} {v : Int} {st : Sto} {hs : List HS} {h : HS} {kn : List (List Key × T)} (I : Inv L D st hs kn) (hi : hs[i]? = some h) : ∃ st2, List.set st L (O.lst ((List.map HS.t hs).set i (T.lst [T.ref h.a, T.tup (IT h.ps), T.int v]))) = st2 ∧
    st2[L]? = some (O.lst ((List.map HS.t hs).set i (T.lst [T.ref h.a, T.tup (IT h.ps), T.int v]))) ∧ StrAt st2 h.a h.ps h.u h.d ∧ (∀ j o, j ≠ L → st[j]? = some o → st2[j]? = some o) ∧ ixN (hs.map HS.t).length (i : Int) = some i ∧ h.a ≠ L := by
  have q := I.at hi
  have il := (List.getElem?_eq_some_iff.mp hi).1
  have aL : h.a ≠ L := at_ne q.s I.l (by simp)
  refine ⟨_, rfl, List.getElem?_set_self (List.getElem?_eq_some_iff.mp I.l).1, ?_, fun j o hj e => by rw [List.getElem?_set_ne hj.symm]; exact e, ?_, aL⟩
  · unfold StrAt
    rw [List.getElem?_set_ne aL.symm]; exact q.s
  · unfold ixN
    rw [if_pos (by omega), if_pos (by simp; omega)]
    rfl
section
variable {N : Sl → Sto → Prop} {Rt : T → Sto → Prop} {B C : Sl → Sto → Prop} {E : Exn → Sl → Sto → Prop} {k S L D m i : Nat} {st : Sto} {hs : List HS} {h : HS} {kn : List (List Key × T)} {y6 y7 : Option T}
theorem mv_tail (I : Inv L D st hs kn) (s : Src st S m) (hm : m + 10 < 2 ^ 62) (hSL : S ≠ L) (hi : hs[i]? = some h) (hR : ∀ st', TkR L D S (m + 1) st' → Rt (.bl true) st') :
    OkS (b_L_is_moved_2 (callF (k + 5)) [some (.ref S), some (.ref L), some (.int (i : Int)), some (.ref h.a), some (.tup (IT h.ps)), some (.int h.u), y6, y7] st) N Rt B C E := by
  unfold b_L_is_moved_2
  rw [OkS_cons]
  simp [-OkS_cons]
  refine Ok.imp (r_random (k := k + 4) s (n := 50) (by omega) (by omega) (by omega)) ?_ (fun _ _ h => h.elim)
  rintro _ st1 ⟨⟨r, rfl, r0, r1⟩, s1, f1⟩
  have I1 := I.src s hSL f1
  have q := I1.at hi
  have u0 := q.u0
  have em : fMin2 [.int 20, .int h.u] st1 = .ok (.int (if h.u < 20 then h.u else 20)) st1 := rfl
  simp [-OkS_cons, em]
  generalize r - (if h.u < 20 then h.u else 20) = v
  rw [OkS_cons, OkS_if]
  by_cases hc : 0 ≤ h.u + v ∧ h.u + v ≤ 1000000000000
  · simp [-OkS_cons, p12, hc.1, hc.2]
    obtain ⟨st2, e2, lL, sA, f2, hix, aL⟩ := set_item (v := h.u + v) I1 hi
    rw [OkS_cons]
    simp [-OkS_cons, I1.l, sizeLine_eq]
    simp at hix
    refine ⟨i, hix, ?_⟩
    rw [e2]
    obtain ⟨st3, e3, s3, o3⟩ := r_grownQ (k := k + 1) sA hc
    have I3 : Inv L D st3 (hs.set i { h with u := h.u + v }) kn := I1.upd hi (by omega) (fun j o hL ha e => o3 j o ha (f2 j o hL e)) (o3 _ _ aL.symm lL) s3
    have ee := eqI_ref s3 s3
    simp at ee
    rw [OkS_cons]
    simp [e3, ee]
    exact hR _ ⟨_, _, I3, src_to s1 fun o e => o3 _ _ (src_ne s1 q.s (by simp)) (f2 _ _ hSL e)⟩
  · by_cases h1 : 0 ≤ h.u + v
    · have h2 : ¬ h.u + v ≤ 1000000000000 := fun z => hc ⟨h1, z⟩
      simp [p12, h1, h2]
      exact hR _ ⟨_, _, I1, s1⟩
    · simp [p12, h1]
      exact hR _ ⟨_, _, I1, s1⟩
end
theorem r_is_moved {k S L D m i : Nat} {st : Sto} {hs : List HS} {h : HS} {kn : List (List Key × T)} (I : Inv L D st hs kn) (s : Src st S m) (hm : m + 20 < 2 ^ 62) (hSL : S ≠ L) (hi : hs[i]? = some h) :
    Ok (callF (k + 6) .L_is_moved [.ref S, .ref L, .int (i : Int)] st) (fun t st' => t = .bl true ∧ TkR L D S (m + 4) st') noE := by
  rw [run_L_is_moved, Ok_runF]
  unfold b_L_is_moved
  show OkS (sCons _ _ [some (T.ref S), some (T.ref L), some (T.int (i : Int)), none, none, none, none, none] st) _ _ _ _ _
  rw [OkS_cons]
  simp [-OkS_cons, I.l, item_at hi, HS.t, seqR]
  rw [OkS_cons, OkS_if]
  simp [-OkS_cons]
  refine Ok.imp (r_random (k := k + 4) s (n := 2) (by omega) (by omega) (by omega)) ?_ (fun _ _ h => h.elim)
  rintro _ st1 ⟨⟨r, rfl, r0, r1⟩, s1, f1⟩
  have I1 := I.src s hSL f1
  by_cases h1 : r = 0
  · subst h1
    simp [-OkS_cons]
    rw [OkS_cons]
    simp [-OkS_cons]
    refine Ok.imp (r_index (k := k + 2) s1 (by omega)) ?_ (fun _ _ h => h.elim)
    rintro _ st2 ⟨⟨n, rfl, n1⟩, s2, f2⟩
    have I2 := I1.src s1 hSL f2
    have q := I2.at hi
    obtain ⟨st3, e3, lL, sA, f3, hix, aL⟩ := set_item (v := (n : Int)) I2 hi
    rw [OkS_cons]
    simp [-OkS_cons, I2.l, sizeLine_eq]
    simp at hix
    refine ⟨i, hix, ?_⟩
    rw [e3]
    have es := r_seek (k := k + 3) (v := (n : Int)) sA (by omega)
    have A3 := (List.getElem?_eq_some_iff.mp sA).1
    have I3 : Inv L D (st3.set h.a (.ins 1 (sfl h.ps n h.d))) (hs.set i { h with u := n }) kn := I2.upd hi (by omega) (fun j o hL ha e => by rw [List.getElem?_set_ne ha.symm]; exact f3 j o hL e) (by rw [List.getElem?_set_ne aL]; exact lL) sA.put
    rw [OkS_cons]
    simp [sA.ins, sfl_nk (f := "seek") (by decide +kernel) (by decide +kernel) (by decide +kernel), es, opIs, Mi.isNon]
    exact ⟨_, _, I3, src_to (Mi.Src.mono s2 (by omega)) fun o e => by rw [List.getElem?_set_ne (src_ne s2 q.s (by simp)).symm]; exact f3 _ _ hSL e⟩
  · simp [-OkS_cons, h1]
    exact mv_tail I1 s1 (by omega) hSL hi fun st' r => ⟨rfl, r.mono (by omega)⟩
end Ga

namespace Ga
open PySem L2 Mi
/-! over a list of the store -/
theorem Ok_get {α : Type} {r : R α} {Q : α → Sto → Prop} (h : Ok r Q noE) : ∃ a st, r = .ok a st ∧ Q a st := by
  cases r with
  | ok a st => exact ⟨a, st, rfl, h⟩
  | exc e st => exact h.elim
  | bad => exact h.elim
/-- over a list of the store that stays as it is -/
theorem live_inv {g : GM} {body : SM} {r : Nat} {ts : List T} (I : Nat → Sl → Sto → Prop) (hl : ∀ j ρ st, I j ρ st → st[r]? = some (.lst ts))
    {N : Sl → Sto → Prop} {Rt : T → Sto → Prop} {B C : Sl → Sto → Prop} {E : Exn → Sl → Sto → Prop}
    (step : ∀ j t, ts[j]? = some t → ∀ ρ st, I j ρ st → Ok (g t ρ st) (fun ρ1 st1 => OkS (body ρ1 st1) (I (j + 1)) Rt N (I (j + 1)) E) noE) (fin : ∀ ρ st, I ts.length ρ st → N ρ st) :
    ∀ (n i : Nat) (ρ : Sl) (st : Sto), i + n = ts.length + 1 → i ≤ ts.length → I i ρ st → OkS (forLive g body r n i ρ st) N Rt B C E
  | 0, i, ρ, st, hi, hle, h => by omega
  | n + 1, i, ρ, st, hi, hle, h => by
    unfold forLive
    rw [hl i ρ st h]
    cases ht : ts[i]? with
    | none =>
      rw [List.getElem?_eq_none_iff] at ht
      obtain rfl : i = ts.length := by omega
      simp only [ht, List.getElem?_eq_none (Nat.le_refl _)]
      exact fin ρ st h
    | some t =>
      have hlt := (List.getElem?_eq_some_iff.mp ht).1
      simp only [ht]
      have := step i t ht ρ st h
      cases hg : g t ρ st with
      | ok ρ1 st1 =>
        rw [hg] at this
        have this : OkS (body ρ1 st1) (I (i + 1)) Rt N (I (i + 1)) E := this
        show OkS ((body ρ1 st1).turn (forLive g body r n (i + 1))) N Rt B C E
        rw [OkS_turn]
        exact this.imp (fun ρ st h => live_inv I hl step fin n (i + 1) ρ st (by omega) (by omega) h) (fun _ _ h => h) (fun _ _ h => h) (fun ρ st h => live_inv I hl step fin n (i + 1) ρ st (by omega) (by omega) h) (fun _ _ _ h => h)
      | exc _ _ => rw [hg] at this; exact this.elim
      | bad => rw [hg] at this; exact this.elim
end Ga

namespace Ga
open PySem L2 Mi
/-! the law -/
structure Cal (cf : CF) : Prop where
  known : ∃ st, cf .L_known_right [] [] = .ok (.bl true) st
  cell : ∀ {j : Nat} {ns : List Int} {st : Sto}, ns.length ≤ 63 → ∃ v, cf .L_cell [.frz (ns.map T.int), .int (j : Nat)] st = .ok (.int v) st
  source : ∀ {v : Int} {st : Sto}, Ok (cf .L_source [.int v] st) (fun t st' => t = .ref st.length ∧ Src st' st.length 0) noE
  path : ∀ {i m : Nat} {st : Sto}, Src st i m → m + 100 < 2 ^ 62 → Ok (cf .L_any_path [.ref i, .int 9] st) (fun t st' => (∃ ps, t = .tup (IT ps) ∧ Pth ps) ∧ Src st' i (m + 41) ∧ Frm i st st') noE
  sinit : ∀ {ps : List Int} {st : Sto}, Pth ps → cf .Stream___init__ [.ref st.length, .tup (IT ps)] (st ++ [.ins 1 []]) = .ok .non (st ++ [.ins 1 (sfl ps 0 (st.length + 1)), .dct []])
  random : ∀ {i m : Nat} {n : Int} {st : Sto}, Src st i m → 0 < n → n ≤ 1000000 → m < 2 ^ 62 → Ok (cf .L_random [.ref i, .int n] st) (fun t st' => (∃ r, t = .int r ∧ 0 ≤ r ∧ r < n) ∧ Src st' i (m + 1) ∧ Frm i st st') noE
  taken : ∀ {S L D m i : Nat} {st : Sto} {hs : List HS} {h : HS} {kn : List (List Key × T)}, Inv L D st hs kn → Src st S m → m + 10 < 2 ^ 62 → S ≠ L → hs[i]? = some h → Ok (cf .L_is_taken [.ref S, .ref L, .ref D, .int (i : Int)] st) (fun t st' => t = .bl true ∧ TkR L D S (m + 2) st') noE
  moved : ∀ {S L D m i : Nat} {st : Sto} {hs : List HS} {h : HS} {kn : List (List Key × T)}, Inv L D st hs kn → Src st S m → m + 20 < 2 ^ 62 → S ≠ L → hs[i]? = some h → Ok (cf .L_is_moved [.ref S, .ref L, .int (i : Int)] st) (fun t st' => t = .bl true ∧ TkR L D S (m + 4) st') noE
  next : ∀ {a d : Nat} {ps : List Int} {u : Int} {st : Sto}, StrAt st a ps u d → cf .Stream_next_index [.ref a] st = .ok (.int u) st
  same : ∀ {n w : Nat} {t : T} {st : Sto}, BT n w t → n ≤ 64 → w ≤ 1000000 → cf .L_same [t, t] st = .ok (.bl true) st
def okTrue (r : R T) : Bool := match r with | .ok (.bl b) _ => b | _ => false
theorem okTrue_ex {r : R T} (h : okTrue r = true) : ∃ st, r = .ok (.bl true) st := by
  unfold okTrue at h
  split at h
  · exact ⟨_, by rw [h]⟩
  · cases h
theorem known19 : okTrue (callF 19 .L_known_right [] []) = true := by decide +kernel
theorem cal19 : Cal (callF 19) := ⟨okTrue_ex known19, r_cell (k := 18), r_source (k := 18), fun {i m st} h h2 => r_any_path (k := 15) h h2 (by omega), r_sinit (k := 16), r_random (k := 18), r_is_taken (k := 13), r_is_moved (k := 13), r_next (k := 18), r_sameB (k := 18)⟩
theorem lg_small {z : Int} (h : z.natAbs ≤ 1000000000001) : z.natAbs.log2 < 50 := by
  by_cases hz : z.natAbs = 0
  · rw [hz]; decide
  · rw [Nat.log2_lt hz]
    have : (2:Nat)^50 = 1125899906842624 := by decide
    omega
/-- the streams are as they are held -/
theorem chk {cf : CF} (C : Cal cf) {L D : Nat} {st : Sto} {hs : List HS} {kn : List (List Key × T)} (I : Inv L D st hs kn) {x0 x1 x2 x3 x4 x6 x7 x8 x9 x10 x11 : Option T}
    {N : Sl → Sto → Prop} {Rt : T → Sto → Prop} {B C' : Sl → Sto → Prop} {E : Exn → Sl → Sto → Prop} (hN : ∀ x9 x10 x11, N [x0, x1, x2, x3, x4, some (.ref L), x6, x7, x8, x9, x10, x11] st) :
    OkS (sFor (mIt (mVar 5)) (gTupM 3 (gsCons (gSet 9) (gsCons (gSet 10) (gsCons (gSet 11) gsNil)))) (w_law_0 cf) [x0, x1, x2, x3, x4, some (.ref L), x6, x7, x8, x9, x10, x11] st) N Rt B C' E := by
  simp only [OkS_for, Ok_it, Ok_var, List.getElem?_cons_zero, List.getElem?_cons_succ, Option.some.injEq, exists_eq_left']
  rw [show itSeq (.ref L) st = .ok (.live L) st by simp [itSeq, I.l]]
  simp only [Ok_ok]
  have eL : liveLen st L = (hs.map HS.t).length := by unfold liveLen; rw [I.l]
  unfold forI
  simp only [eL]
  refine live_inv (ts := hs.map HS.t) (fun n ρ st2 => (∃ x9 x10 x11, ρ = [x0, x1, x2, x3, x4, some (.ref L), x6, x7, x8, x9, x10, x11]) ∧ st2 = st) ?_ ?_ ?_ _ 0 _ _ (by omega) (by omega) ⟨⟨_, _, _, rfl⟩, rfl⟩
  · rintro n ρ _ ⟨_, rfl⟩
    exact I.l
  · rintro n t ht ρ _ ⟨⟨z9, z10, z11, rfl⟩, rfl⟩
    obtain ⟨h, hh, rfl⟩ : ∃ h, h ∈ hs ∧ HS.t h = t := by
      obtain ⟨h, h1, h2⟩ := List.mem_map.mp (List.mem_of_getElem? ht)
      exact ⟨h, h1, h2⟩
    have q := I.h h hh
    have u0 := q.u0
    have bi : BT 0 1010 (.int h.u) := BT.intW (Nat.lt_trans (lg_small (z := h.u) (by omega)) (by decide))
    have l1 : LS 0 1020 [T.int h.u] := LS.cons bi (LS.nil (w := 0)) (by omega)
    have l2 : LS 1 140000 [T.tup (IT h.ps), .int h.u] := LS.cons (ls_path q.p).tup (l1.mono (by omega) (Nat.le_refl _)) (by omega)
    have es := fun st => C.same (st := st) l2.lst (by omega) (by omega)
    have en := C.next q.s
    unfold w_law_0
    simp [HS.t, seqR, q.s.ins, en, sizeLine_eq, es]
  · rintro ρ _ ⟨⟨z9, z10, z11, rfl⟩, rfl⟩
    exact hN _ _ _
end Ga

namespace Ga
open PySem L2 Mi
/-! the law: turns, cells -/
def InvT (ns : List Int) (S D L : Nat) (n : Nat) (ρ : Sl) (st : Sto) : Prop := ∃ y1 y3 y6 y7 y8 y9 y10 y11, ρ = [some (.frz (ns.map T.int)), y1, some (.ref S), y3, some (.ref D), some (.ref L), y6, y7, y8, y9, y10, y11] ∧ TkR L D S (100 + n * 6) st
theorem turn {cf : CF} (C : Cal cf) {ns : List Int} {S D L n : Nat} {st : Sto} {hs : List HS} {kn : List (List Key × T)} (I : Inv L D st hs kn) (s : Src st S (100 + n * 6)) (hn : n < 1000) (hSL : S ≠ L) {y1 y3 y6 y7 y8 y9 y10 y11 : Option T}
    {N : Sl → Sto → Prop} {Rt : T → Sto → Prop} {B C' : Sl → Sto → Prop} {E : Exn → Sl → Sto → Prop} (hN : ∀ ρ st', InvT ns S D L (n + 1) ρ st' → N ρ st') :
    OkS (w_law_1 cf [some (.frz (ns.map T.int)), y1, some (.ref S), y3, some (.ref D), some (.ref L), y6, y7, y8, y9, y10, y11] st) N Rt B C' E := by
  unfold w_law_1
  have l6 := I.l1
  rw [OkS_cons]
  simp [-OkS_cons, len_held I.l]
  refine Ok.imp (C.random s (n := (hs.length : Int)) (by omega) (by omega) (by omega)) ?_ (fun _ _ h => h.elim)
  rintro _ st1 ⟨⟨r, rfl, r0, r1⟩, s1, f1⟩
  have I1 := I.src s hSL f1
  obtain ⟨i, rfl⟩ : ∃ i : Nat, r = (i : Int) := ⟨r.toNat, by omega⟩
  have hi : hs[i]? = some hs[i] := List.getElem?_eq_getElem (by omega)
  generalize hs[i] = h at hi
  rw [OkS_cons]
  simp [-OkS_cons]
  refine Ok.imp (C.random s1 (n := 3) (by omega) (by omega) (by omega)) ?_ (fun _ _ h => h.elim)
  rintro _ st2 ⟨⟨r, rfl, q0, q1⟩, s2, f2⟩
  have I2 := I1.src s1 hSL f2
  have fin : ∀ y8 st3, TkR L D S (100 + n * 6 + 2 + 4) st3 → OkS (sCons (sFor (mIt (mVar 5)) (gTupM 3 (gsCons (gSet 9) (gsCons (gSet 10) (gsCons (gSet 11) gsNil)))) (w_law_0 cf)) sNil [some (.frz (ns.map T.int)), y1, some (.ref S), y3, some (.ref D), some (.ref L), y6, some (.int (i : Int)), y8, y9, y10, y11] st3) N Rt B C' E := fun y8 st3 ⟨hs3, kn3, I3, s3⟩ => by
    rw [OkS_cons]
    refine chk C I3 fun x9 x10 x11 => ?_
    simp only [OkS_nil]
    exact hN _ _ ⟨_, _, _, _, _, _, _, _, rfl, hs3, kn3, I3, by have e : 100 + (n + 1) * 6 = 100 + n * 6 + 2 + 4 := by omega
                                                                rw [e]; exact s3⟩
  simp [-OkS_cons]
  rw [OkS_cons, OkS_if]
  by_cases hr : 0 < r
  · simp [-OkS_cons, hr]
    refine Ok.imp (C.taken I2 s2 (by omega) hSL hi) ?_ (fun _ _ h => h.elim)
    rintro _ st3 ⟨rfl, t3⟩
    simp [-OkS_cons]
    exact fin _ _ (t3.mono (by omega))
  · simp [-OkS_cons, hr]
    refine Ok.imp (C.moved I2 s2 (by omega) hSL hi) ?_ (fun _ _ h => h.elim)
    rintro _ st3 ⟨rfl, t3⟩
    simp [-OkS_cons]
    exact fin _ _ (t3.mono (by omega))
end Ga

namespace Ga
open PySem L2 Mi
/-! the law -/
theorem law_body {cf : CF} (C : Cal cf) {ns : List Int} (hl : ns.length ≤ 63) : Ok (runF 12 (b_law cf) [.frz (ns.map T.int)] []) (fun t st => t = .bl true) noE := by
  rw [Ok_runF]
  unfold b_law
  show OkS (sCons _ _ [some (T.frz (ns.map T.int)), none, none, none, none, none, none, none, none, none, none, none] []) _ _ _ _ _
  obtain ⟨st0, ek⟩ := C.known
  rw [OkS_cons]
  simp [-OkS_cons, ek]
  rw [OkS_cons]
  simp [-OkS_cons, fLen, seqR, lstR, fMin2, fMax2]
  refine ⟨by split <;> split <;> omega, ?_⟩
  refine for_rec (fun rest ρ st => (∃ y1 y2 y3 y4 y5 y6 y7 y8 y9 y10 y11, ρ = [some (.frz (ns.map T.int)), y1, y2, y3, y4, y5, y6, y7, y8, y9, y10, y11]) ∧ ∀ t ∈ rest, ∃ j : Nat, t = .int (j : Nat)) ⟨⟨_, _, _, _, _, _, _, _, _, _, _, rfl⟩, ?_⟩ ?_ ?_
  · intro t ht
    unfold rgT at ht
    obtain ⟨j, _, rfl⟩ := List.mem_map.mp ht
    exact ⟨j, by simp⟩
  · rintro t rest ρ st ⟨⟨y1, y2, y3, y4, y5, y6, y7, y8, y9, y10, y11, rfl⟩, hj⟩
    obtain ⟨j, rfl⟩ := hj _ (List.mem_cons_self ..)
    have hrest : ∀ t ∈ rest, ∃ j : Nat, t = .int (j : Nat) := fun t ht => hj t (List.mem_cons_of_mem _ ht)
    obtain ⟨v, ev⟩ := C.cell (j := j) (st := st) hl
    simp only [Ok_gSet, List.set_cons_succ, List.set_cons_zero]
    unfold w_law_2
    rw [OkS_cons]
    simp [-OkS_cons, ev]
    refine Ok.imp C.source ?_ (fun _ _ h => h.elim)
    rintro _ st2 ⟨rfl, s2⟩
    generalize st.length = S at s2
    rw [OkS_cons]
    simp [-OkS_cons]
    refine Ok.imp (C.path s2 (by omega)) ?_ (fun _ _ h => h.elim)
    rintro _ st3 ⟨⟨ps, rfl, hp⟩, s3, _⟩
    have e1 := C.sinit (ps := []) (st := st3 ++ [O.dtt []]) ⟨by simp, by simp⟩
    have e2 := C.sinit (ps := ps) (st := st3 ++ [O.dtt [], O.ins 1 (sfl [] 0 (st3.length + 2)), O.dct []]) hp
    simp at e1 e2
    rw [OkS_cons]
    simp [-OkS_cons, e1, e2, sizeLine_eq]
    have S3 : S < st3.length := by obtain ⟨a, b, c, e, _⟩ := s3; exact (List.getElem?_eq_some_iff.mp e).1
    have I4 : Inv (st3.length + 5) st3.length (st3 ++ [O.dtt [], O.ins 1 (sfl [] 0 (st3.length + 2)), O.dct [], O.ins 1 (sfl ps 0 (st3.length + 3 + 1)), O.dct [], O.lst [T.lst [T.ref (st3.length + 1), T.tup [], T.int 0], T.lst [T.ref (st3.length + 3), T.tup (IT ps), T.int 0]]])
        [⟨st3.length + 1, [], 0, st3.length + 2, []⟩, ⟨st3.length + 3, ps, 0, st3.length + 4, []⟩] [] := by
      have at_ : ∀ (l : Sto) (n : Nat), (st3 ++ l)[st3.length + n]? = l[n]? := fun l n => by
        rw [List.getElem?_append_right (by omega)]
        congr 1
        omega
      refine ⟨?_, ?_, ?_, by simp, by simp, by simp, by simp, fun i n => ?_⟩
      · rw [at_]; rfl
      · rw [show st3.length = st3.length + 0 from rfl, at_]; rfl
      · intro h hh
        simp only [List.mem_cons, List.not_mem_nil, or_false] at hh
        rcases hh with rfl | rfl
        · exact ⟨by show (_ : Sto)[_]? = _; rw [at_]; rfl, by rw [at_]; rfl, ⟨by simp, by simp⟩, by show (0:Int) ≤ 0 ∧ (0:Int) ≤ _; omega⟩
        · exact ⟨by show (_ : Sto)[_]? = _; rw [at_]; rfl, by rw [at_]; rfl, hp, by show (0:Int) ≤ 0 ∧ (0:Int) ≤ _; omega⟩
      · match i with
        | 0 => exact .inr ⟨_, rfl, .inl ⟨rfl, rfl⟩⟩
        | 1 => exact .inr ⟨_, rfl, .inl ⟨rfl, rfl⟩⟩
        | i + 2 => exact .inl ⟨rfl, rfl⟩
    have s4 := s3.app [O.dtt [], O.ins 1 (sfl [] 0 (st3.length + 2)), O.dct [], O.ins 1 (sfl ps 0 (st3.length + 3 + 1)), O.dct [], O.lst [T.lst [T.ref (st3.length + 1), T.tup [], T.int 0], T.lst [T.ref (st3.length + 3), T.tup (IT ps), T.int 0]]]
    have SL : S ≠ st3.length + 5 := by omega
    revert I4 s4 SL
    generalize (st3 ++ [O.dtt [], O.ins 1 (sfl [] 0 (st3.length + 2)), O.dct [], O.ins 1 (sfl ps 0 (st3.length + 3 + 1)), O.dct [], O.lst [T.lst [T.ref (st3.length + 1), T.tup [], T.int 0], T.lst [T.ref (st3.length + 3), T.tup (IT ps), T.int 0]]]) = st4
    generalize st3.length + 5 = L
    generalize st3.length = D
    intro I4 s4 SL
    rw [OkS_cons]
    simp only [OkS_for, Ok_rng1, Ok_cons, Ok_C, Ok_nil, List.cons.injEq, T.int.injEq, and_true, exists_eq_left']
    refine ⟨by decide, ?_⟩
    show OkS (forL (gSet 6) (w_law_1 cf) (rgT 0 30) _ _) _ _ _ _ _
    refine for_inv (fun n ρ st' => InvT ns S D L n ρ st') ⟨_, _, _, _, _, _, _, _, rfl, _, _, I4, Mi.Src.mono s4 (by omega)⟩ ?_ ?_
    · rintro n t ρ st5 ht ⟨z1, z3, z6, z7, z8, z9, z10, z11, rfl, hs5, kn5, I5, s5⟩
      have hn : n < 30 := by
        have := (List.getElem?_eq_some_iff.mp ht).1
        simpa [rgT] using this
      simp only [Ok_gSet, List.set_cons_succ, List.set_cons_zero]
      exact turn C I5 s5 (by omega) SL fun ρ st' h => h
    · rintro ρ st5 ⟨z1, z3, z6, z7, z8, z9, z10, z11, rfl, _⟩
      simp only [OkS_nil]
      exact ⟨⟨_, _, _, _, _, _, _, _, _, _, _, rfl⟩, hrest⟩
  · rintro ρ st ⟨⟨y1, y2, y3, y4, y5, y6, y7, y8, y9, y10, y11, rfl⟩, _⟩
    simp
theorem ok_bl {r : R T} (h : Ok r (fun t st => t = .bl true) noE) : ∃ st, r = .ok (.bl true) st := by
  cases r with
  | ok b s => have h : b = .bl true := h; exact ⟨s, by rw [h]⟩
  | exc e st => exact h.elim
  | bad => exact h.elim
theorem law_gen {F : List T → Sto → R T} {cf : CF} (e : F = runF 12 (b_law cf)) (C : Cal cf) {ns : List Int} (hl : ns.length ≤ 63) : ∃ st, F [.frz (ns.map T.int)] [] = .ok (.bl true) st := by
  subst e
  exact ok_bl (law_body C hl)
theorem law_true : ∀ ns : List Int, ns.length ≤ 63 → ∃ st, callF 20 .law [.frz (ns.map T.int)] [] = .ok (.bl true) st :=
  fun ns hl => law_gen (run_law 19) cal19 hl
end Ga

namespace Ga
open PySem L2 Mi
structure Tx (K : PySem.W.Frag) (mg : Str → Option Value) (ad : Ad) (fa : Fn → Addr) (fd : Fn → FuncData) : Prop where
  fu : ∀ f, FunA K (nm f) (qn f) (sf f) (fa f) (fd f)
  mgs : ∀ f, isM f = false → mg (nm f) = some (.ref (fa f))
  bi : ∀ f, Binds K (fd f) (ps f) []
  cl_Position : Cls K (ad.fn 0)
  mk_Position : Mk K (ad.fn 0) (fa .Position___init__)
  mgC_Position : mg "Position" = some (.ref (ad.fn 0))
  mt_Position___init__ : Meth K (ad.fn 0) "__init__" (fa .Position___init__)
  mt_Position___sub__ : Meth K (ad.fn 0) "__sub__" (fa .Position___sub__)
  mt_Position___repr__ : Meth K (ad.fn 0) "__repr__" (fa .Position___repr__)
  na_Position_path : NoAttr K (ad.fn 0) "path"
  na_Position_index : NoAttr K (ad.fn 0) "index"
  ic_Position : IsC K (ad.fn 0)
  cl_Stream : Cls K (ad.fn 1)
  mk_Stream : Mk K (ad.fn 1) (fa .Stream___init__)
  mgC_Stream : mg "Stream" = some (.ref (ad.fn 1))
  mt_Stream___init__ : Meth K (ad.fn 1) "__init__" (fa .Stream___init__)
  pr_Stream_next_index : ∃ p, PropOf K (ad.fn 1) "next_index" p (fa .Stream_next_index)
  mt_Stream_seek : Meth K (ad.fn 1) "seek" (fa .Stream_seek)
  mt_Stream___call__ : Meth K (ad.fn 1) "__call__" (fa .Stream___call__)
  mt_Stream___iadd__ : Meth K (ad.fn 1) "__iadd__" (fa .Stream___iadd__)
  mt_Stream_split : Meth K (ad.fn 1) "split" (fa .Stream_split)
  mt_Stream_named : Meth K (ad.fn 1) "named" (fa .Stream_named)
  na_Stream_path : NoAttr K (ad.fn 1) "path"
  na_Stream_upcoming : NoAttr K (ad.fn 1) "upcoming"
  na_Stream_known : NoAttr K (ad.fn 1) "known"
  co_Stream : StX.CallO K (ad.fn 1) (fa .Stream___call__)
  sf_Stream : PySem.W.selfFirst K (ad.fn 1) = true
  df_Stream___init__ : Dfl K (fd .Stream___init__) (ps .Stream___init__) (.tup [])
  z_int : mg "int" = none
  z_isinstance : mg "isinstance" = none
  z_bool : mg "bool" = none
  z_tuple : mg "tuple" = none
  z_len : mg "len" = none
  z_all : mg "all" = none
  z_max : mg "max" = none
  z_repr : mg "repr" = none
  z_range : mg "range" = none
  z_str : mg "str" = none
  z_min : mg "min" = none
  c_MAX_STEPS : CstM K mg "MAX_STEPS" c_MAX_STEPS
  c_LAST_INDEX : CstM K mg "LAST_INDEX" c_LAST_INDEX
  c_MAX_NAME : CstM K mg "MAX_NAME" c_MAX_NAME
  ci_Stream : CmpI K (ad.fn 1)
  bo_Position__sub__ : BinO K (ad.fn 0) (fa .Position___sub__) "__sub__" "__rsub__"
section
variable {P : Program} {w : World} {K : PySem.W.Frag} {mg : Str → Option Value} {base : Heap} {ad : Ad} {fa : Fn → Addr} {fd : Fn → FuncData} {k : Nat} {cf : CF}
abbrev AllG (P : Program) (w : World) (K : PySem.W.Frag) (mg : Str → Option Value) (base : Heap) (ad : Ad) (fa : Fn → Addr) (fd : Fn → FuncData) (k : Nat) (cf : CF) : Prop := ∀ f, GnOk P w K mg base k (fa f) (fd f) (ps f) (spF K ad (ar f) (cf f))
abbrev n_is_between : List Str := ["thing", "low", "high"]
theorem sc_is_between : FnScope ["thing", "low", "high"] (ps .is_between) (defScope (sf .is_between)) := ⟨rfl, rfl, rfl, by decide +kernel, rfl, by decide +kernel, by decide +kernel⟩
set_option maxHeartbeats 4000000 in
theorem ok_is_between (T : Tx K mg ad fa fd) (hsm : ∃ o, base.get? sysModules = some o) (G : AllG P w K mg base ad fa fd k cf) : GnOk P w K mg base (k + 1 + 1) (fa .is_between) (fd .is_between) (ps .is_between) (spF K ad (ar .is_between) (runF 3 (b_is_between cf))) :=
  gn_ok (T.fu .is_between) sc_is_between hsm rfl fun cdv A outer s H E S =>
  (pms_cons (pms_ret (pm_and (pm_callB cm_isiS rfl T.z_isinstance PyProof.Rows.boot_isinstance (pma_cons (pm_var (pv 0)) (pma_cons (pm_ty rfl T.z_int PyProof.Rows.boot_int) pma_nil))) (pm_and (pm_not (pm_callB cm_isiS rfl T.z_isinstance PyProof.Rows.boot_isinstance (pma_cons (pm_var (pv 0)) (pma_cons (pm_ty rfl T.z_bool PyProof.Rows.boot_bool) pma_nil)))) (pm_one (pm_chain om_le om_le (pm_var (pv 1)) (pm_var (pv 0)) (pm_var (pv 2)))))))
  pms_nil)
abbrev n_is_path : List Str := ["thing", "step"]
theorem sc_is_path : FnScope ["thing", "step"] (ps .is_path) (defScope (sf .is_path)) := ⟨rfl, rfl, rfl, by decide +kernel, rfl, by decide +kernel, by decide +kernel⟩
set_option maxHeartbeats 4000000 in
theorem ok_is_path (T : Tx K mg ad fa fd) (hsm : ∃ o, base.get? sysModules = some o) (G : AllG P w K mg base ad fa fd k cf) : GnOk P w K mg base (k + 1 + 1) (fa .is_path) (fd .is_path) (ps .is_path) (spF K ad (ar .is_path) (runF 2 (b_is_path cf))) :=
  gn_ok (T.fu .is_path) sc_is_path hsm rfl fun cdv A outer s H E S =>
  (pms_cons (pms_if (pmt_bool (pmw_or (pmt_not (ptM_val (pm_callB cm_isiS rfl T.z_isinstance PyProof.Rows.boot_isinstance (pma_cons (pm_var (pv 0)) (pma_cons (pm_ty rfl T.z_tuple PyProof.Rows.boot_tuple) pma_nil))))) (pmw_or1 (ptM_cmp om_gt (pm_callB cm_len rfl T.z_len PySem.boot_len (pma_cons (pm_var (pv 0)) pma_nil)) (T.c_MAX_STEPS.pm rfl) (nomark _))))) (pms_cons (pms_ret pm_bl)
    pms_nil) pms_nil)
  (pms_cons (pms_ret (pm_callB (cm_all S.calm) rfl T.z_all PyProof.Rows.boot_all (pma_cons (pm_lc (own := [("step", 1)]) S sc_is_path.nd (tg_name (by decide)) (pmi_seq (pm_var (pv 0))) (blkOk_by (N := n_is_path) (sc := defScope (sf .is_path)) (by decide +kernel)) (fun s2 H2 C cl fp => (pg_name (i := 1) sc_is_path.nd rfl (Or.inl rfl))) (fun s2 H2 C cl fp => pmts_nil) (fun s2 H2 C cl fp => (pm_call (G .is_between).up (S.blk s2 H2 _ (compEnvC _ cl C _) fp) rfl (T.mgs .is_between rfl) (T.fu .is_between).kp (T.bi .is_between) (pma_cons (pm_var (pv 1)) (pma_cons (pm_bin om_sub (pm_neg pm_int) (T.c_MAX_NAME.pm rfl)) (pma_cons (T.c_LAST_INDEX.pm rfl) pma_nil)))))) pma_nil)))
  pms_nil))
abbrev n_is_position : List Str := ["thing"]
theorem sc_is_position : FnScope ["thing"] (ps .is_position) (defScope (sf .is_position)) := ⟨rfl, rfl, rfl, by decide +kernel, rfl, by decide +kernel, by decide +kernel⟩
set_option maxHeartbeats 4000000 in
theorem ok_is_position (T : Tx K mg ad fa fd) (hsm : ∃ o, base.get? sysModules = some o) (G : AllG P w K mg base ad fa fd k cf) : GnOk P w K mg base (k + 1 + 1) (fa .is_position) (fd .is_position) (ps .is_position) (spF K ad (ar .is_position) (runF 1 (b_is_position cf))) :=
  gn_ok (T.fu .is_position) sc_is_position hsm rfl fun cdv A outer s H E S =>
  (pms_cons (pms_ret (pm_and (pm_callB cm_isiS rfl T.z_isinstance PyProof.Rows.boot_isinstance (pma_cons (pm_var (pv 0)) (pma_cons (pm_ty rfl T.z_tuple PyProof.Rows.boot_tuple) pma_nil))) (pm_and (pm_cmp (om_eq S.u64) (pm_callB cm_len rfl T.z_len PySem.boot_len (pma_cons (pm_var (pv 0)) pma_nil)) pm_int (nomark _)) (pm_and (pm_call (G .is_path).up S rfl (T.mgs .is_path rfl) (T.fu .is_path).kp (T.bi .is_path) (pma_cons (pm_ix (pm_var (pv 0)) pm_int (fun _ _ => rfl)) pma_nil)) (pm_one (pm_call (G .is_between).up S rfl (T.mgs .is_between rfl) (T.fu .is_between).kp (T.bi .is_between) (pma_cons (pm_ix (pm_var (pv 0)) pm_int (fun _ _ => rfl)) (pma_cons pm_int (pma_cons (T.c_LAST_INDEX.pm rfl) pma_nil)))))))))
  pms_nil)
abbrev n_is_integer : List Str := ["thing"]
theorem sc_is_integer : FnScope ["thing"] (ps .is_integer) (defScope (sf .is_integer)) := ⟨rfl, rfl, rfl, by decide +kernel, rfl, by decide +kernel, by decide +kernel⟩
set_option maxHeartbeats 4000000 in
theorem ok_is_integer (T : Tx K mg ad fa fd) (hsm : ∃ o, base.get? sysModules = some o) (G : AllG P w K mg base ad fa fd k cf) : GnOk P w K mg base (k + 1 + 1) (fa .is_integer) (fd .is_integer) (ps .is_integer) (spF K ad (ar .is_integer) (runF 1 (b_is_integer cf))) :=
  gn_ok (T.fu .is_integer) sc_is_integer hsm rfl fun cdv A outer s H E S =>
  (pms_cons (pms_ret (pm_and (pm_callB cm_isiS rfl T.z_isinstance PyProof.Rows.boot_isinstance (pma_cons (pm_var (pv 0)) (pma_cons (pm_ty rfl T.z_int PyProof.Rows.boot_int) pma_nil))) (pm_one (pm_not (pm_callB cm_isiS rfl T.z_isinstance PyProof.Rows.boot_isinstance (pma_cons (pm_var (pv 0)) (pma_cons (pm_ty rfl T.z_bool PyProof.Rows.boot_bool) pma_nil)))))))
  pms_nil)
abbrev n_check_integer : List Str := ["thing"]
theorem sc_check_integer : FnScope ["thing"] (ps .check_integer) (defScope (sf .check_integer)) := ⟨rfl, rfl, rfl, by decide +kernel, rfl, by decide +kernel, by decide +kernel⟩
set_option maxHeartbeats 4000000 in
theorem ok_check_integer (T : Tx K mg ad fa fd) (hsm : ∃ o, base.get? sysModules = some o) (G : AllG P w K mg base ad fa fd k cf) : GnOk P w K mg base (k + 1 + 1) (fa .check_integer) (fd .check_integer) (ps .check_integer) (spF K ad (ar .check_integer) (runF 1 (b_check_integer cf))) :=
  gn_ok (T.fu .check_integer) sc_check_integer hsm rfl fun cdv A outer s H E S =>
  (pms_cons (pms_if (pmt_not (ptM_val (pm_call (G .is_integer).up S rfl (T.mgs .is_integer rfl) (T.fu .is_integer).kp (T.bi .is_integer) (pma_cons (pm_var (pv 0)) pma_nil)))) (pms_cons pms_never
    pms_nil) pms_nil)
  pms_nil)
abbrev n_check_name : List Str := ["thing"]
theorem sc_check_name : FnScope ["thing"] (ps .check_name) (defScope (sf .check_name)) := ⟨rfl, rfl, rfl, by decide +kernel, rfl, by decide +kernel, by decide +kernel⟩
set_option maxHeartbeats 4000000 in
theorem ok_check_name (T : Tx K mg ad fa fd) (hsm : ∃ o, base.get? sysModules = some o) (G : AllG P w K mg base ad fa fd k cf) : GnOk P w K mg base (k + 1 + 1) (fa .check_name) (fd .check_name) (ps .check_name) (spF K ad (ar .check_name) (runF 1 (b_check_name cf))) :=
  gn_ok (T.fu .check_name) sc_check_name hsm rfl fun cdv A outer s H E S =>
  (pms_cons (pms_if (pmt_not (ptM_val (pm_call (G .is_between).up S rfl (T.mgs .is_between rfl) (T.fu .is_between).kp (T.bi .is_between) (pma_cons (pm_var (pv 0)) (pma_cons pm_int (pma_cons (T.c_MAX_NAME.pm rfl) pma_nil)))))) (pms_cons pms_never
    pms_nil) pms_nil)
  pms_nil)
abbrev n_L_cell : List Str := ["_law_script", "_law_k"]
theorem sc_L_cell : FnScope ["_law_script", "_law_k"] (ps .L_cell) (defScope (sf .L_cell)) := ⟨rfl, rfl, rfl, by decide +kernel, rfl, by decide +kernel, by decide +kernel⟩
set_option maxHeartbeats 4000000 in
theorem ok_L_cell (T : Tx K mg ad fa fd) (hsm : ∃ o, base.get? sysModules = some o) (G : AllG P w K mg base ad fa fd k cf) : GnOk P w K mg base (k + 1 + 1) (fa .L_cell) (fd .L_cell) (ps .L_cell) (spF K ad (ar .L_cell) (runF 2 (b_L_cell cf))) :=
  gn_ok (T.fu .L_cell) sc_L_cell hsm rfl fun cdv A outer s H E S =>
  (pms_cons (pms_if (ptM_cmp om_lt (pm_var (pv 1)) (pm_callB cm_len rfl T.z_len PySem.boot_len (pma_cons (pm_var (pv 0)) pma_nil)) (nomark _)) (pms_cons (pms_ret (pm_ix (pm_var (pv 0)) (pm_var (pv 1)) (fun _ _ => rfl)))
    pms_nil) pms_nil)
  (pms_cons (pms_ret pm_int)
  pms_nil))
abbrev n_L_source : List Str := ["_law_cell_here"]
theorem sc_L_source : FnScope ["_law_cell_here"] (ps .L_source) (defScope (sf .L_source)) := ⟨rfl, rfl, rfl, by decide +kernel, rfl, by decide +kernel, by decide +kernel⟩
set_option maxHeartbeats 4000000 in
theorem ok_L_source (T : Tx K mg ad fa fd) (hsm : ∃ o, base.get? sysModules = some o) (G : AllG P w K mg base ad fa fd k cf) : GnOk P w K mg base (k + 1 + 1) (fa .L_source) (fd .L_source) (ps .L_source) (spF K ad (ar .L_source) (runF 1 (b_L_source cf))) :=
  gn_ok (T.fu .L_source) sc_L_source hsm rfl fun cdv A outer s H E S =>
  (pms_cons (pms_ret (pm_lstS (pma_cons (pm_callB (cm_max2 S.calm) rfl T.z_max PyProof.Rows.boot_max (pma_cons pm_int (pma_cons (pm_bin om_sub (pm_var (pv 0)) (pm_bin om_pow pm_int pm_int)) pma_nil))) (pma_cons (pm_bin om_add (pm_bin om_mod (pm_callTy cm_int rfl T.z_int PyProof.Rows.boot_int (pma_cons (pm_var (pv 0)) pma_nil)) pm_int) pm_int) (pma_cons pm_int pma_nil)))))
  pms_nil)
abbrev n_L_random : List Str := ["_law_source_here", "_law_count", "_law_found", "_law_stirred"]
theorem sc_L_random : FnScope ["_law_source_here", "_law_count", "_law_found", "_law_stirred"] (ps .L_random) (defScope (sf .L_random)) := ⟨rfl, rfl, rfl, by decide +kernel, rfl, by decide +kernel, by decide +kernel⟩
set_option maxHeartbeats 4000000 in
theorem ok_L_random (T : Tx K mg ad fa fd) (hsm : ∃ o, base.get? sysModules = some o) (G : AllG P w K mg base ad fa fd k cf) : GnOk P w K mg base (k + 1 + 1) (fa .L_random) (fd .L_random) (ps .L_random) (spF K ad (ar .L_random) (runF 4 (b_L_random cf))) :=
  gn_ok (T.fu .L_random) sc_L_random hsm rfl fun cdv A outer s H E S =>
  (pms_cons (pms_if (ptM_cmp om_gt (pm_ix (pm_var (pv 0)) pm_int (fun _ _ => rfl)) pm_int (nomark _)) (pms_cons (pms_set (i := 2) sc_L_random.nd rfl (by first | exact Or.inl rfl | exact Or.inr rfl) (pm_bin om_mod (pm_callTy cm_int rfl T.z_int PyProof.Rows.boot_int (pma_cons (pm_ix (pm_var (pv 0)) pm_int (fun _ _ => rfl)) pma_nil)) (pm_var (pv 1))))
    (pms_cons (pms_asg (pm_bin om_fdiv (pm_ix (pm_var (pv 0)) pm_int (fun _ _ => rfl)) (pm_var (pv 1))) (pmg_item (W := fun c d _ H => E c d H) (pm_var (pv 0)) pm_int))
    (pms_cons (pms_ret (pm_var (pv 2)))
    pms_nil))) pms_nil)
  (pms_cons (pms_asg (pm_bin om_add (pm_ix (pm_var (pv 0)) pm_int (fun _ _ => rfl)) pm_int) (pmg_item (W := fun c d _ H => E c d H) (pm_var (pv 0)) pm_int))
  (pms_cons (pms_asg (pm_bin om_mod (pm_callTy cm_int rfl T.z_int PyProof.Rows.boot_int (pma_cons (pm_bin om_add (pm_bin om_add (pm_bin om_mul (pm_ix (pm_var (pv 0)) pm_int (fun _ _ => rfl)) pm_int) (pm_bin om_mul pm_int (pm_ix (pm_var (pv 0)) pm_int (fun _ _ => rfl)))) pm_int) pma_nil)) pm_int) (pmg_item (W := fun c d _ H => E c d H) (pm_var (pv 0)) pm_int))
  (pms_cons (pms_set (i := 3) sc_L_random.nd rfl (by first | exact Or.inl rfl | exact Or.inr rfl) (pm_bin om_mod (pm_callTy cm_int rfl T.z_int PyProof.Rows.boot_int (pma_cons (pm_bin om_add (pm_bin om_add (pm_bin om_mul (pm_ix (pm_var (pv 0)) pm_int (fun _ _ => rfl)) (pm_ix (pm_var (pv 0)) pm_int (fun _ _ => rfl))) (pm_bin om_mul pm_int (pm_ix (pm_var (pv 0)) pm_int (fun _ _ => rfl)))) pm_int) pma_nil)) pm_int))
  (pms_cons (pms_set (i := 3) sc_L_random.nd rfl (by first | exact Or.inl rfl | exact Or.inr rfl) (pm_bin om_mod (pm_callTy cm_int rfl T.z_int PyProof.Rows.boot_int (pma_cons (pm_bin om_add (pm_bin om_mul (pm_var (pv 3)) (pm_var (pv 3))) (pm_bin om_mul pm_int (pm_var (pv 3)))) pma_nil)) pm_int))
  (pms_cons (pms_ret (pm_bin om_mod (pm_callTy cm_int rfl T.z_int PyProof.Rows.boot_int (pma_cons (pm_bin om_fdiv (pm_var (pv 3)) pm_int) pma_nil)) (pm_var (pv 1))))
  pms_nil))))))
abbrev n_L_choice : List Str := ["_law_source_here", "_law_these"]
theorem sc_L_choice : FnScope ["_law_source_here", "_law_these"] (ps .L_choice) (defScope (sf .L_choice)) := ⟨rfl, rfl, rfl, by decide +kernel, rfl, by decide +kernel, by decide +kernel⟩
set_option maxHeartbeats 4000000 in
theorem ok_L_choice (T : Tx K mg ad fa fd) (hsm : ∃ o, base.get? sysModules = some o) (G : AllG P w K mg base ad fa fd k cf) : GnOk P w K mg base (k + 1 + 1) (fa .L_choice) (fd .L_choice) (ps .L_choice) (spF K ad (ar .L_choice) (runF 2 (b_L_choice cf))) :=
  gn_ok (T.fu .L_choice) sc_L_choice hsm rfl fun cdv A outer s H E S =>
  (pms_cons (pms_ret (pm_ix (pm_var (pv 1)) (pm_call (G .L_random).up S rfl (T.mgs .L_random rfl) (T.fu .L_random).kp (T.bi .L_random) (pma_cons (pm_var (pv 0)) (pma_cons (pm_callB cm_len rfl T.z_len PySem.boot_len (pma_cons (pm_var (pv 1)) pma_nil)) pma_nil))) (fun _ _ => rfl)))
  pms_nil)
abbrev n_L_same : List Str := ["_law_got", "_law_due"]
theorem sc_L_same : FnScope ["_law_got", "_law_due"] (ps .L_same) (defScope (sf .L_same)) := ⟨rfl, rfl, rfl, by decide +kernel, rfl, by decide +kernel, by decide +kernel⟩
set_option maxHeartbeats 4000000 in
theorem ok_L_same (T : Tx K mg ad fa fd) (hsm : ∃ o, base.get? sysModules = some o) (G : AllG P w K mg base ad fa fd k cf) : GnOk P w K mg base (k + 1 + 1) (fa .L_same) (fd .L_same) (ps .L_same) (spF K ad (ar .L_same) (runF 2 (b_L_same cf))) :=
  gn_ok (T.fu .L_same) sc_L_same hsm rfl fun cdv A outer s H E S =>
  (pms_cons (pms_ret (pm_cmp (om_eq S.u64) (pm_callB (cm_repr S) rfl T.z_repr PyProof.Rows.boot_repr (pma_cons (pm_var (pv 0)) pma_nil)) (pm_callB (cm_repr S) rfl T.z_repr PyProof.Rows.boot_repr (pma_cons (pm_var (pv 1)) pma_nil)) (nomark _)))
  pms_nil)
abbrev n_L_index : List Str := ["_law_source_here", "_law_near"]
theorem sc_L_index : FnScope ["_law_source_here", "_law_near"] (ps .L_index) (defScope (sf .L_index)) := ⟨rfl, rfl, rfl, by decide +kernel, rfl, by decide +kernel, by decide +kernel⟩
set_option maxHeartbeats 4000000 in
theorem ok_L_index (T : Tx K mg ad fa fd) (hsm : ∃ o, base.get? sysModules = some o) (G : AllG P w K mg base ad fa fd k cf) : GnOk P w K mg base (k + 1 + 1) (fa .L_index) (fd .L_index) (ps .L_index) (spF K ad (ar .L_index) (runF 2 (b_L_index cf))) :=
  gn_ok (T.fu .L_index) sc_L_index hsm rfl fun cdv A outer s H E S =>
  (pms_cons (pms_set (i := 1) sc_L_index.nd rfl (by first | exact Or.inl rfl | exact Or.inr rfl) (pm_lst (pma_cons pm_int (pma_cons pm_int (pma_cons pm_int (pma_cons pm_int (pma_cons pm_int (pma_cons pm_int (pma_cons pm_int (pma_cons pm_int (pma_cons (pm_bin om_sub (pm_bin om_pow pm_int pm_int) pm_int) (pma_cons (pm_bin om_pow pm_int pm_int) pma_nil))))))))))))
  (pms_cons (pms_ret (pm_call (G .L_choice).up S rfl (T.mgs .L_choice rfl) (T.fu .L_choice).kp (T.bi .L_choice) (pma_cons (pm_var (pv 0)) (pma_cons (pm_bin om_add (pm_var (pv 1)) (pm_lst (pma_cons (pm_call (G .L_random).up S rfl (T.mgs .L_random rfl) (T.fu .L_random).kp (T.bi .L_random) (pma_cons (pm_var (pv 0)) (pma_cons pm_int pma_nil))) (pma_cons (pm_call (G .L_random).up S rfl (T.mgs .L_random rfl) (T.fu .L_random).kp (T.bi .L_random) (pma_cons (pm_var (pv 0)) (pma_cons (pm_bin om_pow pm_int pm_int) pma_nil))) pma_nil)))) pma_nil))))
  pms_nil))
abbrev n_L_any_path : List Str := ["_law_source_here", "_law_most", "_law_found", "_law_turn"]
theorem sc_L_any_path : FnScope ["_law_source_here", "_law_most", "_law_found", "_law_turn"] (ps .L_any_path) (defScope (sf .L_any_path)) := ⟨rfl, rfl, rfl, by decide +kernel, rfl, by decide +kernel, by decide +kernel⟩
set_option maxHeartbeats 4000000 in
theorem ok_L_any_path (T : Tx K mg ad fa fd) (hsm : ∃ o, base.get? sysModules = some o) (G : AllG P w K mg base ad fa fd k cf) : GnOk P w K mg base (k + 1 + 1) (fa .L_any_path) (fd .L_any_path) (ps .L_any_path) (spF K ad (ar .L_any_path) (runF 4 (b_L_any_path cf))) :=
  gn_ok (T.fu .L_any_path) sc_L_any_path hsm rfl fun cdv A outer s H E S =>
  (pms_cons (pms_set (i := 2) sc_L_any_path.nd rfl (by first | exact Or.inl rfl | exact Or.inr rfl) (pm_lstS pma_nil))
  (pms_cons (pms_for S (pmi_rng1 rfl T.z_range (pma_cons (pm_call (G .L_choice).up S rfl (T.mgs .L_choice rfl) (T.fu .L_choice).kp (T.bi .L_choice) (pma_cons (pm_var (pv 0)) (pma_cons (pm_lst (pma_cons pm_int (pma_cons pm_int (pma_cons pm_int (pma_cons pm_int (pma_cons pm_int (pma_cons (pm_var (pv 1)) pma_nil))))))) pma_nil))) pma_nil)) (pmg_name (pg_name (i := 3) sc_L_any_path.nd rfl (by first | exact Or.inl rfl | exact Or.inr rfl))) (pms_cons (pms_expr (pm_meth mm_append PySem.F.plainAttrs_list PySem.F.slot_list_append PySem.F.type_list_append (pm_var (pv 2)) (pma_cons (pm_ite (ptM_cmp (om_eq S.u64) (pm_call (G .L_random).up S rfl (T.mgs .L_random rfl) (T.fu .L_random).kp (T.bi .L_random) (pma_cons (pm_var (pv 0)) (pma_cons pm_int pma_nil))) pm_int (nomark _)) (pm_bin om_sub (pm_neg pm_int) (pm_call (G .L_random).up S rfl (T.mgs .L_random rfl) (T.fu .L_random).kp (T.bi .L_random) (pma_cons (pm_var (pv 0)) (pma_cons pm_int pma_nil)))) (pm_call (G .L_index).up S rfl (T.mgs .L_index rfl) (T.fu .L_index).kp (T.bi .L_index) (pma_cons (pm_var (pv 0)) pma_nil))) pma_nil)))
    pms_nil))
  (pms_cons (pms_ret (pm_callTy cm_tuple rfl T.z_tuple PyProof.Rows.boot_tuple (pma_cons (pm_var (pv 2)) pma_nil)))
  pms_nil)))
abbrev n_L_grown : List Str := ["_law_one", "_law_number"]
theorem sc_L_grown : FnScope ["_law_one", "_law_number"] (ps .L_grown) (defScope (sf .L_grown)) := ⟨rfl, rfl, rfl, by decide +kernel, rfl, by decide +kernel, by decide +kernel⟩
set_option maxHeartbeats 4000000 in
theorem ok_L_grown (T : Tx K mg ad fa fd) (hsm : ∃ o, base.get? sysModules = some o) (G : AllG P w K mg base ad fa fd k cf) : GnOk P w K mg base (k + 1 + 1) (fa .L_grown) (fd .L_grown) (ps .L_grown) (spF K ad (ar .L_grown) (runF 2 (b_L_grown cf))) :=
  gn_ok (T.fu .L_grown) sc_L_grown hsm rfl fun cdv A outer s H E S =>
  (pms_cons (pms_augO (i := 0) sc_L_grown.nd rfl (by first | exact Or.inl rfl | exact Or.inr rfl) (pm_var (pv 1)) T.sf_Stream T.mt_Stream___iadd__.1 T.mt_Stream___iadd__.2 (G .Stream___iadd__).up S (T.bi .Stream___iadd__) (fun _ _ _ _ _ h => h))
  (pms_cons (pms_ret (pm_var (pv 0)))
  pms_nil))
abbrev n_L_is_seen : List Str := ["_law_one", "_law_path", "_law_index_here", "_law_text"]
theorem sc_L_is_seen : FnScope ["_law_one", "_law_path", "_law_index_here", "_law_text"] (ps .L_is_seen) (defScope (sf .L_is_seen)) := ⟨rfl, rfl, rfl, by decide +kernel, rfl, by decide +kernel, by decide +kernel⟩
set_option maxHeartbeats 4000000 in
theorem ok_L_is_seen (T : Tx K mg ad fa fd) (hsm : ∃ o, base.get? sysModules = some o) (G : AllG P w K mg base ad fa fd k cf) : GnOk P w K mg base (k + 1 + 1) (fa .L_is_seen) (fd .L_is_seen) (ps .L_is_seen) (spF K ad (ar .L_is_seen) (runF 4 (b_L_is_seen cf))) :=
  gn_ok (T.fu .L_is_seen) sc_L_is_seen hsm rfl fun cdv A outer s H E S =>
  (pms_cons (pms_set (i := 3) sc_L_is_seen.nd rfl (by first | exact Or.inl rfl | exact Or.inr rfl) (pm_bin om_add (pm_bin om_add (pm_bin om_add (pm_bin om_add pm_str (pm_callB (cm_repr S) rfl T.z_repr PyProof.Rows.boot_repr (pma_cons (pm_var (pv 1)) pma_nil))) pm_str) (pm_callTy cm_str rfl T.z_str PyProof.Rows.boot_str (pma_cons (pm_var (pv 2)) pma_nil))) pm_str))
  (pms_cons (pms_ret (pm_call (G .L_same).up S rfl (T.mgs .L_same rfl) (T.fu .L_same).kp (T.bi .L_same) (pma_cons (pm_lst (pma_cons (pm_fld T.cl_Position T.na_Position_path (pm_var (pv 0))) (pma_cons (pm_fld T.cl_Position T.na_Position_index (pm_var (pv 0))) (pma_cons (pm_callBA (cm_reprO T.mt_Position___repr__.1 T.mt_Position___repr__.2 (G .Position___repr__) S (T.bi .Position___repr__)) rfl T.z_repr PyProof.Rows.boot_repr (pma_cons (pm_var (pv 0)) pma_nil)) pma_nil)))) (pma_cons (pm_lst (pma_cons (pm_var (pv 1)) (pma_cons (pm_var (pv 2)) (pma_cons (pm_var (pv 3)) pma_nil)))) pma_nil))))
  pms_nil))
abbrev n_L_is_taken : List Str := ["_law_source_here", "_law_held", "_law_known", "_law_at", "_law_one", "_law_path", "_law_upcoming", "_law_name", "_law_inner", "_law_other"]
theorem sc_L_is_taken : FnScope ["_law_source_here", "_law_held", "_law_known", "_law_at", "_law_one", "_law_path", "_law_upcoming", "_law_name", "_law_inner", "_law_other"] (ps .L_is_taken) (defScope (sf .L_is_taken)) := ⟨rfl, rfl, rfl, by decide +kernel, rfl, by decide +kernel, by decide +kernel⟩
set_option maxHeartbeats 4000000 in
theorem ok_L_is_taken (T : Tx K mg ad fa fd) (hsm : ∃ o, base.get? sysModules = some o) (G : AllG P w K mg base ad fa fd k cf) : GnOk P w K mg base (k + 1 + 1) (fa .L_is_taken) (fd .L_is_taken) (ps .L_is_taken) (spF K ad (ar .L_is_taken) (runF 10 (b_L_is_taken cf))) :=
  gn_ok (T.fu .L_is_taken) sc_L_is_taken hsm rfl fun cdv A outer s H E S =>
  (pms_cons (pms_asg (pm_ix (pm_var (pv 1)) (pm_var (pv 3)) (fun _ _ => rfl)) (pmg_tup S.calm (pmgs_cons (pmg_name (pg_name (i := 4) sc_L_is_taken.nd rfl (by first | exact Or.inl rfl | exact Or.inr rfl))) (pmgs_cons (pmg_name (pg_name (i := 5) sc_L_is_taken.nd rfl (by first | exact Or.inl rfl | exact Or.inr rfl))) (pmgs_cons (pmg_name (pg_name (i := 6) sc_L_is_taken.nd rfl (by first | exact Or.inl rfl | exact Or.inr rfl))) pmgs_nil)))))
  (pms_cons (pms_if (pmt_bool (pmw_or (ptM_cmp om_gt (pm_call (G .L_random).up S rfl (T.mgs .L_random rfl) (T.fu .L_random).kp (T.bi .L_random) (pma_cons (pm_var (pv 0)) (pma_cons pm_int pma_nil))) pm_int (nomark _)) (pmw_or (ptM_cmp om_gt (pm_callB cm_len rfl T.z_len PySem.boot_len (pma_cons (pm_var (pv 5)) pma_nil)) pm_int (nomark _)) (pmw_or1 (ptM_cmp om_gt (pm_var (pv 6)) (pm_bin om_pow pm_int pm_int) (nomark _)))))) (pms_cons (pms_if (ptM_cmp om_gt (pm_var (pv 6)) (pm_bin om_pow pm_int pm_int) (nomark _)) (pms_cons (pms_ret pm_bl)
      pms_nil) pms_nil)
    (pms_cons (pms_asg (pm_lst (pma_cons (pm_var (pv 4)) (pma_cons (pm_var (pv 5)) (pma_cons (pm_bin om_add (pm_var (pv 6)) pm_int) pma_nil)))) (pmg_item (W := fun c d _ H => E c d H) (pm_var (pv 1)) (pm_var (pv 3))))
    (pms_cons (pms_ret (pm_call (G .L_is_seen).up S rfl (T.mgs .L_is_seen rfl) (T.fu .L_is_seen).kp (T.bi .L_is_seen) (pma_cons (pm_callO0 (pm_var (pv 4)) T.co_Stream (G .Stream___call__).up S (T.bi .Stream___call__)) (pma_cons (pm_var (pv 5)) (pma_cons (pm_var (pv 6)) pma_nil)))))
    pms_nil))) pms_nil)
  (pms_cons (pms_set (i := 7) sc_L_is_taken.nd rfl (by first | exact Or.inl rfl | exact Or.inr rfl) (pm_call (G .L_random).up S rfl (T.mgs .L_random rfl) (T.fu .L_random).kp (T.bi .L_random) (pma_cons (pm_var (pv 0)) (pma_cons pm_int pma_nil))))
  (pms_cons (pms_if (pmt_bool (pmw_and (ptM_cmp (om_eq S.u64) (pm_var (pv 7)) pm_int (nomark _)) (pmw_and1 (ptM_cmp om_lt (pm_callB cm_len rfl T.z_len PySem.boot_len (pma_cons (pm_var (pv 1)) pma_nil)) pm_int (nomark _))))) (pms_cons (pms_asg (pm_lst (pma_cons (pm_var (pv 4)) (pma_cons (pm_var (pv 5)) (pma_cons (pm_bin om_add (pm_var (pv 6)) pm_int) pma_nil)))) (pmg_item (W := fun c d _ H => E c d H) (pm_var (pv 1)) (pm_var (pv 3))))
    (pms_cons (pms_expr (pm_meth mm_append PySem.F.plainAttrs_list PySem.F.slot_list_append PySem.F.type_list_append (pm_var (pv 1)) (pma_cons (pm_lst (pma_cons (pm_methO0 (pm_var (pv 4)) T.cl_Stream T.mt_Stream_split (G .Stream_split).up S (T.bi .Stream_split)) (pma_cons (pm_bin om_add (pm_var (pv 5)) (pm_tup (pma_cons (pm_var (pv 6)) pma_nil))) (pma_cons pm_int pma_nil)))) pma_nil)))
    (pms_cons (pms_ret pm_bl)
    pms_nil))) pms_nil)
  (pms_cons (pms_if (ptM_dinT (hu_of S.rm) (pma_cons (pm_var (pv 3)) (pma_cons (pm_var (pv 7)) pma_nil)) (pm_var (pv 2)) (by with_unfolding_all rfl)) (pms_cons (pms_ret (pm_cmpA (om_eqI T.ci_Stream S.u64) (pm_methO (pm_var (pv 4)) T.cl_Stream T.mt_Stream_named (G .Stream_named).up S (T.bi .Stream_named) (pma_cons (pm_var (pv 7)) pma_nil)) (pm_ix (pm_ix (pm_var (pv 1)) (pm_dgetT (hu_of S.rm) (pm_var (pv 2)) (pma_cons (pm_var (pv 3)) (pma_cons (pm_var (pv 7)) pma_nil)) (fun _ _ => rfl)) (fun _ _ => rfl)) pm_int (fun _ _ => rfl)) (nomark _)))
    pms_nil) pms_nil)
  (pms_cons (pms_if (ptM_cmp om_lt (pm_callB cm_len rfl T.z_len PySem.boot_len (pma_cons (pm_var (pv 1)) pma_nil)) pm_int (nomark _)) (pms_cons (pms_dputT (hu_of S.rm) (pm_var (pv 2)) (pma_cons (pm_var (pv 3)) (pma_cons (pm_var (pv 7)) pma_nil)) (pm_callB cm_len rfl T.z_len PySem.boot_len (pma_cons (pm_var (pv 1)) pma_nil)))
    (pms_cons (pms_set (i := 8) sc_L_is_taken.nd rfl (by first | exact Or.inl rfl | exact Or.inr rfl) (pm_methO (pm_var (pv 4)) T.cl_Stream T.mt_Stream_named (G .Stream_named).up S (T.bi .Stream_named) (pma_cons (pm_var (pv 7)) pma_nil)))
    (pms_cons (pms_expr (pm_meth mm_append PySem.F.plainAttrs_list PySem.F.slot_list_append PySem.F.type_list_append (pm_var (pv 1)) (pma_cons (pm_lst (pma_cons (pm_var (pv 8)) (pma_cons (pm_bin om_add (pm_var (pv 5)) (pm_tup (pma_cons (pm_bin om_sub (pm_neg pm_int) (pm_var (pv 7))) pma_nil))) (pma_cons pm_int pma_nil)))) pma_nil)))
    (pms_cons (pms_ret (pm_cmp (om_eq S.u64) (pm_lc (own := [("_law_other", 9)]) S sc_L_is_taken.nd (tg_name (by decide)) (pmi_seq (pm_sl (pm_var (pv 1)) pmo_none (pmo_some (pm_neg pm_int)))) (blkOk_by (N := n_L_is_taken) (sc := defScope (sf .L_is_taken)) (by decide +kernel)) (fun s2 H2 C cl fp => (pg_name (i := 9) sc_L_is_taken.nd rfl (Or.inl rfl))) (fun s2 H2 C cl fp => (pmts_one (ptM_cmpA (om_eqI T.ci_Stream (S.blk s2 H2 _ (compEnvC _ cl C _) fp).u64) (pm_ix (pm_var (pv 9)) pm_int (fun _ _ => rfl)) (pm_var (pv 8)) (nomark _)))) (fun s2 H2 C cl fp => pm_int)) (pm_lst pma_nil) (nomark _)))
    pms_nil)))) pms_nil)
  (pms_cons (pms_ret pm_bl)
  pms_nil)))))))
abbrev n_L_is_moved : List Str := ["_law_source_here", "_law_held", "_law_at", "_law_one", "_law_path", "_law_upcoming", "_law_index_here", "_law_number"]
theorem sc_L_is_moved : FnScope ["_law_source_here", "_law_held", "_law_at", "_law_one", "_law_path", "_law_upcoming", "_law_index_here", "_law_number"] (ps .L_is_moved) (defScope (sf .L_is_moved)) := ⟨rfl, rfl, rfl, by decide +kernel, rfl, by decide +kernel, by decide +kernel⟩
set_option maxHeartbeats 4000000 in
theorem ok_L_is_moved (T : Tx K mg ad fa fd) (hsm : ∃ o, base.get? sysModules = some o) (G : AllG P w K mg base ad fa fd k cf) : GnOk P w K mg base (k + 1 + 1) (fa .L_is_moved) (fd .L_is_moved) (ps .L_is_moved) (spF K ad (ar .L_is_moved) (runF 8 (b_L_is_moved cf))) :=
  gn_ok (T.fu .L_is_moved) sc_L_is_moved hsm rfl fun cdv A outer s H E S =>
  (pms_cons (pms_asg (pm_ix (pm_var (pv 1)) (pm_var (pv 2)) (fun _ _ => rfl)) (pmg_tup S.calm (pmgs_cons (pmg_name (pg_name (i := 3) sc_L_is_moved.nd rfl (by first | exact Or.inl rfl | exact Or.inr rfl))) (pmgs_cons (pmg_name (pg_name (i := 4) sc_L_is_moved.nd rfl (by first | exact Or.inl rfl | exact Or.inr rfl))) (pmgs_cons (pmg_name (pg_name (i := 5) sc_L_is_moved.nd rfl (by first | exact Or.inl rfl | exact Or.inr rfl))) pmgs_nil)))))
  (pms_cons (pms_if (ptM_cmp (om_eq S.u64) (pm_call (G .L_random).up S rfl (T.mgs .L_random rfl) (T.fu .L_random).kp (T.bi .L_random) (pma_cons (pm_var (pv 0)) (pma_cons pm_int pma_nil))) pm_int (nomark _)) (pms_cons (pms_set (i := 6) sc_L_is_moved.nd rfl (by first | exact Or.inl rfl | exact Or.inr rfl) (pm_call (G .L_index).up S rfl (T.mgs .L_index rfl) (T.fu .L_index).kp (T.bi .L_index) (pma_cons (pm_var (pv 0)) pma_nil)))
    (pms_cons (pms_asg (pm_lst (pma_cons (pm_var (pv 3)) (pma_cons (pm_var (pv 4)) (pma_cons (pm_var (pv 6)) pma_nil)))) (pmg_item (W := fun c d _ H => E c d H) (pm_var (pv 1)) (pm_var (pv 2))))
    (pms_cons (pms_ret (pm_cmp om_is (pm_methO (pm_var (pv 3)) T.cl_Stream T.mt_Stream_seek (G .Stream_seek).up S (T.bi .Stream_seek) (pma_cons (pm_var (pv 6)) pma_nil)) pm_non (nomark _)))
    pms_nil))) pms_nil)
  (pms_cons (pms_set (i := 7) sc_L_is_moved.nd rfl (by first | exact Or.inl rfl | exact Or.inr rfl) (pm_bin om_sub (pm_call (G .L_random).up S rfl (T.mgs .L_random rfl) (T.fu .L_random).kp (T.bi .L_random) (pma_cons (pm_var (pv 0)) (pma_cons pm_int pma_nil))) (pm_callB (cm_min2 S.calm) rfl T.z_min PyProof.Rows.boot_min (pma_cons pm_int (pma_cons (pm_var (pv 5)) pma_nil)))))
  (pms_cons (pms_if (ptM_chain om_le om_le pm_int (pm_bin om_add (pm_var (pv 5)) (pm_var (pv 7))) (pm_bin om_pow pm_int pm_int)) (pms_cons (pms_asg (pm_lst (pma_cons (pm_var (pv 3)) (pma_cons (pm_var (pv 4)) (pma_cons (pm_bin om_add (pm_var (pv 5)) (pm_var (pv 7))) pma_nil)))) (pmg_item (W := fun c d _ H => E c d H) (pm_var (pv 1)) (pm_var (pv 2))))
    (pms_cons (pms_ret (pm_cmpA (om_eqI T.ci_Stream S.u64) (pm_call (G .L_grown).up S rfl (T.mgs .L_grown rfl) (T.fu .L_grown).kp (T.bi .L_grown) (pma_cons (pm_var (pv 3)) (pma_cons (pm_var (pv 7)) pma_nil))) (pm_var (pv 3)) (nomark _)))
    pms_nil)) pms_nil)
  (pms_cons (pms_ret pm_bl)
  pms_nil)))))
abbrev n_L_known_right : List Str := ["_law_root", "_law_inner", "_law_first", "_law_second"]
theorem sc_L_known_right : FnScope ["_law_root", "_law_inner", "_law_first", "_law_second"] (ps .L_known_right) (defScope (sf .L_known_right)) := ⟨rfl, rfl, rfl, by decide +kernel, rfl, by decide +kernel, by decide +kernel⟩
set_option maxHeartbeats 4000000 in
theorem ok_L_known_right (T : Tx K mg ad fa fd) (hsm : ∃ o, base.get? sysModules = some o) (G : AllG P w K mg base ad fa fd k cf) : GnOk P w K mg base (k + 1 + 1) (fa .L_known_right) (fd .L_known_right) (ps .L_known_right) (spF K ad (ar .L_known_right) (runF 4 (b_L_known_right cf))) :=
  gn_ok (T.fu .L_known_right) sc_L_known_right hsm rfl fun cdv A outer s H E S =>
  (pms_cons (pms_set (i := 0) sc_L_known_right.nd rfl (by first | exact Or.inl rfl | exact Or.inr rfl) (pm_makeD T.mk_Stream (G .Stream___init__) S rfl T.mgC_Stream T.df_Stream___init__))
  (pms_cons (pms_set (i := 1) sc_L_known_right.nd rfl (by first | exact Or.inl rfl | exact Or.inr rfl) (pm_methO (pm_var (pv 0)) T.cl_Stream T.mt_Stream_named (G .Stream_named).up S (T.bi .Stream_named) (pma_cons pm_int pma_nil)))
  (pms_cons (pms_if (pmt_not (ptM_val (pm_call (G .L_same).up S rfl (T.mgs .L_same rfl) (T.fu .L_same).kp (T.bi .L_same) (pma_cons (pm_lst (pma_cons (pm_cmpA (om_eqI T.ci_Stream S.u64) (pm_var (pv 1)) (pm_methO (pm_var (pv 0)) T.cl_Stream T.mt_Stream_named (G .Stream_named).up S (T.bi .Stream_named) (pma_cons pm_int pma_nil)) (nomark _)) (pma_cons (pm_cmpA (om_eqI T.ci_Stream S.u64) (pm_var (pv 1)) (pm_methO (pm_var (pv 0)) T.cl_Stream T.mt_Stream_named (G .Stream_named).up S (T.bi .Stream_named) (pma_cons pm_int pma_nil)) (nomark _)) (pma_cons (pm_cmpA (om_eqI T.ci_Stream S.u64) (pm_makeD T.mk_Stream (G .Stream___init__) S rfl T.mgC_Stream T.df_Stream___init__) (pm_var (pv 0)) (nomark _)) pma_nil)))) (pma_cons (pm_lst (pma_cons pm_bl (pma_cons pm_bl (pma_cons pm_bl pma_nil)))) pma_nil))))) (pms_cons (pms_ret pm_bl)
    pms_nil) pms_nil)
  (pms_cons (pms_par (pma_cons (pm_callO0 (pm_var (pv 1)) T.co_Stream (G .Stream___call__).up S (T.bi .Stream___call__)) (pma_cons (pm_callO0 (pm_var (pv 1)) T.co_Stream (G .Stream___call__).up S (T.bi .Stream___call__)) pma_nil)) (fun h => ps_par (i := 2) (j := 3) S.calm sc_L_known_right.nd rfl rfl (by decide) rfl rfl h (by first | rfl | with_unfolding_all rfl)))
  (pms_cons (pms_if (pmt_not (ptM_val (pm_call (G .L_same).up S rfl (T.mgs .L_same rfl) (T.fu .L_same).kp (T.bi .L_same) (pma_cons (pm_lst (pma_cons (pm_prop (pm_var (pv 0)) T.cl_Stream T.pr_Stream_next_index.choose_spec (G .Stream_next_index) S (T.bi .Stream_next_index)) (pma_cons (pm_prop (pm_var (pv 1)) T.cl_Stream T.pr_Stream_next_index.choose_spec (G .Stream_next_index) S (T.bi .Stream_next_index)) (pma_cons (pm_binO (pm_var (pv 3)) (pm_var (pv 2)) T.bo_Position__sub__ (G .Position___sub__).up S (T.bi .Position___sub__)) pma_nil)))) (pma_cons (pm_lst (pma_cons pm_int (pma_cons pm_int (pma_cons pm_int pma_nil)))) pma_nil))))) (pms_cons (pms_ret pm_bl)
    pms_nil) pms_nil)
  (pms_cons (pms_ret (pm_and (pm_call (G .L_is_seen).up S rfl (T.mgs .L_is_seen rfl) (T.fu .L_is_seen).kp (T.bi .L_is_seen) (pma_cons (pm_callO0 (pm_methO0 (pm_methO0 (pm_var (pv 0)) T.cl_Stream T.mt_Stream_split (G .Stream_split).up S (T.bi .Stream_split)) T.cl_Stream T.mt_Stream_split (G .Stream_split).up S (T.bi .Stream_split)) T.co_Stream (G .Stream___call__).up S (T.bi .Stream___call__)) (pma_cons (pm_tup (pma_cons pm_int (pma_cons pm_int pma_nil))) (pma_cons pm_int pma_nil)))) (pm_one (pm_cmp (om_eq S.u64) (pm_prop (pm_var (pv 0)) T.cl_Stream T.pr_Stream_next_index.choose_spec (G .Stream_next_index) S (T.bi .Stream_next_index)) pm_int (nomark _)))))
  pms_nil))))))
abbrev n_law : List Str := ["_law_script", "_law_k", "_law_source_here", "_law_path", "_law_known", "_law_held", "_law_turn", "_law_at", "_law_is_taken_here", "_law_one", "_law_its", "_law_upcoming"]
theorem sc_law : FnScope ["_law_script", "_law_k", "_law_source_here", "_law_path", "_law_known", "_law_held", "_law_turn", "_law_at", "_law_is_taken_here", "_law_one", "_law_its", "_law_upcoming"] (ps .law) (defScope (sf .law)) := ⟨rfl, rfl, rfl, by decide +kernel, rfl, by decide +kernel, by decide +kernel⟩
set_option maxHeartbeats 4000000 in
theorem ok_law (T : Tx K mg ad fa fd) (hsm : ∃ o, base.get? sysModules = some o) (G : AllG P w K mg base ad fa fd k cf) : GnOk P w K mg base (k + 1 + 1) (fa .law) (fd .law) (ps .law) (spF K ad (ar .law) (runF 12 (b_law cf))) :=
  gn_ok (T.fu .law) sc_law hsm rfl fun cdv A outer s H E S =>
  (pms_cons (pms_if (pmt_not (ptM_val (pm_call0 (G .L_known_right).up S rfl (T.mgs .L_known_right rfl) (T.fu .L_known_right).kp (T.bi .L_known_right)))) (pms_cons (pms_ret pm_bl)
    pms_nil) pms_nil)
  (pms_cons (pms_for S (pmi_rng1 rfl T.z_range (pma_cons (pm_callB (cm_max2 S.calm) rfl T.z_max PyProof.Rows.boot_max (pma_cons pm_int (pma_cons (pm_callB (cm_min2 S.calm) rfl T.z_min PyProof.Rows.boot_min (pma_cons (pm_callB cm_len rfl T.z_len PySem.boot_len (pma_cons (pm_var (pv 0)) pma_nil)) (pma_cons pm_int pma_nil))) pma_nil))) pma_nil)) (pmg_name (pg_name (i := 1) sc_law.nd rfl (by first | exact Or.inl rfl | exact Or.inr rfl))) (pms_cons (pms_set (i := 2) sc_law.nd rfl (by first | exact Or.inl rfl | exact Or.inr rfl) (pm_call (G .L_source).up S rfl (T.mgs .L_source rfl) (T.fu .L_source).kp (T.bi .L_source) (pma_cons (pm_call (G .L_cell).up S rfl (T.mgs .L_cell rfl) (T.fu .L_cell).kp (T.bi .L_cell) (pma_cons (pm_var (pv 0)) (pma_cons (pm_var (pv 1)) pma_nil))) pma_nil)))
    (pms_cons (pms_par (pma_cons (pm_call (G .L_any_path).up S rfl (T.mgs .L_any_path rfl) (T.fu .L_any_path).kp (T.bi .L_any_path) (pma_cons (pm_var (pv 2)) (pma_cons pm_int pma_nil))) (pma_cons pm_dictT pma_nil)) (fun h => ps_par (i := 3) (j := 4) S.calm sc_law.nd rfl rfl (by decide) rfl rfl h (by first | rfl | with_unfolding_all rfl)))
    (pms_cons (pms_set (i := 5) sc_law.nd rfl (by first | exact Or.inl rfl | exact Or.inr rfl) (pm_lstS (pma_cons (pm_lst (pma_cons (pm_makeD T.mk_Stream (G .Stream___init__) S rfl T.mgC_Stream T.df_Stream___init__) (pma_cons (pm_tup pma_nil) (pma_cons pm_int pma_nil)))) (pma_cons (pm_lst (pma_cons (pm_make T.mk_Stream (G .Stream___init__) S rfl T.mgC_Stream (T.bi .Stream___init__) (pma_cons (pm_var (pv 3)) pma_nil)) (pma_cons (pm_var (pv 3)) (pma_cons pm_int pma_nil)))) pma_nil))))
    (pms_cons (pms_for S (pmi_rng1 rfl T.z_range (pma_cons pm_int pma_nil)) (pmg_name (pg_name (i := 6) sc_law.nd rfl (by first | exact Or.inl rfl | exact Or.inr rfl))) (pms_cons (pms_set (i := 7) sc_law.nd rfl (by first | exact Or.inl rfl | exact Or.inr rfl) (pm_call (G .L_random).up S rfl (T.mgs .L_random rfl) (T.fu .L_random).kp (T.bi .L_random) (pma_cons (pm_var (pv 2)) (pma_cons (pm_callB cm_len rfl T.z_len PySem.boot_len (pma_cons (pm_var (pv 5)) pma_nil)) pma_nil))))
      (pms_cons (pms_set (i := 8) sc_law.nd rfl (by first | exact Or.inl rfl | exact Or.inr rfl) (pm_cmp om_gt (pm_call (G .L_random).up S rfl (T.mgs .L_random rfl) (T.fu .L_random).kp (T.bi .L_random) (pma_cons (pm_var (pv 2)) (pma_cons pm_int pma_nil))) pm_int (nomark _)))
      (pms_cons (pms_if (pmt_not (ptM_ite (ptM_val (pm_var (pv 8))) (ptM_val (pm_call (G .L_is_taken).up S rfl (T.mgs .L_is_taken rfl) (T.fu .L_is_taken).kp (T.bi .L_is_taken) (pma_cons (pm_var (pv 2)) (pma_cons (pm_var (pv 5)) (pma_cons (pm_var (pv 4)) (pma_cons (pm_var (pv 7)) pma_nil)))))) (ptM_val (pm_call (G .L_is_moved).up S rfl (T.mgs .L_is_moved rfl) (T.fu .L_is_moved).kp (T.bi .L_is_moved) (pma_cons (pm_var (pv 2)) (pma_cons (pm_var (pv 5)) (pma_cons (pm_var (pv 7)) pma_nil))))))) (pms_cons (pms_ret pm_bl)
        pms_nil) pms_nil)
      (pms_cons (pms_for S (pmi_seq (pm_var (pv 5))) (pmg_tup S.calm (pmgs_cons (pmg_name (pg_name (i := 9) sc_law.nd rfl (by first | exact Or.inl rfl | exact Or.inr rfl))) (pmgs_cons (pmg_name (pg_name (i := 10) sc_law.nd rfl (by first | exact Or.inl rfl | exact Or.inr rfl))) (pmgs_cons (pmg_name (pg_name (i := 11) sc_law.nd rfl (by first | exact Or.inl rfl | exact Or.inr rfl))) pmgs_nil)))) (pms_cons (pms_if (pmt_not (ptM_val (pm_call (G .L_same).up S rfl (T.mgs .L_same rfl) (T.fu .L_same).kp (T.bi .L_same) (pma_cons (pm_lst (pma_cons (pm_fld T.cl_Stream T.na_Stream_path (pm_var (pv 9))) (pma_cons (pm_prop (pm_var (pv 9)) T.cl_Stream T.pr_Stream_next_index.choose_spec (G .Stream_next_index) S (T.bi .Stream_next_index)) pma_nil))) (pma_cons (pm_lst (pma_cons (pm_var (pv 10)) (pma_cons (pm_var (pv 11)) pma_nil))) pma_nil))))) (pms_cons (pms_ret pm_bl)
          pms_nil) pms_nil)
        pms_nil))
      pms_nil)))))
    pms_nil)))))
  (pms_cons (pms_ret pm_bl)
  pms_nil)))
abbrev n_Position___init__ : List Str := ["self", "path", "index"]
theorem sc_Position___init__ : FnScope ["self", "path", "index"] (ps .Position___init__) (defScope (sf .Position___init__)) := ⟨rfl, rfl, rfl, by decide +kernel, rfl, by decide +kernel, by decide +kernel⟩
set_option maxHeartbeats 4000000 in
theorem ok_Position___init__ (T : Tx K mg ad fa fd) (hsm : ∃ o, base.get? sysModules = some o) (G : AllG P w K mg base ad fa fd k cf) : GnOk P w K mg base (k + 1 + 1) (fa .Position___init__) (fd .Position___init__) (ps .Position___init__) (spF K ad (ar .Position___init__) (runF 3 (b_Position___init__ cf))) :=
  gn_ok (T.fu .Position___init__) sc_Position___init__ hsm rfl fun cdv A outer s H E S =>
  (pms_cons (pms_if (pmt_not (ptM_val (pm_call (G .is_position).up S rfl (T.mgs .is_position rfl) (T.fu .is_position).kp (T.bi .is_position) (pma_cons (pm_tup (pma_cons (pm_var (pv 1)) (pma_cons (pm_var (pv 2)) pma_nil))) pma_nil)))) (pms_cons pms_never
    pms_nil) pms_nil)
  (pms_cons (pms_fld T.cl_Position T.na_Position_path (pm_var (pv 0)) (pm_var (pv 1)))
  (pms_cons (pms_fld T.cl_Position T.na_Position_index (pm_var (pv 0)) (pm_var (pv 2)))
  pms_nil)))
abbrev n_Position___sub__ : List Str := ["self", "other"]
theorem sc_Position___sub__ : FnScope ["self", "other"] (ps .Position___sub__) (defScope (sf .Position___sub__)) := ⟨rfl, rfl, rfl, by decide +kernel, rfl, by decide +kernel, by decide +kernel⟩
set_option maxHeartbeats 4000000 in
theorem ok_Position___sub__ (T : Tx K mg ad fa fd) (hsm : ∃ o, base.get? sysModules = some o) (G : AllG P w K mg base ad fa fd k cf) : GnOk P w K mg base (k + 1 + 1) (fa .Position___sub__) (fd .Position___sub__) (ps .Position___sub__) (spF K ad (ar .Position___sub__) (runF 2 (b_Position___sub__ cf))) :=
  gn_ok (T.fu .Position___sub__) sc_Position___sub__ hsm rfl fun cdv A outer s H E S =>
  (pms_cons (pms_if (ptM_val (pm_callBA (cm_isiC T.ic_Position) rfl T.z_isinstance PyProof.Rows.boot_isinstance (pma_cons (pm_var (pv 1)) (pma_cons (pm_adr rfl T.mgC_Position) pma_nil)))) (pms_cons (pms_if (ptM_cmp (om_ne S.u64) (pm_fld T.cl_Position T.na_Position_path (pm_var (pv 0))) (pm_fld T.cl_Position T.na_Position_path (pm_var (pv 1))) (nomark _)) (pms_cons pms_never
      pms_nil) pms_nil)
    (pms_cons (pms_ret (pm_bin om_sub (pm_fld T.cl_Position T.na_Position_index (pm_var (pv 0))) (pm_fld T.cl_Position T.na_Position_index (pm_var (pv 1)))))
    pms_nil)) pms_nil)
  (pms_cons (pms_expr (pm_call (G .check_integer).up S rfl (T.mgs .check_integer rfl) (T.fu .check_integer).kp (T.bi .check_integer) (pma_cons (pm_var (pv 1)) pma_nil)))
  (pms_cons (pms_ret (pm_make T.mk_Position (G .Position___init__) S rfl T.mgC_Position (T.bi .Position___init__) (pma_cons (pm_fld T.cl_Position T.na_Position_path (pm_var (pv 0))) (pma_cons (pm_bin om_sub (pm_fld T.cl_Position T.na_Position_index (pm_var (pv 0))) (pm_var (pv 1))) pma_nil))))
  pms_nil)))
abbrev n_Position___repr__ : List Str := ["self"]
theorem sc_Position___repr__ : FnScope ["self"] (ps .Position___repr__) (defScope (sf .Position___repr__)) := ⟨rfl, rfl, rfl, by decide +kernel, rfl, by decide +kernel, by decide +kernel⟩
set_option maxHeartbeats 4000000 in
theorem ok_Position___repr__ (T : Tx K mg ad fa fd) (hsm : ∃ o, base.get? sysModules = some o) (G : AllG P w K mg base ad fa fd k cf) : GnOk P w K mg base (k + 1 + 1) (fa .Position___repr__) (fd .Position___repr__) (ps .Position___repr__) (spF K ad (ar .Position___repr__) (runF 1 (b_Position___repr__ cf))) :=
  gn_ok (T.fu .Position___repr__) sc_Position___repr__ hsm rfl fun cdv A outer s H E S =>
  (pms_cons (pms_ret (pm_joined (PJM.cons pm_str (PJM.cons (pm_fmt S (pm_fld T.cl_Position T.na_Position_path (pm_var (pv 0)))) (PJM.cons pm_str (PJM.cons (pm_fmt S (pm_fld T.cl_Position T.na_Position_index (pm_var (pv 0)))) (PJM.cons pm_str PJM.nil)))))))
  pms_nil)
abbrev n_Stream___init__ : List Str := ["self", "path"]
theorem sc_Stream___init__ : FnScope ["self", "path"] (ps .Stream___init__) (defScope (sf .Stream___init__)) := ⟨rfl, rfl, rfl, by decide +kernel, rfl, by decide +kernel, by decide +kernel⟩
set_option maxHeartbeats 4000000 in
theorem ok_Stream___init__ (T : Tx K mg ad fa fd) (hsm : ∃ o, base.get? sysModules = some o) (G : AllG P w K mg base ad fa fd k cf) : GnOk P w K mg base (k + 1 + 1) (fa .Stream___init__) (fd .Stream___init__) (ps .Stream___init__) (spF K ad (ar .Stream___init__) (runF 2 (b_Stream___init__ cf))) :=
  gn_ok (T.fu .Stream___init__) sc_Stream___init__ hsm rfl fun cdv A outer s H E S =>
  (pms_cons (pms_if (pmt_not (ptM_val (pm_call (G .is_path).up S rfl (T.mgs .is_path rfl) (T.fu .is_path).kp (T.bi .is_path) (pma_cons (pm_var (pv 1)) pma_nil)))) (pms_cons pms_never
    pms_nil) pms_nil)
  (pms_cons (pms_fld T.cl_Stream T.na_Stream_path (pm_var (pv 0)) (pm_var (pv 1)))
  (pms_cons (pms_fld T.cl_Stream T.na_Stream_upcoming (pm_var (pv 0)) pm_int)
  (pms_cons (pms_fld T.cl_Stream T.na_Stream_known (pm_var (pv 0)) pm_dictS)
  pms_nil))))
abbrev n_Stream_next_index : List Str := ["self"]
theorem sc_Stream_next_index : FnScope ["self"] (ps .Stream_next_index) (defScope (sf .Stream_next_index)) := ⟨rfl, rfl, rfl, by decide +kernel, rfl, by decide +kernel, by decide +kernel⟩
set_option maxHeartbeats 4000000 in
theorem ok_Stream_next_index (T : Tx K mg ad fa fd) (hsm : ∃ o, base.get? sysModules = some o) (G : AllG P w K mg base ad fa fd k cf) : GnOk P w K mg base (k + 1 + 1) (fa .Stream_next_index) (fd .Stream_next_index) (ps .Stream_next_index) (spF K ad (ar .Stream_next_index) (runF 1 (b_Stream_next_index cf))) :=
  gn_ok (T.fu .Stream_next_index) sc_Stream_next_index hsm rfl fun cdv A outer s H E S =>
  (pms_cons (pms_ret (pm_fld T.cl_Stream T.na_Stream_upcoming (pm_var (pv 0))))
  pms_nil)
abbrev n_Stream_seek : List Str := ["self", "index"]
theorem sc_Stream_seek : FnScope ["self", "index"] (ps .Stream_seek) (defScope (sf .Stream_seek)) := ⟨rfl, rfl, rfl, by decide +kernel, rfl, by decide +kernel, by decide +kernel⟩
set_option maxHeartbeats 4000000 in
theorem ok_Stream_seek (T : Tx K mg ad fa fd) (hsm : ∃ o, base.get? sysModules = some o) (G : AllG P w K mg base ad fa fd k cf) : GnOk P w K mg base (k + 1 + 1) (fa .Stream_seek) (fd .Stream_seek) (ps .Stream_seek) (spF K ad (ar .Stream_seek) (runF 2 (b_Stream_seek cf))) :=
  gn_ok (T.fu .Stream_seek) sc_Stream_seek hsm rfl fun cdv A outer s H E S =>
  (pms_cons (pms_if (pmt_not (ptM_val (pm_call (G .is_between).up S rfl (T.mgs .is_between rfl) (T.fu .is_between).kp (T.bi .is_between) (pma_cons (pm_var (pv 1)) (pma_cons pm_int (pma_cons (T.c_LAST_INDEX.pm rfl) pma_nil)))))) (pms_cons pms_never
    pms_nil) pms_nil)
  (pms_cons (pms_fld T.cl_Stream T.na_Stream_upcoming (pm_var (pv 0)) (pm_var (pv 1)))
  pms_nil))
abbrev n_Stream___call__ : List Str := ["self", "position"]
theorem sc_Stream___call__ : FnScope ["self", "position"] (ps .Stream___call__) (defScope (sf .Stream___call__)) := ⟨rfl, rfl, rfl, by decide +kernel, rfl, by decide +kernel, by decide +kernel⟩
set_option maxHeartbeats 4000000 in
theorem ok_Stream___call__ (T : Tx K mg ad fa fd) (hsm : ∃ o, base.get? sysModules = some o) (G : AllG P w K mg base ad fa fd k cf) : GnOk P w K mg base (k + 1 + 1) (fa .Stream___call__) (fd .Stream___call__) (ps .Stream___call__) (spF K ad (ar .Stream___call__) (runF 2 (b_Stream___call__ cf))) :=
  gn_ok (T.fu .Stream___call__) sc_Stream___call__ hsm rfl fun cdv A outer s H E S =>
  (pms_cons (pms_set (i := 1) sc_Stream___call__.nd rfl (by first | exact Or.inl rfl | exact Or.inr rfl) (pm_make T.mk_Position (G .Position___init__) S rfl T.mgC_Position (T.bi .Position___init__) (pma_cons (pm_fld T.cl_Stream T.na_Stream_path (pm_var (pv 0))) (pma_cons (pm_fld T.cl_Stream T.na_Stream_upcoming (pm_var (pv 0))) pma_nil))))
  (pms_cons (pms_fldAdd T.cl_Stream T.na_Stream_upcoming (pm_var (pv 0)) pm_int)
  (pms_cons (pms_ret (pm_var (pv 1)))
  pms_nil)))
abbrev n_Stream___iadd__ : List Str := ["self", "other"]
theorem sc_Stream___iadd__ : FnScope ["self", "other"] (ps .Stream___iadd__) (defScope (sf .Stream___iadd__)) := ⟨rfl, rfl, rfl, by decide +kernel, rfl, by decide +kernel, by decide +kernel⟩
set_option maxHeartbeats 4000000 in
theorem ok_Stream___iadd__ (T : Tx K mg ad fa fd) (hsm : ∃ o, base.get? sysModules = some o) (G : AllG P w K mg base ad fa fd k cf) : GnOk P w K mg base (k + 1 + 1) (fa .Stream___iadd__) (fd .Stream___iadd__) (ps .Stream___iadd__) (spF K ad (ar .Stream___iadd__) (runF 2 (b_Stream___iadd__ cf))) :=
  gn_ok (T.fu .Stream___iadd__) sc_Stream___iadd__ hsm rfl fun cdv A outer s H E S =>
  (pms_cons (pms_expr (pm_call (G .check_integer).up S rfl (T.mgs .check_integer rfl) (T.fu .check_integer).kp (T.bi .check_integer) (pma_cons (pm_var (pv 1)) pma_nil)))
  (pms_cons (pms_if (pmt_not (ptM_val (pm_call (G .is_between).up S rfl (T.mgs .is_between rfl) (T.fu .is_between).kp (T.bi .is_between) (pma_cons (pm_bin om_add (pm_fld T.cl_Stream T.na_Stream_upcoming (pm_var (pv 0))) (pm_var (pv 1))) (pma_cons pm_int (pma_cons (T.c_LAST_INDEX.pm rfl) pma_nil)))))) (pms_cons pms_never
    pms_nil) pms_nil)
  (pms_cons (pms_fldAdd T.cl_Stream T.na_Stream_upcoming (pm_var (pv 0)) (pm_var (pv 1)))
  (pms_cons (pms_ret (pm_var (pv 0)))
  pms_nil))))
abbrev n_Stream_split : List Str := ["self"]
theorem sc_Stream_split : FnScope ["self"] (ps .Stream_split) (defScope (sf .Stream_split)) := ⟨rfl, rfl, rfl, by decide +kernel, rfl, by decide +kernel, by decide +kernel⟩
set_option maxHeartbeats 4000000 in
theorem ok_Stream_split (T : Tx K mg ad fa fd) (hsm : ∃ o, base.get? sysModules = some o) (G : AllG P w K mg base ad fa fd k cf) : GnOk P w K mg base (k + 1 + 1) (fa .Stream_split) (fd .Stream_split) (ps .Stream_split) (spF K ad (ar .Stream_split) (runF 1 (b_Stream_split cf))) :=
  gn_ok (T.fu .Stream_split) sc_Stream_split hsm rfl fun cdv A outer s H E S =>
  (pms_cons (pms_if (pmt_bool (pmw_or (ptM_cmp (om_eq S.u64) (pm_callB cm_len rfl T.z_len PySem.boot_len (pma_cons (pm_fld T.cl_Stream T.na_Stream_path (pm_var (pv 0))) pma_nil)) (T.c_MAX_STEPS.pm rfl) (nomark _)) (pmw_or1 (ptM_cmp om_gt (pm_fld T.cl_Stream T.na_Stream_upcoming (pm_var (pv 0))) (T.c_LAST_INDEX.pm rfl) (nomark _))))) (pms_cons pms_never
    pms_nil) pms_nil)
  (pms_cons (pms_fldAdd T.cl_Stream T.na_Stream_upcoming (pm_var (pv 0)) pm_int)
  (pms_cons (pms_ret (pm_make T.mk_Stream (G .Stream___init__) S rfl T.mgC_Stream (T.bi .Stream___init__) (pma_cons (pm_tup (pma_star (pm_fld T.cl_Stream T.na_Stream_path (pm_var (pv 0))) (pma_cons (pm_bin om_sub (pm_fld T.cl_Stream T.na_Stream_upcoming (pm_var (pv 0))) pm_int) pma_nil) (fun h1 h2 => StX.pa_star h1 h2))) pma_nil)))
  pms_nil)))
abbrev n_Stream_named : List Str := ["self", "name"]
theorem sc_Stream_named : FnScope ["self", "name"] (ps .Stream_named) (defScope (sf .Stream_named)) := ⟨rfl, rfl, rfl, by decide +kernel, rfl, by decide +kernel, by decide +kernel⟩
set_option maxHeartbeats 4000000 in
theorem ok_Stream_named (T : Tx K mg ad fa fd) (hsm : ∃ o, base.get? sysModules = some o) (G : AllG P w K mg base ad fa fd k cf) : GnOk P w K mg base (k + 1 + 1) (fa .Stream_named) (fd .Stream_named) (ps .Stream_named) (spF K ad (ar .Stream_named) (runF 2 (b_Stream_named cf))) :=
  gn_ok (T.fu .Stream_named) sc_Stream_named hsm rfl fun cdv A outer s H E S =>
  (pms_cons (pms_expr (pm_call (G .check_name).up S rfl (T.mgs .check_name rfl) (T.fu .check_name).kp (T.bi .check_name) (pma_cons (pm_var (pv 1)) pma_nil)))
  (pms_cons (pms_if (ptM_cmp (om_eq S.u64) (pm_callB cm_len rfl T.z_len PySem.boot_len (pma_cons (pm_fld T.cl_Stream T.na_Stream_path (pm_var (pv 0))) pma_nil)) (T.c_MAX_STEPS.pm rfl) (nomark _)) (pms_cons pms_never
    pms_nil) pms_nil)
  (pms_cons (pms_if (ptM_dnotin (hu_of S.rm) (pm_var (pv 1)) (pm_fld T.cl_Stream T.na_Stream_known (pm_var (pv 0))) (by with_unfolding_all rfl)) (pms_cons (pms_dput (hu_of S.rm) (pm_fld T.cl_Stream T.na_Stream_known (pm_var (pv 0))) (pm_var (pv 1)) (pm_make T.mk_Stream (G .Stream___init__) S rfl T.mgC_Stream (T.bi .Stream___init__) (pma_cons (pm_tup (pma_star (pm_fld T.cl_Stream T.na_Stream_path (pm_var (pv 0))) (pma_cons (pm_bin om_sub (pm_neg pm_int) (pm_var (pv 1))) pma_nil) (fun h1 h2 => StX.pa_star h1 h2))) pma_nil)))
    pms_nil) pms_nil)
  (pms_cons (pms_ret (pm_dget (hu_of S.rm) (pm_fld T.cl_Stream T.na_Stream_known (pm_var (pv 0))) (pm_var (pv 1)) (fun _ _ => rfl)))
  pms_nil))))
theorem all_ok (T : Tx K mg ad fa fd) (hsm : ∃ o, base.get? sysModules = some o) : ∀ k, AllG P w K mg base ad fa fd (2 * k) (callF k)
  | 0, f => gn_none (by cases f <;> rfl)
  | k + 1, f => by
    have G := all_ok T hsm k
    cases f
    · exact ok_is_between T hsm G
    · exact ok_is_path T hsm G
    · exact ok_is_position T hsm G
    · exact ok_is_integer T hsm G
    · exact ok_check_integer T hsm G
    · exact ok_check_name T hsm G
    · exact ok_L_cell T hsm G
    · exact ok_L_source T hsm G
    · exact ok_L_random T hsm G
    · exact ok_L_choice T hsm G
    · exact ok_L_same T hsm G
    · exact ok_L_index T hsm G
    · exact ok_L_any_path T hsm G
    · exact ok_L_grown T hsm G
    · exact ok_L_is_seen T hsm G
    · exact ok_L_is_taken T hsm G
    · exact ok_L_is_moved T hsm G
    · exact ok_L_known_right T hsm G
    · exact ok_law T hsm G
    · exact ok_Position___init__ T hsm G
    · exact ok_Position___sub__ T hsm G
    · exact ok_Position___repr__ T hsm G
    · exact ok_Stream___init__ T hsm G
    · exact ok_Stream_next_index T hsm G
    · exact ok_Stream_seek T hsm G
    · exact ok_Stream___call__ T hsm G
    · exact ok_Stream___iadd__ T hsm G
    · exact ok_Stream_split T hsm G
    · exact ok_Stream_named T hsm G
end
end Ga

namespace Ga
open PySem L2 Mi
theorem all_mk {l : PySem.W.OpenLaw} {w : World} {K : PySem.W.Frag} {h : Heap} {mg : Str → Option Value} {a : Addr} (X : K.In h) (G : h.Ns mainGlobals mg) (hfa : mg "law" = some (.ref a))
    {f0 f1 f2 f3 f4 f5 f6 f7 f8 f9 f10 f11 f12 f13 f14 f15 f16 f17 f18 f19 f20 f21 f22 f23 f24 f25 f26 f27 f28 : Addr} {od0 an0 od1 an1 od2 an2 od3 an3 od4 an4 od5 an5 od6 an6 od7 an7 od8 an8 od9 an9 od10 an10 od11 an11 od12 an12 od13 an13 od14 an14 od15 an15 od16 an16 od17 an17 od18 an18 od19 an19 od20 an20 od21 an21 od22 an22 od23 an23 od24 an24 od25 an25 od26 an26 od27 an27 od28 an28 : Option Addr} {sl0 sl1 sl2 sl3 sl4 sl5 sl6 sl7 sl8 sl9 sl10 sl11 sl12 sl13 sl14 sl15 sl16 sl17 sl18 sl19 sl20 sl21 sl22 sl23 sl24 sl25 sl26 sl27 sl28 : Array (Option Value)} {oc0 kV0 dc0 pm0 cd0 ct0 oc1 kV1 dc1 pm1 cd1 ct1 oc2 kV2 dc2 pm2 cd2 ct2 oc3 kV3 dc3 pm3 cd3 ct3 oc4 kV4 dc4 pm4 cd4 ct4 oc5 kV5 dc5 pm5 cd5 ct5 oc6 kV6 dc6 pm6 cd6 ct6 oc7 kV7 dc7 pm7 cd7 ct7 oc8 kV8 dc8 pm8 cd8 ct8 oc9 kV9 dc9 pm9 cd9 ct9 oc10 kV10 dc10 pm10 cd10 ct10 oc11 kV11 dc11 pm11 cd11 ct11 oc12 kV12 dc12 pm12 cd12 ct12 oc13 kV13 dc13 pm13 cd13 ct13 oc14 kV14 dc14 pm14 cd14 ct14 oc15 kV15 dc15 pm15 cd15 ct15 oc16 kV16 dc16 pm16 cd16 ct16 oc17 kV17 dc17 pm17 cd17 ct17 oc18 kV18 dc18 pm18 cd18 ct18 oc19 kV19 dc19 pm19 cd19 ct19 oc20 kV20 dc20 pm20 cd20 ct20 oc21 kV21 dc21 pm21 cd21 ct21 oc22 kV22 dc22 pm22 cd22 ct22 dV22 oc23 kV23 dc23 pm23 cd23 ct23 oc24 kV24 dc24 pm24 cd24 ct24 oc25 kV25 dc25 pm25 cd25 ct25 oc26 kV26 dc26 pm26 cd26 ct26 oc27 kV27 dc27 pm27 cd27 ct27 oc28 kV28 dc28 pm28 cd28 ct28 : Value}
    {C0 : Addr} (aC0 : PySem.W.nsIn K mainGlobals "Position" = some (some (.ref C0)))
    {C1 : Addr} (aC1 : PySem.W.nsIn K mainGlobals "Stream" = some (some (.ref C1)))
    (a0 : PySem.W.nsIn K mainGlobals "is_between" = some (some (.ref f0))) (l0 : K.lookup f0 = some ⟨oc0, od0, .func (PySem.W.fnOf "is_between" "is_between" (defArgs (sf .is_between)) (defBody (sf .is_between)) (defScope (sf .is_between)) .none kV0 dc0 pm0 an0 cd0 ct0), sl0⟩) (c0 : PySem.W.codeIn K cd0 "is_between" = true) (k0 : PySem.W.keepIn K (.ref f0) = true)
    (a1 : PySem.W.nsIn K mainGlobals "is_path" = some (some (.ref f1))) (l1 : K.lookup f1 = some ⟨oc1, od1, .func (PySem.W.fnOf "is_path" "is_path" (defArgs (sf .is_path)) (defBody (sf .is_path)) (defScope (sf .is_path)) .none kV1 dc1 pm1 an1 cd1 ct1), sl1⟩) (c1 : PySem.W.codeIn K cd1 "is_path" = true) (k1 : PySem.W.keepIn K (.ref f1) = true)
    (a2 : PySem.W.nsIn K mainGlobals "is_position" = some (some (.ref f2))) (l2 : K.lookup f2 = some ⟨oc2, od2, .func (PySem.W.fnOf "is_position" "is_position" (defArgs (sf .is_position)) (defBody (sf .is_position)) (defScope (sf .is_position)) .none kV2 dc2 pm2 an2 cd2 ct2), sl2⟩) (c2 : PySem.W.codeIn K cd2 "is_position" = true) (k2 : PySem.W.keepIn K (.ref f2) = true)
    (a3 : PySem.W.nsIn K mainGlobals "is_integer" = some (some (.ref f3))) (l3 : K.lookup f3 = some ⟨oc3, od3, .func (PySem.W.fnOf "is_integer" "is_integer" (defArgs (sf .is_integer)) (defBody (sf .is_integer)) (defScope (sf .is_integer)) .none kV3 dc3 pm3 an3 cd3 ct3), sl3⟩) (c3 : PySem.W.codeIn K cd3 "is_integer" = true) (k3 : PySem.W.keepIn K (.ref f3) = true)
    (a4 : PySem.W.nsIn K mainGlobals "check_integer" = some (some (.ref f4))) (l4 : K.lookup f4 = some ⟨oc4, od4, .func (PySem.W.fnOf "check_integer" "check_integer" (defArgs (sf .check_integer)) (defBody (sf .check_integer)) (defScope (sf .check_integer)) .none kV4 dc4 pm4 an4 cd4 ct4), sl4⟩) (c4 : PySem.W.codeIn K cd4 "check_integer" = true) (k4 : PySem.W.keepIn K (.ref f4) = true)
    (a5 : PySem.W.nsIn K mainGlobals "check_name" = some (some (.ref f5))) (l5 : K.lookup f5 = some ⟨oc5, od5, .func (PySem.W.fnOf "check_name" "check_name" (defArgs (sf .check_name)) (defBody (sf .check_name)) (defScope (sf .check_name)) .none kV5 dc5 pm5 an5 cd5 ct5), sl5⟩) (c5 : PySem.W.codeIn K cd5 "check_name" = true) (k5 : PySem.W.keepIn K (.ref f5) = true)
    (a6 : PySem.W.nsIn K mainGlobals "_law_cell" = some (some (.ref f6))) (l6 : K.lookup f6 = some ⟨oc6, od6, .func (PySem.W.fnOf "_law_cell" "_law_cell" (defArgs (sf .L_cell)) (defBody (sf .L_cell)) (defScope (sf .L_cell)) .none kV6 dc6 pm6 an6 cd6 ct6), sl6⟩) (c6 : PySem.W.codeIn K cd6 "_law_cell" = true) (k6 : PySem.W.keepIn K (.ref f6) = true)
    (a7 : PySem.W.nsIn K mainGlobals "_law_source" = some (some (.ref f7))) (l7 : K.lookup f7 = some ⟨oc7, od7, .func (PySem.W.fnOf "_law_source" "_law_source" (defArgs (sf .L_source)) (defBody (sf .L_source)) (defScope (sf .L_source)) .none kV7 dc7 pm7 an7 cd7 ct7), sl7⟩) (c7 : PySem.W.codeIn K cd7 "_law_source" = true) (k7 : PySem.W.keepIn K (.ref f7) = true)
    (a8 : PySem.W.nsIn K mainGlobals "_law_random" = some (some (.ref f8))) (l8 : K.lookup f8 = some ⟨oc8, od8, .func (PySem.W.fnOf "_law_random" "_law_random" (defArgs (sf .L_random)) (defBody (sf .L_random)) (defScope (sf .L_random)) .none kV8 dc8 pm8 an8 cd8 ct8), sl8⟩) (c8 : PySem.W.codeIn K cd8 "_law_random" = true) (k8 : PySem.W.keepIn K (.ref f8) = true)
    (a9 : PySem.W.nsIn K mainGlobals "_law_choice" = some (some (.ref f9))) (l9 : K.lookup f9 = some ⟨oc9, od9, .func (PySem.W.fnOf "_law_choice" "_law_choice" (defArgs (sf .L_choice)) (defBody (sf .L_choice)) (defScope (sf .L_choice)) .none kV9 dc9 pm9 an9 cd9 ct9), sl9⟩) (c9 : PySem.W.codeIn K cd9 "_law_choice" = true) (k9 : PySem.W.keepIn K (.ref f9) = true)
    (a10 : PySem.W.nsIn K mainGlobals "_law_same" = some (some (.ref f10))) (l10 : K.lookup f10 = some ⟨oc10, od10, .func (PySem.W.fnOf "_law_same" "_law_same" (defArgs (sf .L_same)) (defBody (sf .L_same)) (defScope (sf .L_same)) .none kV10 dc10 pm10 an10 cd10 ct10), sl10⟩) (c10 : PySem.W.codeIn K cd10 "_law_same" = true) (k10 : PySem.W.keepIn K (.ref f10) = true)
    (a11 : PySem.W.nsIn K mainGlobals "_law_index" = some (some (.ref f11))) (l11 : K.lookup f11 = some ⟨oc11, od11, .func (PySem.W.fnOf "_law_index" "_law_index" (defArgs (sf .L_index)) (defBody (sf .L_index)) (defScope (sf .L_index)) .none kV11 dc11 pm11 an11 cd11 ct11), sl11⟩) (c11 : PySem.W.codeIn K cd11 "_law_index" = true) (k11 : PySem.W.keepIn K (.ref f11) = true)
    (a12 : PySem.W.nsIn K mainGlobals "_law_any_path" = some (some (.ref f12))) (l12 : K.lookup f12 = some ⟨oc12, od12, .func (PySem.W.fnOf "_law_any_path" "_law_any_path" (defArgs (sf .L_any_path)) (defBody (sf .L_any_path)) (defScope (sf .L_any_path)) .none kV12 dc12 pm12 an12 cd12 ct12), sl12⟩) (c12 : PySem.W.codeIn K cd12 "_law_any_path" = true) (k12 : PySem.W.keepIn K (.ref f12) = true)
    (a13 : PySem.W.nsIn K mainGlobals "_law_grown" = some (some (.ref f13))) (l13 : K.lookup f13 = some ⟨oc13, od13, .func (PySem.W.fnOf "_law_grown" "_law_grown" (defArgs (sf .L_grown)) (defBody (sf .L_grown)) (defScope (sf .L_grown)) .none kV13 dc13 pm13 an13 cd13 ct13), sl13⟩) (c13 : PySem.W.codeIn K cd13 "_law_grown" = true) (k13 : PySem.W.keepIn K (.ref f13) = true)
    (a14 : PySem.W.nsIn K mainGlobals "_law_is_seen" = some (some (.ref f14))) (l14 : K.lookup f14 = some ⟨oc14, od14, .func (PySem.W.fnOf "_law_is_seen" "_law_is_seen" (defArgs (sf .L_is_seen)) (defBody (sf .L_is_seen)) (defScope (sf .L_is_seen)) .none kV14 dc14 pm14 an14 cd14 ct14), sl14⟩) (c14 : PySem.W.codeIn K cd14 "_law_is_seen" = true) (k14 : PySem.W.keepIn K (.ref f14) = true)
    (a15 : PySem.W.nsIn K mainGlobals "_law_is_taken" = some (some (.ref f15))) (l15 : K.lookup f15 = some ⟨oc15, od15, .func (PySem.W.fnOf "_law_is_taken" "_law_is_taken" (defArgs (sf .L_is_taken)) (defBody (sf .L_is_taken)) (defScope (sf .L_is_taken)) .none kV15 dc15 pm15 an15 cd15 ct15), sl15⟩) (c15 : PySem.W.codeIn K cd15 "_law_is_taken" = true) (k15 : PySem.W.keepIn K (.ref f15) = true)
    (a16 : PySem.W.nsIn K mainGlobals "_law_is_moved" = some (some (.ref f16))) (l16 : K.lookup f16 = some ⟨oc16, od16, .func (PySem.W.fnOf "_law_is_moved" "_law_is_moved" (defArgs (sf .L_is_moved)) (defBody (sf .L_is_moved)) (defScope (sf .L_is_moved)) .none kV16 dc16 pm16 an16 cd16 ct16), sl16⟩) (c16 : PySem.W.codeIn K cd16 "_law_is_moved" = true) (k16 : PySem.W.keepIn K (.ref f16) = true)
    (a17 : PySem.W.nsIn K mainGlobals "_law_known_right" = some (some (.ref f17))) (l17 : K.lookup f17 = some ⟨oc17, od17, .func (PySem.W.fnOf "_law_known_right" "_law_known_right" (defArgs (sf .L_known_right)) (defBody (sf .L_known_right)) (defScope (sf .L_known_right)) .none kV17 dc17 pm17 an17 cd17 ct17), sl17⟩) (c17 : PySem.W.codeIn K cd17 "_law_known_right" = true) (k17 : PySem.W.keepIn K (.ref f17) = true)
    (a18 : PySem.W.nsIn K mainGlobals "law" = some (some (.ref f18))) (l18 : K.lookup f18 = some ⟨oc18, od18, .func (PySem.W.fnOf "law" "law" (defArgs (sf .law)) (defBody (sf .law)) (defScope (sf .law)) .none kV18 dc18 pm18 an18 cd18 ct18), sl18⟩) (c18 : PySem.W.codeIn K cd18 "law" = true) (k18 : PySem.W.keepIn K (.ref f18) = true)
    (a19 : PySem.W.findIn K (.ref C0) "__init__" = some (some (.ref f19))) (i19 : PySem.W.isFn K (.ref f19) = true) (l19 : K.lookup f19 = some ⟨oc19, od19, .func (PySem.W.fnOf "__init__" "Position.__init__" (defArgs (sf .Position___init__)) (defBody (sf .Position___init__)) (defScope (sf .Position___init__)) .none kV19 dc19 pm19 an19 cd19 ct19), sl19⟩) (c19 : PySem.W.codeIn K cd19 "Position.__init__" = true) (k19 : PySem.W.keepIn K (.ref f19) = true)
    (a20 : PySem.W.findIn K (.ref C0) "__sub__" = some (some (.ref f20))) (i20 : PySem.W.isFn K (.ref f20) = true) (l20 : K.lookup f20 = some ⟨oc20, od20, .func (PySem.W.fnOf "__sub__" "Position.__sub__" (defArgs (sf .Position___sub__)) (defBody (sf .Position___sub__)) (defScope (sf .Position___sub__)) .none kV20 dc20 pm20 an20 cd20 ct20), sl20⟩) (c20 : PySem.W.codeIn K cd20 "Position.__sub__" = true) (k20 : PySem.W.keepIn K (.ref f20) = true)
    (a21 : PySem.W.findIn K (.ref C0) "__repr__" = some (some (.ref f21))) (i21 : PySem.W.isFn K (.ref f21) = true) (l21 : K.lookup f21 = some ⟨oc21, od21, .func (PySem.W.fnOf "__repr__" "Position.__repr__" (defArgs (sf .Position___repr__)) (defBody (sf .Position___repr__)) (defScope (sf .Position___repr__)) .none kV21 dc21 pm21 an21 cd21 ct21), sl21⟩) (c21 : PySem.W.codeIn K cd21 "Position.__repr__" = true) (k21 : PySem.W.keepIn K (.ref f21) = true)
    (a22 : PySem.W.findIn K (.ref C1) "__init__" = some (some (.ref f22))) (i22 : PySem.W.isFn K (.ref f22) = true) (l22 : K.lookup f22 = some ⟨oc22, od22, .func (PySem.W.fnOf "__init__" "Stream.__init__" (defArgs (sf .Stream___init__)) (defBody (sf .Stream___init__)) (defScope (sf .Stream___init__)) dV22 kV22 dc22 pm22 an22 cd22 ct22), sl22⟩) (c22 : PySem.W.codeIn K cd22 "Stream.__init__" = true) (k22 : PySem.W.keepIn K (.ref f22) = true)
    {T22 : Addr} {te22 : Value} {td22 : Option Addr} {ts22 : Array (Option Value)} {tn22 : Nat} {da22 : Addr} {dad22 : Option Addr} {das22 : Array (Option Value)} {dan22 : Nat} (dv22 : dV22 = .ref T22) (dl22 : K.lookup T22 = some ⟨te22, td22, .seq #[.ref da22] tn22, ts22⟩) (dt22 : K.lookup da22 = some ⟨.type "tuple", dad22, .seq #[] dan22, das22⟩)
    {p23 : Addr} {rs23 : List Value} (a23 : PySem.W.findIn K (.ref C1) "next_index" = some (some (.ref p23))) (r23 : PySem.W.recIn K p23 "property" = some (.ref f23 :: rs23)) (pg23_ : PySem.W.specialIn K (.ref p23) "__get__" = some (some (.builtin "property.__get__"))) (pt23_ : PySem.W.takesIn K (.ref p23) = some true) (l23 : K.lookup f23 = some ⟨oc23, od23, .func (PySem.W.fnOf "next_index" "Stream.next_index" (defArgs (sf .Stream_next_index)) (defBody (sf .Stream_next_index)) (defScope (sf .Stream_next_index)) .none kV23 dc23 pm23 an23 cd23 ct23), sl23⟩) (c23 : PySem.W.codeIn K cd23 "Stream.next_index" = true) (k23 : PySem.W.keepIn K (.ref f23) = true)
    (a24 : PySem.W.findIn K (.ref C1) "seek" = some (some (.ref f24))) (i24 : PySem.W.isFn K (.ref f24) = true) (l24 : K.lookup f24 = some ⟨oc24, od24, .func (PySem.W.fnOf "seek" "Stream.seek" (defArgs (sf .Stream_seek)) (defBody (sf .Stream_seek)) (defScope (sf .Stream_seek)) .none kV24 dc24 pm24 an24 cd24 ct24), sl24⟩) (c24 : PySem.W.codeIn K cd24 "Stream.seek" = true) (k24 : PySem.W.keepIn K (.ref f24) = true)
    (a25 : PySem.W.findIn K (.ref C1) "__call__" = some (some (.ref f25))) (i25 : PySem.W.isFn K (.ref f25) = true) (l25 : K.lookup f25 = some ⟨oc25, od25, .func (PySem.W.fnOf "__call__" "Stream.__call__" (defArgs (sf .Stream___call__)) (defBody (sf .Stream___call__)) (defScope (sf .Stream___call__)) .none kV25 dc25 pm25 an25 cd25 ct25), sl25⟩) (c25 : PySem.W.codeIn K cd25 "Stream.__call__" = true) (k25 : PySem.W.keepIn K (.ref f25) = true)
    (a26 : PySem.W.findIn K (.ref C1) "__iadd__" = some (some (.ref f26))) (i26 : PySem.W.isFn K (.ref f26) = true) (l26 : K.lookup f26 = some ⟨oc26, od26, .func (PySem.W.fnOf "__iadd__" "Stream.__iadd__" (defArgs (sf .Stream___iadd__)) (defBody (sf .Stream___iadd__)) (defScope (sf .Stream___iadd__)) .none kV26 dc26 pm26 an26 cd26 ct26), sl26⟩) (c26 : PySem.W.codeIn K cd26 "Stream.__iadd__" = true) (k26 : PySem.W.keepIn K (.ref f26) = true)
    (a27 : PySem.W.findIn K (.ref C1) "split" = some (some (.ref f27))) (i27 : PySem.W.isFn K (.ref f27) = true) (l27 : K.lookup f27 = some ⟨oc27, od27, .func (PySem.W.fnOf "split" "Stream.split" (defArgs (sf .Stream_split)) (defBody (sf .Stream_split)) (defScope (sf .Stream_split)) .none kV27 dc27 pm27 an27 cd27 ct27), sl27⟩) (c27 : PySem.W.codeIn K cd27 "Stream.split" = true) (k27 : PySem.W.keepIn K (.ref f27) = true)
    (a28 : PySem.W.findIn K (.ref C1) "named" = some (some (.ref f28))) (i28 : PySem.W.isFn K (.ref f28) = true) (l28 : K.lookup f28 = some ⟨oc28, od28, .func (PySem.W.fnOf "named" "Stream.named" (defArgs (sf .Stream_named)) (defBody (sf .Stream_named)) (defScope (sf .Stream_named)) .none kV28 dc28 pm28 an28 cd28 ct28), sl28⟩) (c28 : PySem.W.codeIn K cd28 "Stream.named" = true) (k28 : PySem.W.keepIn K (.ref f28) = true)
    (pg0 : PySem.W.plainGet K C0 Str.empty = true) (hd0 : PySem.W.hasDictIn K C0 = true) (po0 : PySem.W.plainOver K C0 = true) (sa0 : PySem.W.findIn K (.ref C0) "__setattr__" = some (some (.builtin "object.__setattr__"))) (mk0 : PySem.W.makesIn K C0 = true) (kc0 : PySem.W.keepIn K (.ref C0) = true)
    (na0_path : PySem.W.findIn K (.ref C0) "path" = some none)
    (na0_index : PySem.W.findIn K (.ref C0) "index" = some none)
    (ica0 : PySem.W.findIn K (.ref C0) "__class__" = some (some (.builtin "object.__class__"))) (icn0 : PySem.W.specialIn K (.builtin "object.__class__") "__get__" = some (some (.builtin "getset_descriptor.__get__"))) (ict0 : PySem.W.takesIn K (.builtin "object.__class__") = some true) (icm0 : PySem.W.mroIn K C0 (.type "object") = some true) (ice0 : PySem.W.kitOne K (.ref C0) (.ref C0) = some true)
    (icz0_0 : PySem.W.kitOne K (.type "NoneType") (.ref C0) = some false) (icz0_1 : PySem.W.kitOne K (.type "bool") (.ref C0) = some false) (icz0_2 : PySem.W.kitOne K (.type "int") (.ref C0) = some false) (icz0_3 : PySem.W.kitOne K (.type "str") (.ref C0) = some false) (icz0_4 : PySem.W.kitOne K (.type "bytes") (.ref C0) = some false) (icz0_5 : PySem.W.kitOne K (.type "tuple") (.ref C0) = some false) (icz0_6 : PySem.W.kitOne K (.type "list") (.ref C0) = some false) (icz0_7 : PySem.W.kitOne K (.type "dict") (.ref C0) = some false)
    (pg1 : PySem.W.plainGet K C1 Str.empty = true) (hd1 : PySem.W.hasDictIn K C1 = true) (po1 : PySem.W.plainOver K C1 = true) (sa1 : PySem.W.findIn K (.ref C1) "__setattr__" = some (some (.builtin "object.__setattr__"))) (mk1 : PySem.W.makesIn K C1 = true) (kc1 : PySem.W.keepIn K (.ref C1) = true)
    (na1_path : PySem.W.findIn K (.ref C1) "path" = some none)
    (na1_upcoming : PySem.W.findIn K (.ref C1) "upcoming" = some none)
    (na1_known : PySem.W.findIn K (.ref C1) "known" = some none)
    (fi1 : PySem.W.fnIn K f25 = true)
    (sfi1 : PySem.W.selfFirst K C1 = true)
    (z_int : PySem.W.nsIn K mainGlobals "int" = some none)
    (z_isinstance : PySem.W.nsIn K mainGlobals "isinstance" = some none)
    (z_bool : PySem.W.nsIn K mainGlobals "bool" = some none)
    (z_tuple : PySem.W.nsIn K mainGlobals "tuple" = some none)
    (z_len : PySem.W.nsIn K mainGlobals "len" = some none)
    (z_all : PySem.W.nsIn K mainGlobals "all" = some none)
    (z_max : PySem.W.nsIn K mainGlobals "max" = some none)
    (z_repr : PySem.W.nsIn K mainGlobals "repr" = some none)
    (z_range : PySem.W.nsIn K mainGlobals "range" = some none)
    (z_str : PySem.W.nsIn K mainGlobals "str" = some none)
    (z_min : PySem.W.nsIn K mainGlobals "min" = some none)
    {tkMAX_STEPS1 : Tok}
    (gMAX_STEPS : PySem.W.nsIn K mainGlobals "MAX_STEPS" = some (some (.int 10 tkMAX_STEPS1)))
    {tkLAST_INDEX1 : Tok}
    (gLAST_INDEX : PySem.W.nsIn K mainGlobals "LAST_INDEX" = some (some (.int 1000000000000 tkLAST_INDEX1)))
    {tkMAX_NAME1 : Tok}
    (gMAX_NAME : PySem.W.nsIn K mainGlobals "MAX_NAME" = some (some (.int 9 tkMAX_NAME1)))
     (ci_Stream_eq : PySem.W.findIn K (.ref C1) "__eq__" = some (some (.builtin "object.__eq__")))
     (ci_Stream_ob : PySem.W.subIn K (.ref C1) (.type "object") = some true)
     (bo_Position__sub___sf : PySem.W.selfFirst K C0 = true)
     (bo_Position__sub___nr : PySem.W.findIn K (.ref C0) "__rsub__" = some none)
    {bo_Position__sub___fNoneType : Option Value} (bo_Position__sub___lNoneType : PySem.W.findIn K (.type "NoneType") "__sub__" = some bo_Position__sub___fNoneType)
    {bo_Position__sub___gNoneType : Option Value} (bo_Position__sub___rNoneType : PySem.W.findIn K (.type "NoneType") "__rsub__" = some bo_Position__sub___gNoneType)
     (bo_Position__sub___sNoneType : PySem.W.subIn K (.type "NoneType") (.ref C0) = some false)
    {bo_Position__sub___fbool : Option Value} (bo_Position__sub___lbool : PySem.W.findIn K (.type "bool") "__sub__" = some bo_Position__sub___fbool)
    {bo_Position__sub___gbool : Option Value} (bo_Position__sub___rbool : PySem.W.findIn K (.type "bool") "__rsub__" = some bo_Position__sub___gbool)
     (bo_Position__sub___sbool : PySem.W.subIn K (.type "bool") (.ref C0) = some false)
    {bo_Position__sub___fint : Option Value} (bo_Position__sub___lint : PySem.W.findIn K (.type "int") "__sub__" = some bo_Position__sub___fint)
    {bo_Position__sub___gint : Option Value} (bo_Position__sub___rint : PySem.W.findIn K (.type "int") "__rsub__" = some bo_Position__sub___gint)
     (bo_Position__sub___sint : PySem.W.subIn K (.type "int") (.ref C0) = some false)
    {bo_Position__sub___fstr : Option Value} (bo_Position__sub___lstr : PySem.W.findIn K (.type "str") "__sub__" = some bo_Position__sub___fstr)
    {bo_Position__sub___gstr : Option Value} (bo_Position__sub___rstr : PySem.W.findIn K (.type "str") "__rsub__" = some bo_Position__sub___gstr)
     (bo_Position__sub___sstr : PySem.W.subIn K (.type "str") (.ref C0) = some false)
    {bo_Position__sub___ftuple : Option Value} (bo_Position__sub___ltuple : PySem.W.findIn K (.type "tuple") "__sub__" = some bo_Position__sub___ftuple)
    {bo_Position__sub___gtuple : Option Value} (bo_Position__sub___rtuple : PySem.W.findIn K (.type "tuple") "__rsub__" = some bo_Position__sub___gtuple)
     (bo_Position__sub___stuple : PySem.W.subIn K (.type "tuple") (.ref C0) = some false)
    {bo_Position__sub___flist : Option Value} (bo_Position__sub___llist : PySem.W.findIn K (.type "list") "__sub__" = some bo_Position__sub___flist)
    {bo_Position__sub___glist : Option Value} (bo_Position__sub___rlist : PySem.W.findIn K (.type "list") "__rsub__" = some bo_Position__sub___glist)
     (bo_Position__sub___slist : PySem.W.subIn K (.type "list") (.ref C0) = some false)
    {bo_Position__sub___fdict : Option Value} (bo_Position__sub___ldict : PySem.W.findIn K (.type "dict") "__sub__" = some bo_Position__sub___fdict)
    {bo_Position__sub___gdict : Option Value} (bo_Position__sub___rdict : PySem.W.findIn K (.type "dict") "__rsub__" = some bo_Position__sub___gdict)
     (bo_Position__sub___sdict : PySem.W.subIn K (.type "dict") (.ref C0) = some false)
    : ∃ (ad : Ad) (fd : FuncData), ad.hid = [] ∧ ad.tabs = [] ∧ (∀ (s : Shared) (u : Value), BindsTo s fd ⟨[u], []⟩ [("_law_script", u)]) ∧ ∀ base : Heap, K.In base → base.Ns mainGlobals mg → (∃ o, base.get? sysModules = some o) → GnOk l.prog w K mg base (2 * 20) a fd ["_law_script"] (spF K ad 1 (callF 20 .law)) := by
  have e := hfa.symm.trans (PySem.W.mg_of X G a18)
  cases e
  let fa : Fn → Addr := fun f => match f with
    | .is_between => f0
    | .is_path => f1
    | .is_position => f2
    | .is_integer => f3
    | .check_integer => f4
    | .check_name => f5
    | .L_cell => f6
    | .L_source => f7
    | .L_random => f8
    | .L_choice => f9
    | .L_same => f10
    | .L_index => f11
    | .L_any_path => f12
    | .L_grown => f13
    | .L_is_seen => f14
    | .L_is_taken => f15
    | .L_is_moved => f16
    | .L_known_right => f17
    | .law => a
    | .Position___init__ => f19
    | .Position___sub__ => f20
    | .Position___repr__ => f21
    | .Stream___init__ => f22
    | .Stream_next_index => f23
    | .Stream_seek => f24
    | .Stream___call__ => f25
    | .Stream___iadd__ => f26
    | .Stream_split => f27
    | .Stream_named => f28
  let fd : Fn → FuncData := fun f => match f with
    | .is_between => PySem.W.fnOf "is_between" "is_between" (defArgs (sf .is_between)) (defBody (sf .is_between)) (defScope (sf .is_between)) .none kV0 dc0 pm0 an0 cd0 ct0
    | .is_path => PySem.W.fnOf "is_path" "is_path" (defArgs (sf .is_path)) (defBody (sf .is_path)) (defScope (sf .is_path)) .none kV1 dc1 pm1 an1 cd1 ct1
    | .is_position => PySem.W.fnOf "is_position" "is_position" (defArgs (sf .is_position)) (defBody (sf .is_position)) (defScope (sf .is_position)) .none kV2 dc2 pm2 an2 cd2 ct2
    | .is_integer => PySem.W.fnOf "is_integer" "is_integer" (defArgs (sf .is_integer)) (defBody (sf .is_integer)) (defScope (sf .is_integer)) .none kV3 dc3 pm3 an3 cd3 ct3
    | .check_integer => PySem.W.fnOf "check_integer" "check_integer" (defArgs (sf .check_integer)) (defBody (sf .check_integer)) (defScope (sf .check_integer)) .none kV4 dc4 pm4 an4 cd4 ct4
    | .check_name => PySem.W.fnOf "check_name" "check_name" (defArgs (sf .check_name)) (defBody (sf .check_name)) (defScope (sf .check_name)) .none kV5 dc5 pm5 an5 cd5 ct5
    | .L_cell => PySem.W.fnOf "_law_cell" "_law_cell" (defArgs (sf .L_cell)) (defBody (sf .L_cell)) (defScope (sf .L_cell)) .none kV6 dc6 pm6 an6 cd6 ct6
    | .L_source => PySem.W.fnOf "_law_source" "_law_source" (defArgs (sf .L_source)) (defBody (sf .L_source)) (defScope (sf .L_source)) .none kV7 dc7 pm7 an7 cd7 ct7
    | .L_random => PySem.W.fnOf "_law_random" "_law_random" (defArgs (sf .L_random)) (defBody (sf .L_random)) (defScope (sf .L_random)) .none kV8 dc8 pm8 an8 cd8 ct8
    | .L_choice => PySem.W.fnOf "_law_choice" "_law_choice" (defArgs (sf .L_choice)) (defBody (sf .L_choice)) (defScope (sf .L_choice)) .none kV9 dc9 pm9 an9 cd9 ct9
    | .L_same => PySem.W.fnOf "_law_same" "_law_same" (defArgs (sf .L_same)) (defBody (sf .L_same)) (defScope (sf .L_same)) .none kV10 dc10 pm10 an10 cd10 ct10
    | .L_index => PySem.W.fnOf "_law_index" "_law_index" (defArgs (sf .L_index)) (defBody (sf .L_index)) (defScope (sf .L_index)) .none kV11 dc11 pm11 an11 cd11 ct11
    | .L_any_path => PySem.W.fnOf "_law_any_path" "_law_any_path" (defArgs (sf .L_any_path)) (defBody (sf .L_any_path)) (defScope (sf .L_any_path)) .none kV12 dc12 pm12 an12 cd12 ct12
    | .L_grown => PySem.W.fnOf "_law_grown" "_law_grown" (defArgs (sf .L_grown)) (defBody (sf .L_grown)) (defScope (sf .L_grown)) .none kV13 dc13 pm13 an13 cd13 ct13
    | .L_is_seen => PySem.W.fnOf "_law_is_seen" "_law_is_seen" (defArgs (sf .L_is_seen)) (defBody (sf .L_is_seen)) (defScope (sf .L_is_seen)) .none kV14 dc14 pm14 an14 cd14 ct14
    | .L_is_taken => PySem.W.fnOf "_law_is_taken" "_law_is_taken" (defArgs (sf .L_is_taken)) (defBody (sf .L_is_taken)) (defScope (sf .L_is_taken)) .none kV15 dc15 pm15 an15 cd15 ct15
    | .L_is_moved => PySem.W.fnOf "_law_is_moved" "_law_is_moved" (defArgs (sf .L_is_moved)) (defBody (sf .L_is_moved)) (defScope (sf .L_is_moved)) .none kV16 dc16 pm16 an16 cd16 ct16
    | .L_known_right => PySem.W.fnOf "_law_known_right" "_law_known_right" (defArgs (sf .L_known_right)) (defBody (sf .L_known_right)) (defScope (sf .L_known_right)) .none kV17 dc17 pm17 an17 cd17 ct17
    | .law => PySem.W.fnOf "law" "law" (defArgs (sf .law)) (defBody (sf .law)) (defScope (sf .law)) .none kV18 dc18 pm18 an18 cd18 ct18
    | .Position___init__ => PySem.W.fnOf "__init__" "Position.__init__" (defArgs (sf .Position___init__)) (defBody (sf .Position___init__)) (defScope (sf .Position___init__)) .none kV19 dc19 pm19 an19 cd19 ct19
    | .Position___sub__ => PySem.W.fnOf "__sub__" "Position.__sub__" (defArgs (sf .Position___sub__)) (defBody (sf .Position___sub__)) (defScope (sf .Position___sub__)) .none kV20 dc20 pm20 an20 cd20 ct20
    | .Position___repr__ => PySem.W.fnOf "__repr__" "Position.__repr__" (defArgs (sf .Position___repr__)) (defBody (sf .Position___repr__)) (defScope (sf .Position___repr__)) .none kV21 dc21 pm21 an21 cd21 ct21
    | .Stream___init__ => PySem.W.fnOf "__init__" "Stream.__init__" (defArgs (sf .Stream___init__)) (defBody (sf .Stream___init__)) (defScope (sf .Stream___init__)) dV22 kV22 dc22 pm22 an22 cd22 ct22
    | .Stream_next_index => PySem.W.fnOf "next_index" "Stream.next_index" (defArgs (sf .Stream_next_index)) (defBody (sf .Stream_next_index)) (defScope (sf .Stream_next_index)) .none kV23 dc23 pm23 an23 cd23 ct23
    | .Stream_seek => PySem.W.fnOf "seek" "Stream.seek" (defArgs (sf .Stream_seek)) (defBody (sf .Stream_seek)) (defScope (sf .Stream_seek)) .none kV24 dc24 pm24 an24 cd24 ct24
    | .Stream___call__ => PySem.W.fnOf "__call__" "Stream.__call__" (defArgs (sf .Stream___call__)) (defBody (sf .Stream___call__)) (defScope (sf .Stream___call__)) .none kV25 dc25 pm25 an25 cd25 ct25
    | .Stream___iadd__ => PySem.W.fnOf "__iadd__" "Stream.__iadd__" (defArgs (sf .Stream___iadd__)) (defBody (sf .Stream___iadd__)) (defScope (sf .Stream___iadd__)) .none kV26 dc26 pm26 an26 cd26 ct26
    | .Stream_split => PySem.W.fnOf "split" "Stream.split" (defArgs (sf .Stream_split)) (defBody (sf .Stream_split)) (defScope (sf .Stream_split)) .none kV27 dc27 pm27 an27 cd27 ct27
    | .Stream_named => PySem.W.fnOf "named" "Stream.named" (defArgs (sf .Stream_named)) (defBody (sf .Stream_named)) (defScope (sf .Stream_named)) .none kV28 dc28 pm28 an28 cd28 ct28
  have F0 : FunA K (nm .is_between) (qn .is_between) (sf .is_between) (fa .is_between) (fd .is_between) := funA_mk (st := sf .is_between) l0 c0 k0
  have F1 : FunA K (nm .is_path) (qn .is_path) (sf .is_path) (fa .is_path) (fd .is_path) := funA_mk (st := sf .is_path) l1 c1 k1
  have F2 : FunA K (nm .is_position) (qn .is_position) (sf .is_position) (fa .is_position) (fd .is_position) := funA_mk (st := sf .is_position) l2 c2 k2
  have F3 : FunA K (nm .is_integer) (qn .is_integer) (sf .is_integer) (fa .is_integer) (fd .is_integer) := funA_mk (st := sf .is_integer) l3 c3 k3
  have F4 : FunA K (nm .check_integer) (qn .check_integer) (sf .check_integer) (fa .check_integer) (fd .check_integer) := funA_mk (st := sf .check_integer) l4 c4 k4
  have F5 : FunA K (nm .check_name) (qn .check_name) (sf .check_name) (fa .check_name) (fd .check_name) := funA_mk (st := sf .check_name) l5 c5 k5
  have F6 : FunA K (nm .L_cell) (qn .L_cell) (sf .L_cell) (fa .L_cell) (fd .L_cell) := funA_mk (st := sf .L_cell) l6 c6 k6
  have F7 : FunA K (nm .L_source) (qn .L_source) (sf .L_source) (fa .L_source) (fd .L_source) := funA_mk (st := sf .L_source) l7 c7 k7
  have F8 : FunA K (nm .L_random) (qn .L_random) (sf .L_random) (fa .L_random) (fd .L_random) := funA_mk (st := sf .L_random) l8 c8 k8
  have F9 : FunA K (nm .L_choice) (qn .L_choice) (sf .L_choice) (fa .L_choice) (fd .L_choice) := funA_mk (st := sf .L_choice) l9 c9 k9
  have F10 : FunA K (nm .L_same) (qn .L_same) (sf .L_same) (fa .L_same) (fd .L_same) := funA_mk (st := sf .L_same) l10 c10 k10
  have F11 : FunA K (nm .L_index) (qn .L_index) (sf .L_index) (fa .L_index) (fd .L_index) := funA_mk (st := sf .L_index) l11 c11 k11
  have F12 : FunA K (nm .L_any_path) (qn .L_any_path) (sf .L_any_path) (fa .L_any_path) (fd .L_any_path) := funA_mk (st := sf .L_any_path) l12 c12 k12
  have F13 : FunA K (nm .L_grown) (qn .L_grown) (sf .L_grown) (fa .L_grown) (fd .L_grown) := funA_mk (st := sf .L_grown) l13 c13 k13
  have F14 : FunA K (nm .L_is_seen) (qn .L_is_seen) (sf .L_is_seen) (fa .L_is_seen) (fd .L_is_seen) := funA_mk (st := sf .L_is_seen) l14 c14 k14
  have F15 : FunA K (nm .L_is_taken) (qn .L_is_taken) (sf .L_is_taken) (fa .L_is_taken) (fd .L_is_taken) := funA_mk (st := sf .L_is_taken) l15 c15 k15
  have F16 : FunA K (nm .L_is_moved) (qn .L_is_moved) (sf .L_is_moved) (fa .L_is_moved) (fd .L_is_moved) := funA_mk (st := sf .L_is_moved) l16 c16 k16
  have F17 : FunA K (nm .L_known_right) (qn .L_known_right) (sf .L_known_right) (fa .L_known_right) (fd .L_known_right) := funA_mk (st := sf .L_known_right) l17 c17 k17
  have F18 : FunA K (nm .law) (qn .law) (sf .law) (fa .law) (fd .law) := funA_mk (st := sf .law) l18 c18 k18
  have F19 : FunA K (nm .Position___init__) (qn .Position___init__) (sf .Position___init__) (fa .Position___init__) (fd .Position___init__) := funA_mk (st := sf .Position___init__) l19 c19 k19
  have F20 : FunA K (nm .Position___sub__) (qn .Position___sub__) (sf .Position___sub__) (fa .Position___sub__) (fd .Position___sub__) := funA_mk (st := sf .Position___sub__) l20 c20 k20
  have F21 : FunA K (nm .Position___repr__) (qn .Position___repr__) (sf .Position___repr__) (fa .Position___repr__) (fd .Position___repr__) := funA_mk (st := sf .Position___repr__) l21 c21 k21
  have F22 : FunA K (nm .Stream___init__) (qn .Stream___init__) (sf .Stream___init__) (fa .Stream___init__) (fd .Stream___init__) := funA_mk (st := sf .Stream___init__) l22 c22 k22
  have F23 : FunA K (nm .Stream_next_index) (qn .Stream_next_index) (sf .Stream_next_index) (fa .Stream_next_index) (fd .Stream_next_index) := funA_mk (st := sf .Stream_next_index) l23 c23 k23
  have F24 : FunA K (nm .Stream_seek) (qn .Stream_seek) (sf .Stream_seek) (fa .Stream_seek) (fd .Stream_seek) := funA_mk (st := sf .Stream_seek) l24 c24 k24
  have F25 : FunA K (nm .Stream___call__) (qn .Stream___call__) (sf .Stream___call__) (fa .Stream___call__) (fd .Stream___call__) := funA_mk (st := sf .Stream___call__) l25 c25 k25
  have F26 : FunA K (nm .Stream___iadd__) (qn .Stream___iadd__) (sf .Stream___iadd__) (fa .Stream___iadd__) (fd .Stream___iadd__) := funA_mk (st := sf .Stream___iadd__) l26 c26 k26
  have F27 : FunA K (nm .Stream_split) (qn .Stream_split) (sf .Stream_split) (fa .Stream_split) (fd .Stream_split) := funA_mk (st := sf .Stream_split) l27 c27 k27
  have F28 : FunA K (nm .Stream_named) (qn .Stream_named) (sf .Stream_named) (fa .Stream_named) (fd .Stream_named) := funA_mk (st := sf .Stream_named) l28 c28 k28
  let ad : Ad := ⟨fun n => if n = 0 then C0 else if n = 1 then C1 else 0, [], []⟩
  have T : Tx K mg ad fa fd := by
    refine ⟨fun f => ?_, fun f hf => ?_, fun f => ?_, ⟨pg0, hd0, po0, sa0⟩, ⟨mk0, a19, i19, kc0⟩, PySem.W.mg_of X G aC0, ⟨a19, i19, k19⟩, ⟨a20, i20, k20⟩, ⟨a21, i21, k21⟩, na0_path, na0_index, ⟨⟨⟨pg0, hd0, po0, sa0⟩, ica0, icn0, ict0, icm0, ice0⟩, fun a ha => by simp only [isiTys, List.mem_cons, List.not_mem_nil, or_false] at ha; rcases ha with rfl | rfl | rfl | rfl | rfl | rfl | rfl | rfl <;> assumption⟩, ⟨pg1, hd1, po1, sa1⟩, ⟨mk1, a22, i22, kc1⟩, PySem.W.mg_of X G aC1, ⟨a22, i22, k22⟩, ⟨_, ⟨a23, pg23_, pt23_, ⟨_, r23⟩⟩⟩, ⟨a24, i24, k24⟩, ⟨a25, i25, k25⟩, ⟨a26, i26, k26⟩, ⟨a27, i27, k27⟩, ⟨a28, i28, k28⟩, na1_path, na1_upcoming, na1_known, ⟨a25, i25, fi1⟩, sfi1, by subst dv22; exact ⟨_, binds_dfl1 dl22 rfl (fun us hl => match us, hl with | [_], _ => ⟨_, rfl, rfl⟩), .tup dt22 (Nat.zero_le _) .nil⟩, PySem.W.mg_none_of X G z_int, PySem.W.mg_none_of X G z_isinstance, PySem.W.mg_none_of X G z_bool, PySem.W.mg_none_of X G z_tuple, PySem.W.mg_none_of X G z_len, PySem.W.mg_none_of X G z_all, PySem.W.mg_none_of X G z_max, PySem.W.mg_none_of X G z_repr, PySem.W.mg_none_of X G z_range, PySem.W.mg_none_of X G z_str, PySem.W.mg_none_of X G z_min, ⟨_, PySem.W.mg_of X G gMAX_STEPS, (.int _ _)⟩, ⟨_, PySem.W.mg_of X G gLAST_INDEX, (.int _ _)⟩, ⟨_, PySem.W.mg_of X G gMAX_NAME, (.int _ _)⟩, ⟨ci_Stream_eq, ci_Stream_ob⟩, ⟨bo_Position__sub___sf, a20, i20, ⟨_, bo_Position__sub___nr, .inl rfl⟩, (fun n hn => by rcases (by simpa [binTys, binTysR] using hn : n = "NoneType" ∨ n = "bool" ∨ n = "int" ∨ n = "str" ∨ n = "tuple" ∨ n = "list" ∨ n = "dict") with rfl | rfl | rfl | rfl | rfl | rfl | rfl <;> first | exact ⟨⟨_, bo_Position__sub___lNoneType⟩, ⟨_, bo_Position__sub___rNoneType⟩, bo_Position__sub___sNoneType⟩ | exact ⟨⟨_, bo_Position__sub___lbool⟩, ⟨_, bo_Position__sub___rbool⟩, bo_Position__sub___sbool⟩ | exact ⟨⟨_, bo_Position__sub___lint⟩, ⟨_, bo_Position__sub___rint⟩, bo_Position__sub___sint⟩ | exact ⟨⟨_, bo_Position__sub___lstr⟩, ⟨_, bo_Position__sub___rstr⟩, bo_Position__sub___sstr⟩ | exact ⟨⟨_, bo_Position__sub___ltuple⟩, ⟨_, bo_Position__sub___rtuple⟩, bo_Position__sub___stuple⟩ | exact ⟨⟨_, bo_Position__sub___llist⟩, ⟨_, bo_Position__sub___rlist⟩, bo_Position__sub___slist⟩ | exact ⟨⟨_, bo_Position__sub___ldict⟩, ⟨_, bo_Position__sub___rdict⟩, bo_Position__sub___sdict⟩)⟩⟩
    · cases f
      · exact F0
      · exact F1
      · exact F2
      · exact F3
      · exact F4
      · exact F5
      · exact F6
      · exact F7
      · exact F8
      · exact F9
      · exact F10
      · exact F11
      · exact F12
      · exact F13
      · exact F14
      · exact F15
      · exact F16
      · exact F17
      · exact F18
      · exact F19
      · exact F20
      · exact F21
      · exact F22
      · exact F23
      · exact F24
      · exact F25
      · exact F26
      · exact F27
      · exact F28
    · cases f
      · exact PySem.W.mg_of X G a0
      · exact PySem.W.mg_of X G a1
      · exact PySem.W.mg_of X G a2
      · exact PySem.W.mg_of X G a3
      · exact PySem.W.mg_of X G a4
      · exact PySem.W.mg_of X G a5
      · exact PySem.W.mg_of X G a6
      · exact PySem.W.mg_of X G a7
      · exact PySem.W.mg_of X G a8
      · exact PySem.W.mg_of X G a9
      · exact PySem.W.mg_of X G a10
      · exact PySem.W.mg_of X G a11
      · exact PySem.W.mg_of X G a12
      · exact PySem.W.mg_of X G a13
      · exact PySem.W.mg_of X G a14
      · exact PySem.W.mg_of X G a15
      · exact PySem.W.mg_of X G a16
      · exact PySem.W.mg_of X G a17
      · exact PySem.W.mg_of X G a18
      · cases hf
      · cases hf
      · cases hf
      · cases hf
      · cases hf
      · cases hf
      · cases hf
      · cases hf
      · cases hf
      · cases hf
    · cases f
      · exact Binds.all fun us hl => match us, hl with | [_, _, _], _ => rfl
      · exact Binds.all fun us hl => match us, hl with | [_], _ => rfl
      · exact Binds.all fun us hl => match us, hl with | [_], _ => rfl
      · exact Binds.all fun us hl => match us, hl with | [_], _ => rfl
      · exact Binds.all fun us hl => match us, hl with | [_], _ => rfl
      · exact Binds.all fun us hl => match us, hl with | [_], _ => rfl
      · exact Binds.all fun us hl => match us, hl with | [_, _], _ => rfl
      · exact Binds.all fun us hl => match us, hl with | [_], _ => rfl
      · exact Binds.all fun us hl => match us, hl with | [_, _], _ => rfl
      · exact Binds.all fun us hl => match us, hl with | [_, _], _ => rfl
      · exact Binds.all fun us hl => match us, hl with | [_, _], _ => rfl
      · exact Binds.all fun us hl => match us, hl with | [_], _ => rfl
      · exact Binds.all fun us hl => match us, hl with | [_, _], _ => rfl
      · exact Binds.all fun us hl => match us, hl with | [_, _], _ => rfl
      · exact Binds.all fun us hl => match us, hl with | [_, _, _], _ => rfl
      · exact Binds.all fun us hl => match us, hl with | [_, _, _, _], _ => rfl
      · exact Binds.all fun us hl => match us, hl with | [_, _, _], _ => rfl
      · exact Binds.all fun us hl => match us, hl with | [], _ => rfl
      · exact Binds.all fun us hl => match us, hl with | [_], _ => rfl
      · exact Binds.all fun us hl => match us, hl with | [_, _, _], _ => rfl
      · exact Binds.all fun us hl => match us, hl with | [_, _], _ => rfl
      · exact Binds.all fun us hl => match us, hl with | [_], _ => rfl
      · subst dv22
        exact binds_dfl dl22 rfl fun us hl => match us, hl with | [_, _], _ => ⟨_, rfl, rfl⟩
      · exact Binds.all fun us hl => match us, hl with | [_], _ => rfl
      · exact Binds.all fun us hl => match us, hl with | [_, _], _ => rfl
      · exact Binds.all fun us hl => match us, hl with | [_], _ => rfl
      · exact Binds.all fun us hl => match us, hl with | [_, _], _ => rfl
      · exact Binds.all fun us hl => match us, hl with | [_], _ => rfl
      · exact Binds.all fun us hl => match us, hl with | [_, _], _ => rfl
  exact ⟨ad, fd .law, rfl, rfl, fun s v => .of_eq rfl, fun base _ _ hsm => all_ok T hsm 20 .law⟩
end Ga

open PySem PySem.W PyProof.Rows in
set_option maxRecDepth 100000 in
set_option maxHeartbeats 0 in
theorem PySem.Challenge.cw_forklots_k55_streams_hand_out_positions_holds : PySem.Challenge.rw_forklots_k55_streams_hand_out_positions.Holds := by
  w_on; o_law; k_head; (case hw => w_witness2)
  k_fill
  refine Mi.walkM (l := PySem.Challenge.rw_forklots_k55_streams_hand_out_positions) (F := Ga.callF 20 .law) (k := 2 * 20) (x := "_law_script") rfl (by decide) rfl ⟨rfl, by decide, by decide⟩ (by decide +kernel) (fun w h Y => PySem.W.kIn_of Y) Ga.law_true ?F
  case F =>
    intro w mg fa h KX G hmg
    refine' Ga.all_mk KX G hmg ?aC0 ?aC1 ?a0 ?l0 ?c0 ?k0 ?a1 ?l1 ?c1 ?k1 ?a2 ?l2 ?c2 ?k2 ?a3 ?l3 ?c3 ?k3 ?a4 ?l4 ?c4 ?k4 ?a5 ?l5 ?c5 ?k5 ?a6 ?l6 ?c6 ?k6 ?a7 ?l7 ?c7 ?k7 ?a8 ?l8 ?c8 ?k8 ?a9 ?l9 ?c9 ?k9 ?a10 ?l10 ?c10 ?k10 ?a11 ?l11 ?c11 ?k11 ?a12 ?l12 ?c12 ?k12 ?a13 ?l13 ?c13 ?k13 ?a14 ?l14 ?c14 ?k14 ?a15 ?l15 ?c15 ?k15 ?a16 ?l16 ?c16 ?k16 ?a17 ?l17 ?c17 ?k17 ?a18 ?l18 ?c18 ?k18 ?a19 ?i19 ?l19 ?c19 ?k19 ?a20 ?i20 ?l20 ?c20 ?k20 ?a21 ?i21 ?l21 ?c21 ?k21 ?a22 ?i22 ?l22 ?c22 ?k22 ?dv22 ?dl22 ?dt22 ?a23 ?r23 ?pg23_ ?pt23_ ?l23 ?c23 ?k23 ?a24 ?i24 ?l24 ?c24 ?k24 ?a25 ?i25 ?l25 ?c25 ?k25 ?a26 ?i26 ?l26 ?c26 ?k26 ?a27 ?i27 ?l27 ?c27 ?k27 ?a28 ?i28 ?l28 ?c28 ?k28 ?pg0 ?hd0 ?po0 ?sa0 ?mk0 ?kc0 ?na0_path ?na0_index ?ica0 ?icn0 ?ict0 ?icm0 ?ice0 ?icz0_0 ?icz0_1 ?icz0_2 ?icz0_3 ?icz0_4 ?icz0_5 ?icz0_6 ?icz0_7 ?pg1 ?hd1 ?po1 ?sa1 ?mk1 ?kc1 ?na1_path ?na1_upcoming ?na1_known ?fi1 ?sfi1 ?z_int ?z_isinstance ?z_bool ?z_tuple ?z_len ?z_all ?z_max ?z_repr ?z_range ?z_str ?z_min ?gMAX_STEPS ?gLAST_INDEX ?gMAX_NAME ?ci_Stream_eq ?ci_Stream_ob ?bo_Position__sub___sf ?bo_Position__sub___nr ?bo_Position__sub___lNoneType ?bo_Position__sub___rNoneType ?bo_Position__sub___sNoneType ?bo_Position__sub___lbool ?bo_Position__sub___rbool ?bo_Position__sub___sbool ?bo_Position__sub___lint ?bo_Position__sub___rint ?bo_Position__sub___sint ?bo_Position__sub___lstr ?bo_Position__sub___rstr ?bo_Position__sub___sstr ?bo_Position__sub___ltuple ?bo_Position__sub___rtuple ?bo_Position__sub___stuple ?bo_Position__sub___llist ?bo_Position__sub___rlist ?bo_Position__sub___slist ?bo_Position__sub___ldict ?bo_Position__sub___rdict ?bo_Position__sub___sdict
    (case aC0 => first | k_is | kit_is | k_exc | rfl | kernel_rfl | decide)
    (case aC1 => first | k_is | kit_is | k_exc | rfl | kernel_rfl | decide)
    (case a0 => first | k_is | kit_is | k_exc | rfl | kernel_rfl | decide)
    (case l0 => first | k_is | kit_is | k_exc | rfl | kernel_rfl | decide)
    (case c0 => first | k_is | kit_is | k_exc | rfl | kernel_rfl | decide)
    (case k0 => first | k_is | kit_is | k_exc | rfl | kernel_rfl | decide)
    (case a1 => first | k_is | kit_is | k_exc | rfl | kernel_rfl | decide)
    (case l1 => first | k_is | kit_is | k_exc | rfl | kernel_rfl | decide)
    (case c1 => first | k_is | kit_is | k_exc | rfl | kernel_rfl | decide)
    (case k1 => first | k_is | kit_is | k_exc | rfl | kernel_rfl | decide)
    (case a2 => first | k_is | kit_is | k_exc | rfl | kernel_rfl | decide)
    (case l2 => first | k_is | kit_is | k_exc | rfl | kernel_rfl | decide)
    (case c2 => first | k_is | kit_is | k_exc | rfl | kernel_rfl | decide)
    (case k2 => first | k_is | kit_is | k_exc | rfl | kernel_rfl | decide)
    (case a3 => first | k_is | kit_is | k_exc | rfl | kernel_rfl | decide)
    (case l3 => first | k_is | kit_is | k_exc | rfl | kernel_rfl | decide)
    (case c3 => first | k_is | kit_is | k_exc | rfl | kernel_rfl | decide)
    (case k3 => first | k_is | kit_is | k_exc | rfl | kernel_rfl | decide)
    (case a4 => first | k_is | kit_is | k_exc | rfl | kernel_rfl | decide)
    (case l4 => first | k_is | kit_is | k_exc | rfl | kernel_rfl | decide)
    (case c4 => first | k_is | kit_is | k_exc | rfl | kernel_rfl | decide)
    (case k4 => first | k_is | kit_is | k_exc | rfl | kernel_rfl | decide)
    (case a5 => first | k_is | kit_is | k_exc | rfl | kernel_rfl | decide)
    (case l5 => first | k_is | kit_is | k_exc | rfl | kernel_rfl | decide)
    (case c5 => first | k_is | kit_is | k_exc | rfl | kernel_rfl | decide)
    (case k5 => first | k_is | kit_is | k_exc | rfl | kernel_rfl | decide)
    (case a6 => first | k_is | kit_is | k_exc | rfl | kernel_rfl | decide)
    (case l6 => first | k_is | kit_is | k_exc | rfl | kernel_rfl | decide)
    (case c6 => first | k_is | kit_is | k_exc | rfl | kernel_rfl | decide)
    (case k6 => first | k_is | kit_is | k_exc | rfl | kernel_rfl | decide)
    (case a7 => first | k_is | kit_is | k_exc | rfl | kernel_rfl | decide)
    (case l7 => first | k_is | kit_is | k_exc | rfl | kernel_rfl | decide)
    (case c7 => first | k_is | kit_is | k_exc | rfl | kernel_rfl | decide)
    (case k7 => first | k_is | kit_is | k_exc | rfl | kernel_rfl | decide)
    (case a8 => first | k_is | kit_is | k_exc | rfl | kernel_rfl | decide)
    (case l8 => first | k_is | kit_is | k_exc | rfl | kernel_rfl | decide)
    (case c8 => first | k_is | kit_is | k_exc | rfl | kernel_rfl | decide)
    (case k8 => first | k_is | kit_is | k_exc | rfl | kernel_rfl | decide)
    (case a9 => first | k_is | kit_is | k_exc | rfl | kernel_rfl | decide)
    (case l9 => first | k_is | kit_is | k_exc | rfl | kernel_rfl | decide)
    (case c9 => first | k_is | kit_is | k_exc | rfl | kernel_rfl | decide)
    (case k9 => first | k_is | kit_is | k_exc | rfl | kernel_rfl | decide)
    (case a10 => first | k_is | kit_is | k_exc | rfl | kernel_rfl | decide)
    (case l10 => first | k_is | kit_is | k_exc | rfl | kernel_rfl | decide)
    (case c10 => first | k_is | kit_is | k_exc | rfl | kernel_rfl | decide)
    (case k10 => first | k_is | kit_is | k_exc | rfl | kernel_rfl | decide)
    (case a11 => first | k_is | kit_is | k_exc | rfl | kernel_rfl | decide)
    (case l11 => first | k_is | kit_is | k_exc | rfl | kernel_rfl | decide)
    (case c11 => first | k_is | kit_is | k_exc | rfl | kernel_rfl | decide)
    (case k11 => first | k_is | kit_is | k_exc | rfl | kernel_rfl | decide)
    (case a12 => first | k_is | kit_is | k_exc | rfl | kernel_rfl | decide)
    (case l12 => first | k_is | kit_is | k_exc | rfl | kernel_rfl | decide)
    (case c12 => first | k_is | kit_is | k_exc | rfl | kernel_rfl | decide)
    (case k12 => first | k_is | kit_is | k_exc | rfl | kernel_rfl | decide)
    (case a13 => first | k_is | kit_is | k_exc | rfl | kernel_rfl | decide)
    (case l13 => first | k_is | kit_is | k_exc | rfl | kernel_rfl | decide)
    (case c13 => first | k_is | kit_is | k_exc | rfl | kernel_rfl | decide)
    (case k13 => first | k_is | kit_is | k_exc | rfl | kernel_rfl | decide)
    (case a14 => first | k_is | kit_is | k_exc | rfl | kernel_rfl | decide)
    (case l14 => first | k_is | kit_is | k_exc | rfl | kernel_rfl | decide)
    (case c14 => first | k_is | kit_is | k_exc | rfl | kernel_rfl | decide)
    (case k14 => first | k_is | kit_is | k_exc | rfl | kernel_rfl | decide)
    (case a15 => first | k_is | kit_is | k_exc | rfl | kernel_rfl | decide)
    (case l15 => first | k_is | kit_is | k_exc | rfl | kernel_rfl | decide)
    (case c15 => first | k_is | kit_is | k_exc | rfl | kernel_rfl | decide)
    (case k15 => first | k_is | kit_is | k_exc | rfl | kernel_rfl | decide)
    (case a16 => first | k_is | kit_is | k_exc | rfl | kernel_rfl | decide)
    (case l16 => first | k_is | kit_is | k_exc | rfl | kernel_rfl | decide)
    (case c16 => first | k_is | kit_is | k_exc | rfl | kernel_rfl | decide)
    (case k16 => first | k_is | kit_is | k_exc | rfl | kernel_rfl | decide)
    (case a17 => first | k_is | kit_is | k_exc | rfl | kernel_rfl | decide)
    (case l17 => first | k_is | kit_is | k_exc | rfl | kernel_rfl | decide)
    (case c17 => first | k_is | kit_is | k_exc | rfl | kernel_rfl | decide)
    (case k17 => first | k_is | kit_is | k_exc | rfl | kernel_rfl | decide)
    (case a18 => first | k_is | kit_is | k_exc | rfl | kernel_rfl | decide)
    (case l18 => first | k_is | kit_is | k_exc | rfl | kernel_rfl | decide)
    (case c18 => first | k_is | kit_is | k_exc | rfl | kernel_rfl | decide)
    (case k18 => first | k_is | kit_is | k_exc | rfl | kernel_rfl | decide)
    (case a19 => first | k_is | kit_is | k_exc | rfl | kernel_rfl | decide)
    (case i19 => first | k_is | kit_is | k_exc | rfl | kernel_rfl | decide)
    (case l19 => first | k_is | kit_is | k_exc | rfl | kernel_rfl | decide)
    (case c19 => first | k_is | kit_is | k_exc | rfl | kernel_rfl | decide)
    (case k19 => first | k_is | kit_is | k_exc | rfl | kernel_rfl | decide)
    (case a20 => first | k_is | kit_is | k_exc | rfl | kernel_rfl | decide)
    (case i20 => first | k_is | kit_is | k_exc | rfl | kernel_rfl | decide)
    (case l20 => first | k_is | kit_is | k_exc | rfl | kernel_rfl | decide)
    (case c20 => first | k_is | kit_is | k_exc | rfl | kernel_rfl | decide)
    (case k20 => first | k_is | kit_is | k_exc | rfl | kernel_rfl | decide)
    (case a21 => first | k_is | kit_is | k_exc | rfl | kernel_rfl | decide)
    (case i21 => first | k_is | kit_is | k_exc | rfl | kernel_rfl | decide)
    (case l21 => first | k_is | kit_is | k_exc | rfl | kernel_rfl | decide)
    (case c21 => first | k_is | kit_is | k_exc | rfl | kernel_rfl | decide)
    (case k21 => first | k_is | kit_is | k_exc | rfl | kernel_rfl | decide)
    (case a22 => first | k_is | kit_is | k_exc | rfl | kernel_rfl | decide)
    (case i22 => first | k_is | kit_is | k_exc | rfl | kernel_rfl | decide)
    (case l22 => first | k_is | kit_is | k_exc | rfl | kernel_rfl | decide)
    (case c22 => first | k_is | kit_is | k_exc | rfl | kernel_rfl | decide)
    (case k22 => first | k_is | kit_is | k_exc | rfl | kernel_rfl | decide)
    (case dv22 => first | k_is | kit_is | k_exc | rfl | kernel_rfl | decide)
    (case dl22 => first | k_is | kit_is | k_exc | rfl | kernel_rfl | decide)
    (case dt22 => first | k_is | kit_is | k_exc | rfl | kernel_rfl | decide)
    (case a23 => first | k_is | kit_is | k_exc | rfl | kernel_rfl | decide)
    (case r23 => first | k_is | kit_is | k_exc | rfl | kernel_rfl | decide)
    (case pg23_ => first | k_is | kit_is | k_exc | rfl | kernel_rfl | decide)
    (case pt23_ => first | k_is | kit_is | k_exc | rfl | kernel_rfl | decide)
    (case l23 => first | k_is | kit_is | k_exc | rfl | kernel_rfl | decide)
    (case c23 => first | k_is | kit_is | k_exc | rfl | kernel_rfl | decide)
    (case k23 => first | k_is | kit_is | k_exc | rfl | kernel_rfl | decide)
    (case a24 => first | k_is | kit_is | k_exc | rfl | kernel_rfl | decide)
    (case i24 => first | k_is | kit_is | k_exc | rfl | kernel_rfl | decide)
    (case l24 => first | k_is | kit_is | k_exc | rfl | kernel_rfl | decide)
    (case c24 => first | k_is | kit_is | k_exc | rfl | kernel_rfl | decide)
    (case k24 => first | k_is | kit_is | k_exc | rfl | kernel_rfl | decide)
    (case a25 => first | k_is | kit_is | k_exc | rfl | kernel_rfl | decide)
    (case i25 => first | k_is | kit_is | k_exc | rfl | kernel_rfl | decide)
    (case l25 => first | k_is | kit_is | k_exc | rfl | kernel_rfl | decide)
    (case c25 => first | k_is | kit_is | k_exc | rfl | kernel_rfl | decide)
    (case k25 => first | k_is | kit_is | k_exc | rfl | kernel_rfl | decide)
    (case a26 => first | k_is | kit_is | k_exc | rfl | kernel_rfl | decide)
    (case i26 => first | k_is | kit_is | k_exc | rfl | kernel_rfl | decide)
    (case l26 => first | k_is | kit_is | k_exc | rfl | kernel_rfl | decide)
    (case c26 => first | k_is | kit_is | k_exc | rfl | kernel_rfl | decide)
    (case k26 => first | k_is | kit_is | k_exc | rfl | kernel_rfl | decide)
    (case a27 => first | k_is | kit_is | k_exc | rfl | kernel_rfl | decide)
    (case i27 => first | k_is | kit_is | k_exc | rfl | kernel_rfl | decide)
    (case l27 => first | k_is | kit_is | k_exc | rfl | kernel_rfl | decide)
    (case c27 => first | k_is | kit_is | k_exc | rfl | kernel_rfl | decide)
    (case k27 => first | k_is | kit_is | k_exc | rfl | kernel_rfl | decide)
    (case a28 => first | k_is | kit_is | k_exc | rfl | kernel_rfl | decide)
    (case i28 => first | k_is | kit_is | k_exc | rfl | kernel_rfl | decide)
    (case l28 => first | k_is | kit_is | k_exc | rfl | kernel_rfl | decide)
    (case c28 => first | k_is | kit_is | k_exc | rfl | kernel_rfl | decide)
    (case k28 => first | k_is | kit_is | k_exc | rfl | kernel_rfl | decide)
    (case pg0 => first | k_is | kit_is | k_exc | rfl | kernel_rfl | decide)
    (case hd0 => first | k_is | kit_is | k_exc | rfl | kernel_rfl | decide)
    (case po0 => first | k_is | kit_is | k_exc | rfl | kernel_rfl | decide)
    (case sa0 => first | k_is | kit_is | k_exc | rfl | kernel_rfl | decide)
    (case mk0 => first | k_is | kit_is | k_exc | rfl | kernel_rfl | decide)
    (case kc0 => first | k_is | kit_is | k_exc | rfl | kernel_rfl | decide)
    (case na0_path => first | k_is | kit_is | k_exc | rfl | kernel_rfl | decide)
    (case na0_index => first | k_is | kit_is | k_exc | rfl | kernel_rfl | decide)
    (case ica0 => first | k_is | kit_is | k_exc | rfl | kernel_rfl | decide)
    (case icn0 => first | k_is | kit_is | k_exc | rfl | kernel_rfl | decide)
    (case ict0 => first | k_is | kit_is | k_exc | rfl | kernel_rfl | decide)
    (case icm0 => first | k_is | kit_is | k_exc | rfl | kernel_rfl | decide)
    (case ice0 => first | k_is | kit_is | k_exc | rfl | kernel_rfl | decide)
    (case icz0_0 => first | k_is | kit_is | k_exc | rfl | kernel_rfl | decide)
    (case icz0_1 => first | k_is | kit_is | k_exc | rfl | kernel_rfl | decide)
    (case icz0_2 => first | k_is | kit_is | k_exc | rfl | kernel_rfl | decide)
    (case icz0_3 => first | k_is | kit_is | k_exc | rfl | kernel_rfl | decide)
    (case icz0_4 => first | k_is | kit_is | k_exc | rfl | kernel_rfl | decide)
    (case icz0_5 => first | k_is | kit_is | k_exc | rfl | kernel_rfl | decide)
    (case icz0_6 => first | k_is | kit_is | k_exc | rfl | kernel_rfl | decide)
    (case icz0_7 => first | k_is | kit_is | k_exc | rfl | kernel_rfl | decide)
    (case pg1 => first | k_is | kit_is | k_exc | rfl | kernel_rfl | decide)
    (case hd1 => first | k_is | kit_is | k_exc | rfl | kernel_rfl | decide)
    (case po1 => first | k_is | kit_is | k_exc | rfl | kernel_rfl | decide)
    (case sa1 => first | k_is | kit_is | k_exc | rfl | kernel_rfl | decide)
    (case mk1 => first | k_is | kit_is | k_exc | rfl | kernel_rfl | decide)
    (case kc1 => first | k_is | kit_is | k_exc | rfl | kernel_rfl | decide)
    (case na1_path => first | k_is | kit_is | k_exc | rfl | kernel_rfl | decide)
    (case na1_upcoming => first | k_is | kit_is | k_exc | rfl | kernel_rfl | decide)
    (case na1_known => first | k_is | kit_is | k_exc | rfl | kernel_rfl | decide)
    (case fi1 => first | k_is | kit_is | k_exc | rfl | kernel_rfl | decide)
    (case sfi1 => first | k_is | kit_is | k_exc | rfl | kernel_rfl | decide)
    (case z_int => first | k_is | kit_is | k_exc | rfl | kernel_rfl | decide)
    (case z_isinstance => first | k_is | kit_is | k_exc | rfl | kernel_rfl | decide)
    (case z_bool => first | k_is | kit_is | k_exc | rfl | kernel_rfl | decide)
    (case z_tuple => first | k_is | kit_is | k_exc | rfl | kernel_rfl | decide)
    (case z_len => first | k_is | kit_is | k_exc | rfl | kernel_rfl | decide)
    (case z_all => first | k_is | kit_is | k_exc | rfl | kernel_rfl | decide)
    (case z_max => first | k_is | kit_is | k_exc | rfl | kernel_rfl | decide)
    (case z_repr => first | k_is | kit_is | k_exc | rfl | kernel_rfl | decide)
    (case z_range => first | k_is | kit_is | k_exc | rfl | kernel_rfl | decide)
    (case z_str => first | k_is | kit_is | k_exc | rfl | kernel_rfl | decide)
    (case z_min => first | k_is | kit_is | k_exc | rfl | kernel_rfl | decide)
    (case gMAX_STEPS => first | k_is | kit_is | k_exc | rfl | kernel_rfl | decide)
    (case gLAST_INDEX => first | k_is | kit_is | k_exc | rfl | kernel_rfl | decide)
    (case gMAX_NAME => first | k_is | kit_is | k_exc | rfl | kernel_rfl | decide)
    (case ci_Stream_eq => first | k_is | kit_is | k_exc | rfl | kernel_rfl | decide)
    (case ci_Stream_ob => first | k_is | kit_is | k_exc | rfl | kernel_rfl | decide)
    (case bo_Position__sub___sf => first | k_is | kit_is | k_exc | rfl | kernel_rfl | decide)
    (case bo_Position__sub___nr => first | k_is | kit_is | k_exc | rfl | kernel_rfl | decide)
    (case bo_Position__sub___lNoneType => first | k_is | kit_is | k_exc | rfl | kernel_rfl | decide)
    (case bo_Position__sub___rNoneType => first | k_is | kit_is | k_exc | rfl | kernel_rfl | decide)
    (case bo_Position__sub___sNoneType => first | k_is | kit_is | k_exc | rfl | kernel_rfl | decide)
    (case bo_Position__sub___lbool => first | k_is | kit_is | k_exc | rfl | kernel_rfl | decide)
    (case bo_Position__sub___rbool => first | k_is | kit_is | k_exc | rfl | kernel_rfl | decide)
    (case bo_Position__sub___sbool => first | k_is | kit_is | k_exc | rfl | kernel_rfl | decide)
    (case bo_Position__sub___lint => first | k_is | kit_is | k_exc | rfl | kernel_rfl | decide)
    (case bo_Position__sub___rint => first | k_is | kit_is | k_exc | rfl | kernel_rfl | decide)
    (case bo_Position__sub___sint => first | k_is | kit_is | k_exc | rfl | kernel_rfl | decide)
    (case bo_Position__sub___lstr => first | k_is | kit_is | k_exc | rfl | kernel_rfl | decide)
    (case bo_Position__sub___rstr => first | k_is | kit_is | k_exc | rfl | kernel_rfl | decide)
    (case bo_Position__sub___sstr => first | k_is | kit_is | k_exc | rfl | kernel_rfl | decide)
    (case bo_Position__sub___ltuple => first | k_is | kit_is | k_exc | rfl | kernel_rfl | decide)
    (case bo_Position__sub___rtuple => first | k_is | kit_is | k_exc | rfl | kernel_rfl | decide)
    (case bo_Position__sub___stuple => first | k_is | kit_is | k_exc | rfl | kernel_rfl | decide)
    (case bo_Position__sub___llist => first | k_is | kit_is | k_exc | rfl | kernel_rfl | decide)
    (case bo_Position__sub___rlist => first | k_is | kit_is | k_exc | rfl | kernel_rfl | decide)
    (case bo_Position__sub___slist => first | k_is | kit_is | k_exc | rfl | kernel_rfl | decide)
    (case bo_Position__sub___ldict => first | k_is | kit_is | k_exc | rfl | kernel_rfl | decide)
    (case bo_Position__sub___rdict => first | k_is | kit_is | k_exc | rfl | kernel_rfl | decide)
    (case bo_Position__sub___sdict => first | k_is | kit_is | k_exc | rfl | kernel_rfl | decide)
#print axioms PySem.Challenge.cw_forklots_k55_streams_hand_out_positions_holds
