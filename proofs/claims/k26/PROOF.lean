import PyProof.Rows.All
import Wide.All
import OpenK.AllK
import Wide.FinOn
import HandS.Base
import HandS.Call
import HandS.List
import HandS.Comp
import HandS.Ends
import HandS.Dict
import HandS.Iter
import HandS.Text
import HandS.Words
import HandS.WordsList
import HandS.WordsDict
import HandS.Lambda
import KE.KeyNested
import KE.KDictCopyH
import HandS.WordsExc
import HandS.TryOnly
import HandS.ExcOwn
import HandS.Flow
import HandS.Star
import HandS.TupAny
import HandS.Wide
import HandS.Deep
import HandS.TupMul
import HandS.TupLe
import HandS.IsInst
import HandS.More
import HandS.NoneIn
import HandS.Style
import HandS.Bytes
import HandS.Zip
import KE.GoesEnumKw
import HandS.TupSets
import KE.SortData
import HandS.OwnEq
import HandS.SlotsOwn
import HandS.FStr
import HandS.ClsMeth
import HandS.BytesMake
import HandS.Codes
import KE.RegKIsAll
import HandS.ExcIs
import KE.KExcIs
import HandS.HotCalls
import HandS.EndTab
import HandS.EndOwn
import HandS.Property
import HandS.Defaults
import KE.KOpsOwn
import Flt.Ops
import PyProof.StrReplace2
import PyProof.FactsAll.bool_1
import PyProof.FactsAll.bool_2
import KE.LtData
import KE.BytesMul
import KE.KBytesStep
import PyProof.CollectStr
import KE.KDictKeyed
import KE.KDictDisplayH
import HandS.Conv
import HandS.SetBool
import HandS.Strs
import KE.KSuper
import KE.RegKSuper
import HandS.ExcValue
import HandS.ExcSuper
import HandS.ExcInit
import KE.KExcInit
import KE.KExcLine
import HandS.ExcField
import PySem.Challenge.RW_forklots_k26_exceptions_made
set_option Elab.async false
set_option maxRecDepth 100000
set_option maxHeartbeats 4000000
set_option linter.unusedVariables false
set_option linter.unusedSimpArgs false
set_option linter.all false
namespace Mi
open PySem L2
inductive T where
  | non
  | bl (b : Bool)
  | int (i : Int)
  | str (s : Str)
  | byt (b : Array UInt8)
  | ty (n : String)
  | tup (ts : List T)
  | lst (ts : List T)
  | frz (ts : List T)
  | dct (ks : List Key) (ts : List T)
  | ref (i : Nat)
  | adr (i : Nat)
  | ptp (ts : List T)

inductive O where
  | lst (ts : List T)
  | dct (kvs : List (Key × T))
  | ins (c : Nat) (fs : List (Str × T))
  | dtt (kvs : List (List Key × T))
  | dtn (kvs : List (NestedKey × T))
  | exn (c : Nat) (fs : List (Str × T))

abbrev Sto := List O
abbrev Sl := List (Option T)

structure Exn where
  c : Nat
  fs : List (Str × T)

inductive R (α : Type) where
  | ok (a : α) (st : Sto)
  | exc (e : Exn) (st : Sto)
  | bad

namespace R
def bind {α β : Type} (r : R α) (f : α → Sto → R β) : R β :=
  match r with
  | .ok a st => f a st
  | .exc e st => .exc e st
  | .bad => .bad
@[simp] theorem bind_ok {α β : Type} (a : α) (st : Sto) (f : α → Sto → R β) : (R.ok a st).bind f = f a st := rfl
@[simp] theorem bind_exc {α β : Type} (e : Exn) (st : Sto) (f : α → Sto → R β) : (R.exc e st : R α).bind f = .exc e st := rfl
@[simp] theorem bind_bad {α β : Type} (f : α → Sto → R β) : (R.bad : R α).bind f = .bad := rfl
end R
structure Ad where
  fn : Nat → Addr
  hid : List Addr
  tabs : List (Addr × Str)
def Ad.hide (ad : Ad) (l : List Addr) : Ad := ⟨ad.fn, l, ad.tabs⟩
def NT (o : HO) : Prop := ∀ ps, o ≠ .tbl ps
def N0 (H : Hp) (a : Addr) : Prop := ∀ o, H a = some o → ∃ ps, o = .tbl ps
theorem n0_none {H : Hp} {a : Addr} (h : H a = none) : N0 H a := fun o e => by rw [h] at e; cases e
theorem N0.no {H : Hp} {a : Addr} {o : HO} (n : N0 H a) (h : H a = some o) (t : NT o) : False := by
  obtain ⟨ps, e⟩ := n o h
  exact t ps e
theorem tabs_upd {T : List (Addr × Str)} {H : Hp} {p : Addr} {u : HO} (t : LamX.Tabs T H) (h1 : ∀ ps, H p ≠ some (.tbl ps)) (h2 : ∀ q, H p ≠ some (LamX.CodeO p q)) : LamX.Tabs T (upd H p u) := fun q hq => by
  obtain ⟨ps, e1, e2, e3⟩ := t q hq
  refine ⟨ps, by rw [upd_ne (fun z => h1 ps (by rw [← z]; exact e1))]; exact e1, e2, fun pos cv hc => ?_⟩
  obtain ⟨c, z1, z2⟩ := e3 pos cv hc
  exact ⟨c, z1, by rw [upd_ne (fun z => h2 _ (by rw [← z]; exact z2))]; exact z2⟩

abbrev noH : Hp := fun _ => none
def TupAt (K : PySem.W.Frag) (as : List Addr) (H : Hp) (a : Addr) (xs : List V) : Prop :=
  ((a ∈ as → False) ∧ Rd H a (.tup xs)) ∨ SqT K noH a xs
def LstAt (hid as : List Addr) (H : Hp) (a : Addr) (xs : List V) : Prop := ((a ∈ as → False) ∧ (a ∈ hid → False)) ∧ H a = some (.lst xs)
def FrzAt (K : PySem.W.Frag) (as : List Addr) (H : Hp) (a : Addr) (xs : List V) : Prop :=
  ((a ∈ as → False) ∧ ∃ o, H a = some (.frz o (.lst xs))) ∨ SqL K noH a xs

def PtpAt (as : List Addr) (H : Hp) (a : Addr) (xs : List V) : Prop := (a ∈ as → False) ∧ ∃ ob : Obj, H a = some (.frz ob (.tup xs)) ∧ ob.cls = .type "tuple" ∧ ob.dict = none

mutual
/-- v stands for the mirror value, over the abstract heap H with the store's addresses as -/
inductive Rep (K : PySem.W.Frag) (ad : Ad) (as : List Addr) (H : Hp) : V → T → Prop
  | non : Rep K ad as H .non .non
  | bl (b : Bool) : Rep K ad as H (.bl b) (.bl b)
  | int (i : Int) : Rep K ad as H (.int i) (.int i)
  | str (s : Str) : Rep K ad as H (.str s) (.str s)
  | byt (b : Array UInt8) : Rep K ad as H (.byt b) (.byt b)
  | ty (n : String) : Rep K ad as H (.ty n) (.ty n)
  | tup {a : Addr} {xs : List V} {ts : List T} : TupAt K as H a xs → Reps K ad as H xs ts → Rep K ad as H (.ref a) (.tup ts)
  | lst {a : Addr} {xs : List V} {ts : List T} : LstAt ad.hid as H a xs → Reps K ad as H xs ts → Rep K ad as H (.ref a) (.lst ts)
  | frz {a : Addr} {xs : List V} {ts : List T} : FrzAt K as H a xs → Reps K ad as H xs ts → Rep K ad as H (.ref a) (.frz ts)
  | dct {a : Addr} {kvs : List (Key × V)} {ks : List Key} {ts : List T} : ((a ∈ as → False) ∧ (a ∈ ad.hid → False)) → H a = some (.dK kvs) → kvs.map (·.1) = ks → Reps K ad as H (kvs.map (·.2)) ts → Rep K ad as H (.ref a) (.dct ks ts)
  | ref {i : Nat} {a : Addr} : as[i]? = some a → Rep K ad as H (.ref a) (.ref i)
  | adr (i : Nat) : Rep K ad as H (.ref (ad.fn i)) (.adr i)
  | ptp {a : Addr} {xs : List V} {ts : List T} : PtpAt as H a xs → Reps K ad as H xs ts → Rep K ad as H (.ref a) (.ptp ts)
inductive Reps (K : PySem.W.Frag) (ad : Ad) (as : List Addr) (H : Hp) : List V → List T → Prop
  | nil : Reps K ad as H [] []
  | cons {v : V} {vs : List V} {t : T} {ts : List T} : Rep K ad as H v t → Reps K ad as H vs ts → Reps K ad as H (v :: vs) (t :: ts)
end
inductive RepF (K : PySem.W.Frag) (ad : Ad) (as : List Addr) (H : Hp) : List (Str × V) → List (Str × T) → Prop
  | nil : RepF K ad as H [] []
  | cons {f : Str} {v : V} {vs : List (Str × V)} {t : T} {ts : List (Str × T)} : Rep K ad as H v t → RepF K ad as H vs ts → RepF K ad as H ((f, v) :: vs) ((f, t) :: ts)

mutual
/-- a key as a value -/
def kT : NestedKey → T
  | .none => .non
  | .num i => .int i
  | .text x => .str x
  | .tup ks => .tup (kTs ks)
def kTs : List NestedKey → List T
  | [] => []
  | k :: ks => kT k :: kTs ks
end
mutual
/-- no text in it: its hash is the same in every world -/
def noTx : NestedKey → Bool
  | .none => true
  | .num _ => true
  | .text _ => false
  | .tup ks => noTxs ks
def noTxs : List NestedKey → Bool
  | [] => true
  | k :: ks => noTx k && noTxs ks
end
def nkOk (k : NestedKey) : Bool := noTx k && decide (k.depth ≤ 8)
def DNp (a : Addr) (xs : List (NestedKey × Addr × V)) (h : Heap) : Prop :=
  ∃ (o : Obj) (es : Array DictEntry) (ep : Nat), h.get? a = some o ∧ o.ExactDict ∧ o.data = .dict es ep ∧ Paired (fun (p : NestedKey × Addr × V) (e : DictEntry) => e.key = .ref p.2.1 ∧ RelV p.2.2 e.val ∧ ∀ w, e.hash = p.1.hash w) xs es.toList
def DN (a : Addr) (xs : List (NestedKey × Addr × V)) : HO := .ext (DNp a xs)
def ExVp (C a : Addr) (d : Option Addr) (h : Heap) : Prop := ∃ (oe : Obj) (vs : Array Value), h.get? a = some oe ∧ oe.cls = .ref C ∧ oe.dict = d ∧ oe.data = .fields vs
def ExV (C a : Addr) (d : Option Addr) : HO := .ext (ExVp C a d)
def ORep (K : PySem.W.Frag) (ad : Ad) (as : List Addr) (H : Hp) (a : Addr) : O → Prop
  | .lst ts => ∃ xs, H a = some (.lst xs) ∧ Reps K ad as H xs ts
  | .dct kvs => ∃ xs : List (Key × V), H a = some (.dK xs) ∧ xs.map (·.1) = kvs.map (·.1) ∧ Reps K ad as H (xs.map (·.2)) (kvs.map (·.2))
  | .dtt kvs => ∃ xs : List (List Key × V), H a = some (.dT xs) ∧ xs.map (·.1) = kvs.map (·.1) ∧ Reps K ad as H (xs.map (·.2)) (kvs.map (·.2))
  | .dtn kvs => ∃ xs : List (NestedKey × Addr × V), H a = some (DN a xs) ∧ ((a == sysModules) = false ∧ kvs.length ≤ sizeLine ∧ (kvs.map (·.1)).Nodup ∧ ∀ kv ∈ kvs, nkOk kv.1 = true) ∧ xs.map (·.1) = kvs.map (·.1) ∧ Reps K ad as H (xs.map (·.2.2)) (kvs.map (·.2)) ∧ Reps K ad as H (xs.map fun x => .ref x.2.1) (kvs.map fun kv => kT kv.1)
  | .ins c fs => ∃ dx gs, H a = some (.ins (ad.fn c) dx gs) ∧ H dx = some (.own a) ∧ (dx ∈ as → False) ∧ RepF K ad as H gs fs
  | .exn c fs => ∃ d, H a = some (ExV (ad.fn c) a d) ∧ ((d = none ∧ fs = []) ∨ ∃ dx gs, d = some dx ∧ H dx = some (.xd gs) ∧ (dx ∈ as → False) ∧ RepF K ad as H gs fs)

structure Ab (K : PySem.W.Frag) (ad : Ad) (as : List Addr) (st : Sto) (H : Hp) : Prop where
  len : as.length = st.length
  nd : as.Nodup
  obj : ∀ (i : Nat) (a : Addr) (o : O), as[i]? = some a → st[i]? = some o → ORep K ad as H a o
  hid : ∀ a ∈ ad.hid, (a ∈ as → False) ∧ ∃ u, H a = some u ∧ NT u
  tabs : LamX.Tabs ad.tabs H

structure Ext (as : List Addr) (H : Hp) (as' : List Addr) (H' : Hp) : Prop where
  more : ∃ l, as' = as ++ l ∧ ∀ a ∈ l, N0 H a
  keep : ∀ a o, (a ∈ as → False) → H a = some o → NT o → H' a = some o
  dom : ∀ a, N0 H' a → N0 H a

section
variable {K : PySem.W.Frag} {ad : Ad} {as as' as2 : List Addr} {H H' H2 : Hp} {st st' : Sto}
theorem Ext.refl : Ext as H as H := ⟨⟨[], by simp, by simp⟩, fun _ _ _ h _ => h, fun _ h => h⟩
theorem Ext.trans (a : Ext as H as' H') (b : Ext as' H' as2 H2) : Ext as H as2 H2 := by
  obtain ⟨⟨l, rfl, hl⟩, k1, d1⟩ := a
  obtain ⟨⟨m, rfl, hm⟩, k2, d2⟩ := b
  refine ⟨⟨l ++ m, by simp, fun a ha => ?_⟩, fun a o na h nt => ?_, fun a h => d1 a (d2 a h)⟩
  · rcases List.mem_append.mp ha with h | h
    · exact hl a h
    · exact d1 a (hm a h)
  · refine k2 a o (fun h' => ?_) (k1 a o na h nt) nt
    rcases List.mem_append.mp h' with h' | h'
    · exact na h'
    · exact (hl a h').no h nt
theorem Ext.nin (e : Ext as H as' H') {a : Addr} {o : HO} (na : a ∈ as → False) (h : H a = some o) (nt : NT o := by intro _ z; cases z) : a ∈ as' → False := by
  obtain ⟨⟨l, rfl, hl⟩, _, _⟩ := e
  intro h'
  rcases List.mem_append.mp h' with h' | h'
  · exact na h'
  · exact (hl a h').no h nt
theorem Ext.kp (e : Ext as H as' H') {a : Addr} {o : HO} (na : a ∈ as → False) (h : H a = some o) (nt : NT o := by intro _ z; cases z) : H' a = some o := e.keep a o na h nt
theorem Ext.get (e : Ext as H as' H') {i : Nat} {a : Addr} (h : as[i]? = some a) : as'[i]? = some a := by
  obtain ⟨⟨l, rfl, hl⟩, _, _⟩ := e
  rw [List.getElem?_append_left (List.getElem?_eq_some_iff.mp h).1]
  exact h

theorem TupAt.sq {a : Addr} {xs : List V} (h : TupAt K as H a xs) : SqT K H a xs := by
  rcases h with h | h
  · exact .inl h.2
  · rcases h with (h | ⟨o, h⟩) | h
    · cases h
    · cases h
    · exact .inr h
theorem FrzAt.sq {a : Addr} {xs : List V} (h : FrzAt K as H a xs) : SqL K H a xs := by
  rcases h with ⟨_, o, h⟩ | h
  · exact .inl (.inr ⟨o, h⟩)
  · rcases h with (h | ⟨o, h⟩) | h
    · cases h
    · cases h
    · exact .inr h
theorem TupAt.ext {a : Addr} {xs : List V} (h : TupAt K as H a xs) (e : Ext as H as' H') : TupAt K as' H' a xs := by
  rcases h with ⟨n, h⟩ | h
  · rcases h with h | ⟨o, h⟩
    · exact .inl ⟨e.nin n h, .inl (e.kp n h)⟩
    · exact .inl ⟨e.nin n h, .inr ⟨o, e.kp n h⟩⟩
  · exact .inr h
theorem LstAt.ext {hid : List Addr} {a : Addr} {xs : List V} (h : LstAt hid as H a xs) (e : Ext as H as' H') : LstAt hid as' H' a xs := ⟨⟨e.nin h.1.1 h.2, h.1.2⟩, e.kp h.1.1 h.2⟩
theorem FrzAt.ext {a : Addr} {xs : List V} (h : FrzAt K as H a xs) (e : Ext as H as' H') : FrzAt K as' H' a xs := by
  rcases h with ⟨n, o, h⟩ | h
  · exact .inl ⟨e.nin n h, o, e.kp n h⟩
  · exact .inr h
theorem PtpAt.ext {a : Addr} {xs : List V} (h : PtpAt as H a xs) (e : Ext as H as' H') : PtpAt as' H' a xs := by
  obtain ⟨n, ob, h, hc, hd⟩ := h
  exact ⟨e.nin n h, ob, e.kp n h, hc, hd⟩
mutual
theorem Rep.ext (e : Ext as H as' H') : ∀ {v : V} {t : T}, Rep K ad as H v t → Rep K ad as' H' v t
  | _, _, .non => .non
  | _, _, .bl b => .bl b
  | _, _, .int b => .int b
  | _, _, .str b => .str b
  | _, _, .byt b => .byt b
  | _, _, .ty b => .ty b
  | _, _, .tup h r => .tup (h.ext e) (Reps.ext e r)
  | _, _, .lst h r => .lst (h.ext e) (Reps.ext e r)
  | _, _, .frz h r => .frz (h.ext e) (Reps.ext e r)
  | _, _, .dct n h k r => .dct ⟨e.nin n.1 h, n.2⟩ (e.kp n.1 h) k (Reps.ext e r)
  | _, _, .ref h => .ref (e.get h)
  | _, _, .adr i => .adr i
  | _, _, .ptp h r => .ptp (h.ext e) (Reps.ext e r)
theorem Reps.ext (e : Ext as H as' H') : ∀ {v : List V} {t : List T}, Reps K ad as H v t → Reps K ad as' H' v t
  | _, _, .nil => .nil
  | _, _, .cons r s => .cons (Rep.ext e r) (Reps.ext e s)
end
theorem RepF.ext (e : Ext as H as' H') : ∀ {v : List (Str × V)} {t : List (Str × T)}, RepF K ad as H v t → RepF K ad as' H' v t
  | _, _, .nil => .nil
  | _, _, .cons r s => .cons (r.ext e) (RepF.ext e s)
theorem Reps.length : ∀ {v : List V} {t : List T}, Reps K ad as H v t → v.length = t.length
  | _, _, .nil => rfl
  | _, _, .cons _ s => congrArg (· + 1) (Reps.length s)
theorem Reps.append : ∀ {v w : List V} {t u : List T}, Reps K ad as H v t → Reps K ad as H w u → Reps K ad as H (v ++ w) (t ++ u)
  | _, _, _, _, .nil, s => s
  | _, _, _, _, .cons r s, q => .cons r (Reps.append s q)
theorem Reps.get : ∀ {v : List V} {t : List T} {i : Nat} {x : T}, Reps K ad as H v t → t[i]? = some x → ∃ y, v[i]? = some y ∧ Rep K ad as H y x
  | _, _, _, _, .nil, h => by simp at h
  | _, _, 0, _, .cons r s, h => by simp at h; subst h; exact ⟨_, rfl, r⟩
  | _, _, i + 1, _, .cons r s, h => by
    obtain ⟨y, h1, h2⟩ := Reps.get (i := i) s (by simpa using h)
    exact ⟨y, by simpa using h1, h2⟩
theorem Reps.take : ∀ {v : List V} {t : List T} (n : Nat), Reps K ad as H v t → Reps K ad as H (v.take n) (t.take n)
  | _, _, 0, _ => by simp; exact .nil
  | _, _, _ + 1, .nil => .nil
  | _, _, n + 1, .cons r s => .cons r (Reps.take n s)
theorem Reps.drop : ∀ {v : List V} {t : List T} (n : Nat), Reps K ad as H v t → Reps K ad as H (v.drop n) (t.drop n)
  | _, _, 0, r => r
  | _, _, _ + 1, .nil => .nil
  | _, _, n + 1, .cons _ s => Reps.drop n s
theorem Reps.set {x : V} {y : T} (r : Rep K ad as H x y) : ∀ {v : List V} {t : List T} (n : Nat), Reps K ad as H v t → Reps K ad as H (v.set n x) (t.set n y)
  | _, _, _, .nil => .nil
  | _, _, 0, .cons _ s => .cons r s
  | _, _, n + 1, .cons q s => .cons q (Reps.set r n s)
theorem Reps.reverse : ∀ {v : List V} {t : List T}, Reps K ad as H v t → Reps K ad as H v.reverse t.reverse
  | _, _, .nil => .nil
  | _, _, .cons r s => by
    rw [List.reverse_cons, List.reverse_cons]
    exact Reps.append (Reps.reverse s) (.cons r .nil)
theorem Ext.fresh {p : Addr} {o : HO} (h : H p = none) : Ext as H as (upd H p o) := by
  refine ⟨⟨[], by simp, by simp⟩, fun a u _ q _ => ?_, fun a q => ?_⟩
  · rw [upd_ne (ne_of_none q h)]; exact q
  · by_cases e : a = p
    · subst e; exact n0_none h
    · intro o z
      exact q o (by rw [upd_ne e]; exact z)
theorem ORep.ext (e : Ext as H as' H') {a : Addr} {o : O} (h : ORep K ad as H a o) (hk : ∀ u, H a = some u → H' a = some u) : ORep K ad as' H' a o := by
  cases o with
  | lst ts =>
    obtain ⟨xs, h1, h2⟩ := h
    exact ⟨xs, hk _ h1, h2.ext e⟩
  | dct kvs =>
    obtain ⟨xs, h1, h2, h3⟩ := h
    exact ⟨xs, hk _ h1, h2, h3.ext e⟩
  | dtt kvs =>
    obtain ⟨xs, h1, h2, h3⟩ := h
    exact ⟨xs, hk _ h1, h2, h3.ext e⟩
  | dtn kvs =>
    obtain ⟨xs, h1, h2, h3, h4, h5⟩ := h
    exact ⟨xs, hk _ h1, h2, h3, h4.ext e, h5.ext e⟩
  | ins c fs =>
    obtain ⟨dx, gs, h1, h2, h3, h4⟩ := h
    exact ⟨dx, gs, hk _ h1, e.kp h3 h2, e.nin h3 h2, h4.ext e⟩
  | exn c fs =>
    obtain ⟨d, h1, h | ⟨dx, gs, hd, h2, h3, h4⟩⟩ := h
    · exact ⟨d, hk _ h1, .inl h⟩
    · exact ⟨d, hk _ h1, .inr ⟨dx, gs, hd, e.kp h3 h2, e.nin h3 h2, h4.ext e⟩⟩
theorem Ab.get (A : Ab K ad as st H) {i : Nat} {o : O} (h : st[i]? = some o) : ∃ a, as[i]? = some a ∧ ORep K ad as H a o := by
  have hi : i < as.length := by
    have := (List.getElem?_eq_some_iff.mp h).1
    have := A.len
    omega
  exact ⟨as[i], by simp [hi], A.obj i as[i] o (by simp [hi]) h⟩
theorem ORep.is {a : Addr} {o : O} (h : ORep K ad as H a o) : ∃ u, H a = some u := by
  cases o with
  | lst ts => obtain ⟨xs, h, _⟩ := h; exact ⟨_, h⟩
  | dct ts => obtain ⟨xs, h, _⟩ := h; exact ⟨_, h⟩
  | dtt ts => obtain ⟨xs, h, _⟩ := h; exact ⟨_, h⟩
  | dtn ts => obtain ⟨xs, h, _⟩ := h; exact ⟨_, h⟩
  | ins c fs => obtain ⟨_, _, h, _⟩ := h; exact ⟨_, h⟩
  | exn c fs => obtain ⟨_, h, _⟩ := h; exact ⟨_, h⟩
theorem Ab.mem (A : Ab K ad as st H) {a : Addr} (h : a ∈ as) : ∃ u, H a = some u := by
  obtain ⟨i, hi, e⟩ := List.getElem_of_mem h
  have hs : i < st.length := by have := A.len; omega
  exact (A.obj i a st[i] (by rw [List.getElem?_eq_getElem hi, e]) (by simp [hs])).is
theorem Ab.nin (A : Ab K ad as st H) {p : Addr} (h : H p = none) : p ∈ as → False := fun q => by
  obtain ⟨u, e⟩ := A.mem q
  rw [h] at e; cases e
theorem Ab.fresh (A : Ab K ad as st H) {p : Addr} {u : HO} (h : H p = none) : Ab K ad as st (upd H p u) := by
  refine ⟨A.len, A.nd, fun i a o h1 h2 => (A.obj i a o h1 h2).ext (Ext.fresh h) fun v q => ?_, fun a ha => ?_, ?_⟩
  · rw [upd_ne (ne_of_none q h)]; exact q
  · obtain ⟨n, u, q, nt⟩ := A.hid a ha
    exact ⟨n, u, by rw [upd_ne (ne_of_none q h)]; exact q, nt⟩
  · exact tabs_upd A.tabs (fun ps z => by rw [h] at z; cases z) (fun ps z => by rw [h] at z; cases z)
theorem Ab.newO (A : Ab K ad as st H) {p : Addr} {u : HO} {o : O} (h : H p = none) (r : Ext as H (as ++ [p]) (upd H p u) → ORep K ad (as ++ [p]) (upd H p u) p o) :
    Ab K ad (as ++ [p]) (st ++ [o]) (upd H p u) ∧ Ext as H (as ++ [p]) (upd H p u) ∧ Rep K ad (as ++ [p]) (upd H p u) (.ref p) (.ref st.length) := by
  have e : Ext as H (as ++ [p]) (upd H p u) := by
    refine ⟨⟨[p], rfl, fun a ha => ?_⟩, (Ext.fresh (as := as) h).keep, (Ext.fresh (as := as) h).dom⟩
    simp at ha; subst ha; exact n0_none h
  refine ⟨⟨by simp [A.len], ?_, fun i a o h1 h2 => ?_, fun a ha => ?_, tabs_upd A.tabs (fun ps z => by rw [h] at z; cases z) (fun ps z => by rw [h] at z; cases z)⟩, e, .ref ?_⟩
  · rw [List.nodup_append]
    exact ⟨A.nd, by simp, fun a ha b hb q => by simp at hb; subst hb; subst q; exact A.nin h ha⟩
  · by_cases hi : i < st.length
    · rw [List.getElem?_append_left (by rw [A.len]; exact hi)] at h1
      rw [List.getElem?_append_left hi] at h2
      refine (A.obj i a o h1 h2).ext e fun v q => ?_
      rw [upd_ne (ne_of_none q h)]; exact q
    · have hi' : i = st.length := by
        have := (List.getElem?_eq_some_iff.mp h2).1
        simp at this
        omega
      subst hi'
      rw [← A.len, List.getElem?_append_right (Nat.le_refl _)] at h1
      rw [List.getElem?_append_right (Nat.le_refl _)] at h2
      simp at h1 h2
      subst h1; subst h2
      exact r e
  · obtain ⟨n, u, q, nt⟩ := A.hid a ha
    have na := ne_of_none q h
    exact ⟨fun hm => (List.mem_append.mp hm).elim n fun z => na (by simpa using z), u, by rw [upd_ne na]; exact q, nt⟩
  · rw [← A.len, List.getElem?_append_right (Nat.le_refl _)]
    simp
theorem Ab.notHid (A : Ab K ad as st H) {p : Addr} (h : H p = none) : p ∈ ad.hid → False := fun q => by
  obtain ⟨_, u, e, _⟩ := A.hid p q
  rw [h] at e; cases e
mutual
/-- D begins -/
theorem Rep.hide {D : Addr} {o : HO} (hD : H D = none) : ∀ {v : V} {t : T}, Rep K ad as H v t → Rep K (ad.hide (D :: ad.hid)) as (upd H D o) v t
  | _, _, .non => .non
  | _, _, .bl b => .bl b
  | _, _, .int b => .int b
  | _, _, .str b => .str b
  | _, _, .byt b => .byt b
  | _, _, .ty b => .ty b
  | _, _, .tup h r => .tup (h.ext (Ext.fresh hD)) (Reps.hide hD r)
  | _, _, .lst h r => .lst ⟨⟨h.1.1, fun z => (List.mem_cons.mp z).elim (fun e => by rw [← e, h.2] at hD; cases hD) h.1.2⟩, by rw [upd_ne (ne_of_none h.2 hD)]; exact h.2⟩ (Reps.hide hD r)
  | _, _, .frz h r => .frz (h.ext (Ext.fresh hD)) (Reps.hide hD r)
  | _, _, .dct n h k r => .dct ⟨n.1, fun z => (List.mem_cons.mp z).elim (fun e => by rw [← e, h] at hD; cases hD) n.2⟩ (by rw [upd_ne (ne_of_none h hD)]; exact h) k (Reps.hide hD r)
  | _, _, .ref h => .ref h
  | _, _, .adr i => .adr (ad := ad.hide (D :: ad.hid)) i
  | _, _, .ptp h r => .ptp (h.ext (Ext.fresh hD)) (Reps.hide hD r)
theorem Reps.hide {D : Addr} {o : HO} (hD : H D = none) : ∀ {v : List V} {t : List T}, Reps K ad as H v t → Reps K (ad.hide (D :: ad.hid)) as (upd H D o) v t
  | _, _, .nil => .nil
  | _, _, .cons r s => .cons (Rep.hide hD r) (Reps.hide hD s)
end
theorem RepF.hide {D : Addr} {o : HO} (hD : H D = none) : ∀ {v : List (Str × V)} {t : List (Str × T)}, RepF K ad as H v t → RepF K (ad.hide (D :: ad.hid)) as (upd H D o) v t
  | _, _, .nil => .nil
  | _, _, .cons r s => .cons (r.hide hD) (RepF.hide hD s)
theorem Ab.hide {D : Addr} {o : HO} (hD : H D = none) (A : Ab K ad as st H) (no : NT o := by intro _ z; cases z) : Ab K (ad.hide (D :: ad.hid)) as st (upd H D o) := by
  refine ⟨A.len, A.nd, fun i a ob h1 h2 => ?_, fun a ha => ?_, tabs_upd A.tabs (fun ps z => by rw [hD] at z; cases z) (fun ps z => by rw [hD] at z; cases z)⟩
  · have q := A.obj i a ob h1 h2
    cases ob with
    | lst ts =>
      obtain ⟨xs, q1, q2⟩ := q
      exact ⟨xs, by rw [upd_ne (ne_of_none q1 hD)]; exact q1, q2.hide hD⟩
    | dct kvs =>
      obtain ⟨xs, q1, q2, q3⟩ := q
      exact ⟨xs, by rw [upd_ne (ne_of_none q1 hD)]; exact q1, q2, q3.hide hD⟩
    | dtt kvs =>
      obtain ⟨xs, q1, q2, q3⟩ := q
      exact ⟨xs, by rw [upd_ne (ne_of_none q1 hD)]; exact q1, q2, q3.hide hD⟩
    | dtn kvs =>
      obtain ⟨xs, q1, q2, q3, q4, q5⟩ := q
      exact ⟨xs, by rw [upd_ne (ne_of_none q1 hD)]; exact q1, q2, q3, q4.hide hD, q5.hide hD⟩
    | ins c fs =>
      obtain ⟨dx, gs, q1, q2, q3, q4⟩ := q
      exact ⟨dx, gs, by rw [upd_ne (ne_of_none q1 hD)]; exact q1, by rw [upd_ne (ne_of_none q2 hD)]; exact q2, q3, q4.hide hD⟩
    | exn c fs =>
      obtain ⟨d, q1, q | ⟨dx, gs, hd, q2, q3, q4⟩⟩ := q
      · exact ⟨d, by rw [upd_ne (ne_of_none q1 hD)]; exact q1, .inl q⟩
      · exact ⟨d, by rw [upd_ne (ne_of_none q1 hD)]; exact q1, .inr ⟨dx, gs, hd, by rw [upd_ne (ne_of_none q2 hD)]; exact q2, q3, q4.hide hD⟩⟩
  · rcases List.mem_cons.mp ha with e | ha
    · subst e
      exact ⟨A.nin hD, o, upd_same, no⟩
    · obtain ⟨n, u, q, nt⟩ := A.hid a ha
      exact ⟨n, u, by rw [upd_ne (ne_of_none q hD)]; exact q, nt⟩
def Soft (u : HO) : Prop := (∀ xs, u ≠ .tup xs) ∧ (∀ o q, u ≠ .frz o q) ∧ (∀ x, u ≠ .own x) ∧ NT u ∧ (∀ a q, u ≠ LamX.CodeO a q) ∧ ∀ x, u ≠ .xd x
theorem soft_lst {xs : List V} : Soft (.lst xs) := ⟨fun _ h => (by cases h), fun _ _ h => (by cases h), fun _ h => (by cases h), fun _ h => (by cases h), fun _ _ h => (by unfold LamX.CodeO at h; cases h), fun _ h => (by cases h)⟩
mutual
/-- D grows -/
theorem Rep.growO {D : Addr} {u z : HO} (hu : Soft u) (hh : D ∈ ad.hid) (hD : H D = some u) : ∀ {v : V} {t : T}, Rep K ad as H v t → Rep K ad as (upd H D z) v t
  | _, _, .non => .non
  | _, _, .bl b => .bl b
  | _, _, .int b => .int b
  | _, _, .str b => .str b
  | _, _, .byt b => .byt b
  | _, _, .ty b => .ty b
  | _, _, .tup h r => .tup (by
      rcases h with ⟨n, h | ⟨o, h⟩⟩ | h
      · exact .inl ⟨n, .inl (by rw [upd_ne (ne_of h hD (fun z => hu.1 _ z.symm))]; exact h)⟩
      · exact .inl ⟨n, .inr ⟨o, by rw [upd_ne (ne_of h hD (fun z => hu.2.1 _ _ z.symm))]; exact h⟩⟩
      · exact .inr h) (Reps.growO hu hh hD r)
  | _, _, .lst h r => .lst ⟨h.1, by rw [upd_ne (by intro e; exact h.1.2 (e ▸ hh))]; exact h.2⟩ (Reps.growO hu hh hD r)
  | _, _, .frz h r => .frz (by
      rcases h with ⟨n, o, h⟩ | h
      · exact .inl ⟨n, o, by rw [upd_ne (ne_of h hD (fun z => hu.2.1 _ _ z.symm))]; exact h⟩
      · exact .inr h) (Reps.growO hu hh hD r)
  | _, _, .dct n h k r => .dct n (by rw [upd_ne (by intro e; exact n.2 (e ▸ hh))]; exact h) k (Reps.growO hu hh hD r)
  | _, _, .ref h => .ref h
  | _, _, .adr i => .adr i
  | _, _, .ptp h r => .ptp (by
      obtain ⟨n, ob, h, hc, hd⟩ := h
      exact ⟨n, ob, by rw [upd_ne (ne_of h hD (fun z => hu.2.1 _ _ z.symm))]; exact h, hc, hd⟩) (Reps.growO hu hh hD r)
theorem Reps.growO {D : Addr} {u z : HO} (hu : Soft u) (hh : D ∈ ad.hid) (hD : H D = some u) : ∀ {v : List V} {t : List T}, Reps K ad as H v t → Reps K ad as (upd H D z) v t
  | _, _, .nil => .nil
  | _, _, .cons r s => .cons (Rep.growO hu hh hD r) (Reps.growO hu hh hD s)
end
theorem RepF.growO {D : Addr} {u z : HO} (hu : Soft u) (hh : D ∈ ad.hid) (hD : H D = some u) : ∀ {v : List (Str × V)} {t : List (Str × T)}, RepF K ad as H v t → RepF K ad as (upd H D z) v t
  | _, _, .nil => .nil
  | _, _, .cons r s => .cons (r.growO hu hh hD) (RepF.growO hu hh hD s)
theorem Ab.growO {D : Addr} {u z : HO} (hu : Soft u) (hh : D ∈ ad.hid) (hD : H D = some u) (A : Ab K ad as st H) (nz : NT z := by intro _ w; cases w) : Ab K ad as st (upd H D z) := by
  have nD := (A.hid D hh).1
  refine ⟨A.len, A.nd, fun i a ob h1 h2 => ?_, fun a ha => ?_, tabs_upd A.tabs (fun ps z => by rw [hD] at z; cases z; exact hu.2.2.2.1 _ rfl) (fun q z => by rw [hD] at z; exact hu.2.2.2.2.1 _ _ (Option.some.inj z))⟩
  · have q := A.obj i a ob h1 h2
    have na : a ≠ D := by rintro rfl; exact nD (List.mem_of_getElem? h1)
    cases ob with
    | lst ts =>
      obtain ⟨xs, q1, q2⟩ := q
      exact ⟨xs, by rw [upd_ne na]; exact q1, q2.growO hu hh hD⟩
    | dct kvs =>
      obtain ⟨xs, q1, q2, q3⟩ := q
      exact ⟨xs, by rw [upd_ne na]; exact q1, q2, q3.growO hu hh hD⟩
    | dtt kvs =>
      obtain ⟨xs, q1, q2, q3⟩ := q
      exact ⟨xs, by rw [upd_ne na]; exact q1, q2, q3.growO hu hh hD⟩
    | dtn kvs =>
      obtain ⟨xs, q1, q2, q3, q4, q5⟩ := q
      exact ⟨xs, by rw [upd_ne na]; exact q1, q2, q3, q4.growO hu hh hD, q5.growO hu hh hD⟩
    | ins c fs =>
      obtain ⟨dx, gs, q1, q2, q3, q4⟩ := q
      exact ⟨dx, gs, by rw [upd_ne na]; exact q1, by rw [upd_ne (ne_of q2 hD (fun z => hu.2.2.1 _ z.symm))]; exact q2, q3, q4.growO hu hh hD⟩
    | exn c fs =>
      obtain ⟨d, q1, q | ⟨dx, gs, hd, q2, q3, q4⟩⟩ := q
      · exact ⟨d, by rw [upd_ne na]; exact q1, .inl q⟩
      · exact ⟨d, by rw [upd_ne na]; exact q1, .inr ⟨dx, gs, hd, by rw [upd_ne (ne_of q2 hD (fun z => hu.2.2.2.2.2 _ z.symm))]; exact q2, q3, q4.growO hu hh hD⟩⟩
  · obtain ⟨n, u, q, nt⟩ := A.hid a ha
    by_cases e : a = D
    · subst e
      exact ⟨n, _, upd_same, nz⟩
    · exact ⟨n, u, by rw [upd_ne e]; exact q, nt⟩
theorem Rep.grow {D : Addr} {ys zs : List V} (hh : D ∈ ad.hid) (hD : H D = some (.lst ys)) {v : V} {t : T} (r : Rep K ad as H v t) : Rep K ad as (upd H D (.lst zs)) v t := r.growO soft_lst hh hD
theorem Reps.grow {D : Addr} {ys zs : List V} (hh : D ∈ ad.hid) (hD : H D = some (.lst ys)) {v : List V} {t : List T} (r : Reps K ad as H v t) : Reps K ad as (upd H D (.lst zs)) v t := r.growO soft_lst hh hD
theorem RepF.grow {D : Addr} {ys zs : List V} (hh : D ∈ ad.hid) (hD : H D = some (.lst ys)) {v : List (Str × V)} {t : List (Str × T)} (r : RepF K ad as H v t) : RepF K ad as (upd H D (.lst zs)) v t := r.growO soft_lst hh hD
theorem Ab.grow {D : Addr} {ys zs : List V} (hh : D ∈ ad.hid) (hD : H D = some (.lst ys)) (A : Ab K ad as st H) : Ab K ad as st (upd H D (.lst zs)) := A.growO soft_lst hh hD
mutual
/-- D is done -/
theorem Rep.show_ {D : Addr} : ∀ {v : V} {t : T}, Rep K (ad.hide (D :: ad.hid)) as H v t → Rep K ad as H v t
  | _, _, .non => .non
  | _, _, .bl b => .bl b
  | _, _, .int b => .int b
  | _, _, .str b => .str b
  | _, _, .byt b => .byt b
  | _, _, .ty b => .ty b
  | _, _, .tup h r => .tup h (Reps.show_ r)
  | _, _, .lst h r => .lst ⟨⟨h.1.1, fun z => h.1.2 (List.mem_cons_of_mem _ z)⟩, h.2⟩ (Reps.show_ r)
  | _, _, .frz h r => .frz h (Reps.show_ r)
  | _, _, .dct n h k r => .dct ⟨n.1, fun z => n.2 (List.mem_cons_of_mem _ z)⟩ h k (Reps.show_ r)
  | _, _, .ref h => .ref h
  | _, _, .adr i => .adr (ad := ad) i
  | _, _, .ptp h r => .ptp h (Reps.show_ r)
theorem Reps.show_ {D : Addr} : ∀ {v : List V} {t : List T}, Reps K (ad.hide (D :: ad.hid)) as H v t → Reps K ad as H v t
  | _, _, .nil => .nil
  | _, _, .cons r s => .cons (Rep.show_ r) (Reps.show_ s)
end
theorem RepF.show_ {D : Addr} : ∀ {v : List (Str × V)} {t : List (Str × T)}, RepF K (ad.hide (D :: ad.hid)) as H v t → RepF K ad as H v t
  | _, _, .nil => .nil
  | _, _, .cons r s => .cons r.show_ (RepF.show_ s)
theorem Ab.show_ {D : Addr} (A : Ab K (ad.hide (D :: ad.hid)) as st H) : Ab K ad as st H := by
  refine ⟨A.len, A.nd, fun i a ob h1 h2 => ?_, fun a ha => A.hid a (List.mem_cons_of_mem _ ha), A.tabs⟩
  have q := A.obj i a ob h1 h2
  cases ob with
  | lst ts =>
    obtain ⟨xs, q1, q2⟩ := q
    exact ⟨xs, q1, q2.show_⟩
  | dct kvs =>
    obtain ⟨xs, q1, q2, q3⟩ := q
    exact ⟨xs, q1, q2, q3.show_⟩
  | dtt kvs =>
    obtain ⟨xs, q1, q2, q3⟩ := q
    exact ⟨xs, q1, q2, q3.show_⟩
  | dtn kvs =>
    obtain ⟨xs, q1, q2, q3, q4, q5⟩ := q
    exact ⟨xs, q1, q2, q3, q4.show_, q5.show_⟩
  | ins c fs =>
    obtain ⟨dx, gs, q1, q2, q3, q4⟩ := q
    exact ⟨dx, gs, q1, q2, q3, q4.show_⟩
  | exn c fs =>
    obtain ⟨d, q1, q | ⟨dx, gs, hd, q2, q3, q4⟩⟩ := q
    · exact ⟨d, q1, .inl q⟩
    · exact ⟨d, q1, .inr ⟨dx, gs, hd, q2, q3, q4.show_⟩⟩
end
end Mi
namespace Mi
open PySem L2
abbrev M (α : Type) := Sl → Sto → R α

section
variable (K : PySem.W.Frag) (ad : Ad)
def En (as : List Addr) (H : Hp) (σ : St) (ρ : Sl) : Prop := σ.length = ρ.length ∧ ∀ (i : Nat) (t : T), ρ[i]? = some (some t) → ∃ v, σ[i]? = some (some v) ∧ Rep K ad as H v t
def ExRep (as : List Addr) (H : Hp) (e : Exn) (u : Value) (d : Option Addr) : Prop :=
  u = .ref (ad.fn e.c) ∧ ((e.fs = [] ∧ d = none) ∨ ∃ a gs, e.fs ≠ [] ∧ d = some a ∧ H a = some (.xd gs) ∧ (a ∈ as → False) ∧ RepF K ad as H gs e.fs)
def Post {α β : Type} (Rl : List Addr → Hp → β → α → Prop) (as : List Addr) (H : Hp) (Q : β → Hp → Prop) (W : XK) : R α → Prop
  | .ok t st' => ∀ as' H' v, Ab K ad as' st' H' → Ext as H as' H' → Rl as' H' v t → Q v H'
  | .exc e st' => ∀ as' H' u d, Ab K ad as' st' H' → Ext as H as' H' → ExRep K ad as' H' e u d → W u d H'
  | .bad => False
def tM {α β : Type} (Rl : Ad → List Addr → Hp → β → α → Prop) (W : WX) (m : M α) : St → Hp → (β → Hp → Prop) → Prop := fun σ H Q =>
  ∃ hd ρ as st, Ab K (ad.hide hd) as st H ∧ En K (ad.hide hd) as H σ ρ ∧ Post K (ad.hide hd) (Rl (ad.hide hd)) as H Q (fun u d H' => W u d σ H') (m ρ st)
def spF (n : Nat) (F : List T → Sto → R T) : Sp := fun vs H Q E => vs.length = n ∧ ∃ hd as st ts, Ab K (ad.hide hd) as st H ∧ Reps K (ad.hide hd) as H vs ts ∧ Post K (ad.hide hd) (Rep K (ad.hide hd)) as H Q E (F ts st)
end
abbrev RlB : Ad → List Addr → Hp → Bool → Bool → Prop := fun _ _ _ b c => b = c
abbrev RlI : Ad → List Addr → Hp → Option Int → Option Int → Prop := fun _ _ _ b c => b = c

section
variable {K : PySem.W.Frag} {ad : Ad} {as as' as2 : List Addr} {H H' H2 : Hp} {st st' : Sto} {σ : St} {ρ : Sl}
theorem En.ext (e : Ext as H as' H') (h : En K ad as H σ ρ) : En K ad as' H' σ ρ := ⟨h.1, fun i t q => by
  obtain ⟨v, h1, h2⟩ := h.2 i t q
  exact ⟨v, h1, h2.ext e⟩⟩
theorem En.set {i : Nat} {v : V} {t : T} (h : En K ad as H σ ρ) (r : Rep K ad as H v t) : En K ad as H (σ.set i (some v)) (ρ.set i (some t)) := by
  refine ⟨by simp [h.1], fun j u q => ?_⟩
  by_cases hj : i = j
  · subst hj
    by_cases hl : i < ρ.length
    · rw [List.getElem?_set_self hl] at q
      cases q
      exact ⟨v, by rw [List.getElem?_set_self (by rw [h.1]; exact hl)], r⟩
    · rw [List.getElem?_eq_none (by simpa using hl)] at q; cases q
  · rw [List.getElem?_set_ne hj] at q
    rw [List.getElem?_set_ne hj]
    exact h.2 j u q
section
variable {α β γ δ : Type} {Rl : List Addr → Hp → β → α → Prop} {Rl2 : List Addr → Hp → δ → γ → Prop} {Q Q' : β → Hp → Prop} {Q2 : δ → Hp → Prop} {W W' : XK}
theorem Post.ext (e : Ext as H as' H') {r : R α} (h : Post K ad Rl as H Q W r) : Post K ad Rl as' H' Q W r := by
  cases r with
  | ok t st' => exact fun as2 H2 v A e2 r => h as2 H2 v A (e.trans e2) r
  | exc x st' => exact fun as2 H2 u d A e2 r => h as2 H2 u d A (e.trans e2) r
  | bad => exact h
theorem Post.step {r : R α} {f : α → Sto → R γ} (h : Post K ad Rl2 as H Q2 W (r.bind f))
    (k : ∀ t st1 as1 H1 v, Ab K ad as1 st1 H1 → Ext as H as1 H1 → Rl as1 H1 v t → Post K ad Rl2 as1 H1 Q2 W (f t st1) → Q v H1) : Post K ad Rl as H Q W r := by
  cases r with
  | ok t st' => exact fun as1 H1 v A e r => k t st' as1 H1 v A e r (Post.ext e h)
  | exc x st' => exact h
  | bad => exact h
theorem Post.at {t : α} {v : β} (A : Ab K ad as st H) (r : Rl as H v t) (h : Post K ad Rl as H Q W (.ok t st)) : Q v H := h as H v A Ext.refl r
theorem Post.to {t : α} {v : β} (h : Post K ad Rl as H Q W (.ok t st')) (A : Ab K ad as' st' H') (e : Ext as H as' H') (r : Rl as' H' v t) : Q v H' := h as' H' v A e r
theorem Post.imp {r : R α} (h : Post K ad Rl as H Q W r) (hq : ∀ v H, Q v H → Q' v H) (hw : ∀ u d H, W u d H → W' u d H) : Post K ad Rl as H Q' W' r := by
  cases r with
  | ok t st' => exact fun as2 H2 v A e2 r => hq _ _ (h as2 H2 v A e2 r)
  | exc x st' => exact fun as2 H2 u d A e2 r => hw _ _ _ (h as2 H2 u d A e2 r)
  | bad => exact h
end
end
section
variable {X : Cx}
theorem peW {e : Expr} {t t' : TE} (h : PE X e t) (w : ∀ σ H Q, t' σ H Q → t σ H Q) : PE X e t' := ⟨fun pins s σ H Q I q => h.run pins s σ H Q I (w _ _ _ q)⟩
theorem ptW {e : Expr} {t t' : TT} (h : PT X e t) (w : ∀ σ H Q, t' σ H Q → t σ H Q) : PT X e t' := ⟨fun pins s σ H Q I q => h.run pins s σ H Q I (w _ _ _ q)⟩
theorem pwW {e : Expr} {t t' : TT} (h : PW X e t) (w : ∀ σ H Q, t' σ H Q → t σ H Q) : PW X e t' := ⟨fun wh pins s σ H Q I q => h.run wh pins s σ H Q I (w _ _ _ q)⟩
theorem paW {es : List Expr} {t t' : TA} (h : PA X es t) (w : ∀ σ H Q, t' σ H Q → t σ H Q) : PA X es t' := ⟨fun pos pins s σ H Q I q => h.run pos pins s σ H Q I (w _ _ _ q)⟩
theorem poW {e : Option Expr} {t t' : TO} (h : PO X e t) (w : ∀ σ H Q, t' σ H Q → t σ H Q) : PO X e t' := ⟨fun pins s σ H Q I q => h.run pins s σ H Q I (w _ _ _ q)⟩
theorem psW {e : Stmt} {t t' : TS} (h : PS X e t) (w : ∀ D σ H, t' D σ H → t D σ H) : PS X e t' := ⟨fun pins s σ H D I q => h.run pins s σ H D I (w _ _ _ q)⟩
theorem pssW {e : List Stmt} {t t' : TS} (h : PSs X e t) (w : ∀ D σ H, t' D σ H → t D σ H) : PSs X e t' := ⟨fun pins s σ H D I q => h.run pins s σ H D I (w _ _ _ q)⟩
theorem pgW {e : Expr} {t t' : TG} (h : PG X e t) (w : ∀ v σ H Q, t' v σ H Q → t v σ H Q) : PG X e t' := ⟨fun pins s σ H v u Q I r q => h.run pins s σ H v u Q I r (w _ _ _ _ q)⟩
end
structure Sit (X : Cx) (W : WX) (k : Nat) : Prop where
  calm : X.calm = true
  gd : X.A.guards = some []
  rm : Room k X.A
  tk : Takes X W
  po : PassesOwn (model X.prog X.w) X.A X.env X.xe
  sm : ∃ o, X.base.get? sysModules = some o

abbrev MCX (P : Program) (w : World) : CXT := L2.CX P w
structure GnOk (P : Program) (w : World) (K : PySem.W.Frag) (mg : Str → Option Value) (base : Heap) (k : Nat) (f : Addr) (fd : FuncData) (ps : List Str) (sp : Sp) : Prop where
  len : ∀ vs H Q E, sp vs H Q E → vs.length = ps.length
  run : ∀ (A : Around) (outer : List Env) (s : Shared) (H : Hp) (args : Args) (us : List Value) (vs : List V) (Q : VK) (E : XK),
    Room k A → A.guards = some [] → Env0 P w K mg base A outer s H → BindsTo s fd args (ps.zip us) → Vals vs us → sp vs H Q E →
      codeAny (model P w) A (.call (.ref f) args) (CR (MCX P w) outer P w H s Q E) s
end Mi
namespace Mi
open PySem L2
abbrev PM (X : Cx) (ad : Ad) (W : WX) (e : Expr) (m : M T) : Prop := PE X e (tM X.K ad (Rep X.K) W m)
abbrev PMT (X : Cx) (ad : Ad) (W : WX) (e : Expr) (m : M Bool) : Prop := PT X e (tM X.K ad RlB W m)
abbrev PMW (X : Cx) (ad : Ad) (W : WX) (e : Expr) (m : M Bool) : Prop := PW X e (tM X.K ad RlB W m)
abbrev PMA (X : Cx) (ad : Ad) (W : WX) (es : List Expr) (m : M (List T)) : Prop := PA X es (tM X.K ad (Reps X.K) W m)
abbrev PMO (X : Cx) (ad : Ad) (W : WX) (e : Option Expr) (m : M (Option Int)) : Prop := PO X e (tM X.K ad RlI W m)

section
variable {X : Cx} {ad : Ad} {W : WX} {pos p : Pos}
def mVar (i : Nat) : M T := fun ρ st => match ρ[i]? with
  | some (some t) => .ok t st
  | _ => .bad
theorem pm_var {i : Nat} {x : Str} (h : PE X (.Name x pos) (tVar i)) : PM X ad W (.Name x pos) (mVar i) := peW h fun σ H Q ⟨hd, ρ, as, st, A, E, q⟩ => by
  unfold mVar at q
  split at q
  · rename_i t e
    obtain ⟨v, h1, h2⟩ := E.2 i t e
    exact ⟨v, h1, Post.at A h2 q⟩
  · exact q.elim
def mC (t : T) : M T := fun _ st => .ok t st
theorem pm_c {e : Expr} {v : V} {t : T} (h : PE X e (tC v)) (r : ∀ ad as H, Rep X.K ad as H v t) : PM X ad W e (mC t) := peW h fun _ _ _ ⟨_, _, _, _, A, _, q⟩ => Post.at A (r _ _ _) q
theorem pm_int {i j} : PM X ad W (.Constant (.int i) j pos) (mC (.int i)) := pm_c pe_int fun _ _ _ => .int _
theorem pm_bl {i j} : PM X ad W (.Constant (.bool i) j pos) (mC (.bl i)) := pm_c pe_bl fun _ _ _ => .bl _
def OpM (X : Cx) (f : Value → Value → Sem Value) (op : T → T → Sto → R T) : Prop :=
  ∃ r : R2, OpR X f r ∧ ∀ ad as st H x y tx ty Q W, Ab X.K ad as st H → Rep X.K ad as H x tx → Rep X.K ad as H y ty → Post X.K ad (Rep X.K ad) as H Q W (op tx ty st) → r x y H Q
theorem OpR.alt {f : Value → Value → Sem Value} {r r' : R2} (h : OpR X f r) (h' : OpR X f r') : OpR X f (fun x y H Q => r x y H Q ∨ r' x y H Q) :=
  fun pins s σ H x y v u Q I rx ry q => q.elim (h pins s σ H x y v u Q I rx ry) (h' pins s σ H x y v u Q I rx ry)
theorem OpM.alt {f : Value → Value → Sem Value} {op op' op2 : T → T → Sto → R T} (h : OpM X f op) (h' : OpM X f op')
    (c : ∀ x y st, op2 x y st = op x y st ∨ op2 x y st = op' x y st) : OpM X f op2 := by
  obtain ⟨r, h1, h2⟩ := h
  obtain ⟨r', h1', h2'⟩ := h'
  refine ⟨_, OpR.alt h1 h1', fun ad as st H x y tx ty Q W A rx ry q => ?_⟩
  rcases c tx ty st with e | e
  · rw [e] at q
    exact .inl (h2 ad as st H x y tx ty Q W A rx ry q)
  · rw [e] at q
    exact .inr (h2' ad as st H x y tx ty Q W A rx ry q)
def mBin (op : T → T → Sto → R T) (a b : M T) : M T := fun ρ st => (a ρ st).bind fun x st1 => (b ρ st1).bind fun y st2 => op x y st2
theorem tBin {r : R2} {op : T → T → Sto → R T} {a b : M T} (hop : ∀ ad as st H x y tx ty Q W, Ab X.K ad as st H → Rep X.K ad as H x tx → Rep X.K ad as H y ty → Post X.K ad (Rep X.K ad) as H Q W (op tx ty st) → r x y H Q) :
    ∀ σ H Q, tM X.K ad (Rep X.K) W (mBin op a b) σ H Q → tOp r (tM X.K ad (Rep X.K) W a) (tM X.K ad (Rep X.K) W b) σ H Q := fun σ H Q ⟨hd, ρ, as, st, A, E, q⟩ =>
  ⟨hd, ρ, as, st, A, E, Post.step q fun x st1 as1 H1 vx A1 e1 r1 q1 => ⟨hd, ρ, as1, st1, A1, E.ext e1, Post.step q1 fun y st2 as2 H2 vy A2 e2 r2 q2 => hop _ as2 st2 H2 vx vy x y Q _ A2 (r1.ext e2) r2 q2⟩⟩
theorem pm_bin {o : Operator} {op : T → T → Sto → R T} {a b : Expr} {ma mb : M T} (hop : OpM X (binaryOp o) op) (ha : PM X ad W a ma) (hb : PM X ad W b mb) : PM X ad W (.BinOp a o b pos) (mBin op ma mb) := by
  obtain ⟨r, h1, h2⟩ := hop
  exact peW (pe_op h1 ha hb) (tBin h2)
def rTest (r : R T) : R Bool := r.bind fun t st => match t with
  | .bl b => .ok b st
  | _ => .bad
def mTest (m : M T) : M Bool := fun ρ st => rTest (m ρ st)
theorem tTest_ {m : M T} : ∀ σ H Q, tM X.K ad RlB W (mTest m) σ H Q → tTest (tM X.K ad (Rep X.K) W m) σ H Q := fun σ H Q ⟨hd, ρ, as, st, A, E, q⟩ =>
  ⟨hd, ρ, as, st, A, E, Post.step q fun x st1 as1 H1 vx A1 e1 r1 q1 => by
    cases r1 with
    | bl b => exact ⟨b, rfl, Post.at A1 rfl q1⟩
    | _ => exact q1.elim⟩
theorem ptM_cmp {o : CmpOp} {op : T → T → Sto → R T} {a b : Expr} {ma mb : M T} (hop : OpM X (compareOp o) op) (ha : PM X ad W a ma) (hb : PM X ad W b mb) (hm : behindInMarks o b = false) : PMT X ad W (.Compare a [o] [b] pos) (mTest (mBin op ma mb)) := by
  obtain ⟨r, h1, h2⟩ := hop
  refine ptW (pt_cmpR h1 ha hb hm) fun σ H Q h => ?_
  obtain ⟨hd, ρ, as, st, A, E, q⟩ := tTest_ σ H Q h
  exact tBin h2 σ H _ ⟨hd, ρ, as, st, A, E, q⟩
theorem ptM_val {e : Expr} {m : M T} (h : PM X ad W e m) (he : ∀ whole, isTrue e X.env whole = (do let v ← whole; standAt e.pos; holding [v] (truthy v)) := by intro _; rfl) : PMT X ad W e (mTest m) := ptW (pt_val h he) fun σ H Q q => tTest_ σ H Q q
end
end Mi
namespace Mi
open PySem L2
mutual
def T.eqv : T → T → Bool
  | .non, .non => true
  | .bl a, .bl b => a == b
  | .bl a, .int j => (if a then 1 else 0) == j
  | .int i, .bl b => i == (if b then 1 else 0)
  | .int i, .int j => i == j
  | .str a, .str b => a == b
  | .tup xs, .tup ys => T.eqvs xs ys
  | .lst xs, .lst ys => T.eqvs xs ys
  | _, _ => false
def T.eqvs : List T → List T → Bool
  | [], [] => true
  | x :: xs, y :: ys => T.eqv x y && T.eqvs xs ys
  | _, _ => false
end
def keyPd : Key → PyData
  | .inl i => .int i
  | .inr s => .str s
mutual
def T.pd : T → Option PyData
  | .non => some .none
  | .bl b => some (.bool b)
  | .int i => some (.int i)
  | .str s => some (.str s)
  | .tup ts => (T.pds ts).map .tuple
  | .lst ts => (T.pds ts).map .list
  | .dct ks ts => (T.pds ts).map fun ds => .dict ((ks.map keyPd).zip ds)
  | _ => none
def T.pds : List T → Option (List PyData)
  | [] => some []
  | t :: ts => match t.pd, T.pds ts with
    | some d, some ds => some (d :: ds)
    | _, _ => none
end
theorem T.pds_cons {x : T} {xs : List T} {d : List PyData} (h : T.pds (x :: xs) = some d) : ∃ a b, x.pd = some a ∧ T.pds xs = some b ∧ d = a :: b := by
  simp only [T.pds] at h
  cases h1 : x.pd with
  | none => rw [h1] at h; simp at h
  | some a =>
    cases h2 : T.pds xs with
    | none => rw [h1, h2] at h; simp at h
    | some b => rw [h1, h2] at h; simp at h; exact ⟨a, b, rfl, rfl, h.symm⟩
mutual
theorem T.eqv_pd : ∀ (a b : T) {d e : PyData}, a.pd = some d → b.pd = some e → PyData.eqv d e = T.eqv a b := by
  intro a b d e ha hb
  cases a <;> cases b <;> simp only [T.pd, Option.some.injEq, Option.map_eq_some_iff, reduceCtorEq] at ha hb
  all_goals first
    | (subst ha; subst hb; first | rfl | (simp only [PyData.eqv, T.eqv]))
    | (obtain ⟨xs, h1, rfl⟩ := ha; obtain ⟨ys, h2, rfl⟩ := hb; first | (simp only [PyData.eqv, T.eqv]; first | exact T.eqvs_pd _ _ h1 h2 | done) | (simp only [PyData.eqv, T.eqv]))
    | (obtain ⟨xs, h1, rfl⟩ := ha; subst hb; simp only [PyData.eqv, T.eqv])
    | (obtain ⟨ys, h2, rfl⟩ := hb; subst ha; simp only [PyData.eqv, T.eqv])
theorem T.eqvs_pd : ∀ (a b : List T) {d e : List PyData}, T.pds a = some d → T.pds b = some e → PyData.eqvAll d e = T.eqvs a b
  | [], [], d, e, ha, hb => by
    simp only [T.pds, Option.some.injEq] at ha hb; subst ha; subst hb; rfl
  | [], y :: ys, d, e, ha, hb => by
    simp only [T.pds, Option.some.injEq] at ha hb; subst ha
    split at hb
    · cases hb; simp only [PyData.eqvAll, T.eqvs]
    · cases hb
  | x :: xs, [], d, e, ha, hb => by
    simp only [T.pds, Option.some.injEq] at ha hb; subst hb
    split at ha
    · cases ha; simp only [PyData.eqvAll, T.eqvs]
    · cases ha
  | x :: xs, y :: ys, d, e, ha, hb => by
    obtain ⟨d1, d2, h1, h2, rfl⟩ := T.pds_cons ha
    obtain ⟨e1, e2, h3, h4, rfl⟩ := T.pds_cons hb
    simp only [PyData.eqvAll, T.eqvs]
    rw [T.eqv_pd x y h1 h3, T.eqvs_pd xs ys h2 h4]
end
section
variable {K : PySem.W.Frag} {ad : Ad} {as : List Addr} {H : Hp} {st : Sto}
mutual
theorem Rep.dp : ∀ {v : V} {t : T} {d : PyData}, Rep K ad as H v t → t.pd = some d → d.canLay0 = true → Dp K H v d
  | _, _, _, .non, h, _ => by simp only [T.pd, Option.some.injEq] at h; subst h; exact .non
  | _, _, _, .bl b, h, _ => by simp only [T.pd, Option.some.injEq] at h; subst h; exact .bl b
  | _, _, _, .int b, h, _ => by simp only [T.pd, Option.some.injEq] at h; subst h; exact .int b
  | _, _, _, .str b, h, _ => by simp only [T.pd, Option.some.injEq] at h; subst h; exact .str b
  | _, _, _, .byt b, h, _ => by simp only [T.pd, reduceCtorEq] at h
  | _, _, _, .ty b, h, _ => by simp only [T.pd, reduceCtorEq] at h
  | _, _, _, .tup a r, h, l => by
    simp only [T.pd, Option.map_eq_some_iff] at h
    obtain ⟨ds, h1, rfl⟩ := h
    exact .tup a.sq (Reps.dps r h1 (by simpa only [PyData.canLay0] using l))
  | _, _, _, .lst a r, h, l => by
    simp only [T.pd, Option.map_eq_some_iff] at h
    obtain ⟨ds, h1, rfl⟩ := h
    exact .lst (SqL.of a.2) (Reps.dps r h1 (by simpa only [PyData.canLay0] using l))
  | _, _, _, .frz a r, h, _ => by simp only [T.pd, reduceCtorEq] at h
  | _, _, _, .dct _ _ _ _, h, l => by
    simp only [T.pd, Option.map_eq_some_iff] at h
    obtain ⟨ds, h1, rfl⟩ := h
    simp only [PyData.canLay0] at l
    cases l
  | _, _, _, .ref b, h, _ => by simp only [T.pd, reduceCtorEq] at h
  | _, _, _, .adr b, h, _ => by simp only [T.pd, reduceCtorEq] at h
  | _, _, _, .ptp _ _, h, _ => by simp only [T.pd, reduceCtorEq] at h
theorem Reps.dps : ∀ {v : List V} {t : List T} {d : List PyData}, Reps K ad as H v t → T.pds t = some d → PyData.canLayAll0 d = true → DpAll K H v d
  | _, _, _, .nil, h, _ => by simp only [T.pds, Option.some.injEq] at h; subst h; exact .nil
  | _, _, _, .cons r s, h, l => by
    obtain ⟨d1, d2, h1, h2, rfl⟩ := T.pds_cons h
    simp only [PyData.canLayAll0, Bool.and_eq_true] at l
    exact .cons (Rep.dp r h1 l.1) (Reps.dps s h2 l.2)
end
def now (st : Sto) (t : T) : T := match t with
  | .ref i => match st[i]? with
    | some (.lst ts) => .lst ts
    | _ => t
  | _ => t
theorem Rep.now_dp {v : V} {t : T} {d : PyData} (A : Ab K ad as st H) (r : Rep K ad as H v t) (h : (now st t).pd = some d) (l : d.canLay0 = true) : Dp K H v d := by
  unfold now at h
  split at h
  · rename_i i
    split at h
    · rename_i ts e
      simp only [T.pd, Option.map_eq_some_iff] at h
      obtain ⟨ds, h1, rfl⟩ := h
      obtain ⟨a, h2, xs, h3, h4⟩ := A.get e
      cases r with
      | ref h5 =>
        rw [h2] at h5; cases h5
        exact .lst (SqL.of h3) (Reps.dps h4 h1 (by simpa only [PyData.canLay0] using l))
    · simp only [T.pd, reduceCtorEq] at h
  · exact Rep.dp r h l

theorem Rep.tupI {v : V} {ts : List T} (r : Rep K ad as H v (.tup ts)) : ∃ a xs, v = .ref a ∧ SqT K H a xs ∧ Reps K ad as H xs ts := by
  cases r with
  | tup h s => exact ⟨_, _, rfl, h.sq, s⟩
theorem Rep.intI {v : V} {i : Int} (r : Rep K ad as H v (.int i)) : v = .int i := by cases r; rfl
theorem Rep.strI {v : V} {i : Str} (r : Rep K ad as H v (.str i)) : v = .str i := by cases r; rfl
theorem Rep.blI {v : V} {i : Bool} (r : Rep K ad as H v (.bl i)) : v = .bl i := by cases r; rfl
theorem Rep.nonI {v : V} (r : Rep K ad as H v .non) : v = .non := by cases r; rfl
theorem Rep.bytI {v : V} {i : Array UInt8} (r : Rep K ad as H v (.byt i)) : v = .byt i := by cases r; rfl
def lstR (st : Sto) (t : T) : Option (List T) := match t with
  | .lst ts => some ts
  | .frz ts => some ts
  | .ref i => match st[i]? with
    | some (.lst ts) => some ts
    | _ => none
  | _ => none
def lstD (st : Sto) (t : T) : Option (List T) := match t with
  | .lst ts => some ts
  | .ref i => match st[i]? with
    | some (.lst ts) => some ts
    | _ => none
  | _ => none
theorem Rep.lstD {v : V} {t : T} {ts : List T} (A : Ab K ad as st H) (r : Rep K ad as H v t) (h : lstD st t = some ts) : ∃ a xs, v = .ref a ∧ H a = some (.lst xs) ∧ Reps K ad as H xs ts := by
  unfold Mi.lstD at h
  split at h
  · cases h
    cases r with
    | lst h s => exact ⟨_, _, rfl, h.2, s⟩
  · split at h
    · rename_i e
      cases h
      obtain ⟨a, h2, xs, h3, h4⟩ := A.get e
      cases r with
      | ref h5 =>
        rw [h2] at h5; cases h5
        exact ⟨_, _, rfl, h3, h4⟩
    · cases h
  · cases h
theorem Rep.lstR {v : V} {t : T} {ts : List T} (A : Ab K ad as st H) (r : Rep K ad as H v t) (h : lstR st t = some ts) : ∃ a xs, v = .ref a ∧ SqL K H a xs ∧ Reps K ad as H xs ts := by
  unfold Mi.lstR at h
  split at h
  · cases h
    cases r with
    | lst h s => exact ⟨_, _, rfl, SqL.of h.2, s⟩
  · cases h
    cases r with
    | frz h s => exact ⟨_, _, rfl, h.sq, s⟩
  · split at h
    · rename_i e
      cases h
      obtain ⟨a, h2, xs, h3, h4⟩ := A.get e
      cases r with
      | ref h5 =>
        rw [h2] at h5; cases h5
        exact ⟨_, _, rfl, SqL.of h3, h4⟩
    · cases h
  · cases h
end
section
variable {X : Cx} {ad : Ad}
def opII (f : Int → Int → Option T) (x y : T) (st : Sto) : R T := match x, y with
  | .int i, .int j => match f i j with
    | some t => .ok t st
    | none => .bad
  | _, _ => .bad
theorem opII_ok {o : Value → Value → Sem Value} {C : Int → Int → Prop} {g : Int → Int → V} {f : Int → Int → Option T} (h : OpR X o (rI C g))
    (hf : ∀ i j t, f i j = some t → C i j ∧ ∀ ad as H, Rep X.K ad as H (g i j) t) : OpM X o (opII f) := by
  refine ⟨_, h, fun ad as st H x y tx ty Q W A rx ry q => ?_⟩
  unfold opII at q
  split at q
  · split at q
    · rename_i i j _ t e
      obtain ⟨c, r⟩ := hf i j t e
      exact ⟨i, j, rx.intI, ry.intI, c, Post.at A (r ad as H) q⟩
    · exact q.elim
  · exact q.elim
theorem OpR.rI0 {o : Value → Value → Sem Value} {g : Int → Int → V} (h : OpR X o (L2.rI0 g)) : OpR X o (L2.rI (fun _ _ => True) g) := fun pins s σ H x y v u Q I rx ry ⟨i, j, e1, e2, _, q⟩ => h pins s σ H x y v u Q I rx ry ⟨i, j, e1, e2, q⟩

def fMod (i j : Int) : Option T := if 0 < j then some (.int (i % j)) else none
abbrev opMod : T → T → Sto → R T := opII fMod
theorem om_mod : OpM X (binaryOp .Mod) opMod := opII_ok op_mod fun i j t e => by
  unfold fMod at e
  split at e
  · cases e; exact ⟨by assumption, fun _ _ _ => .int _⟩
  · cases e
def fPow (i j : Int) : Option T := if 0 ≤ j ∧ j ≤ 1000000 ∧ i.natAbs < 18446744073709551616 then some (.int (i ^ j.toNat)) else none
abbrev opPow : T → T → Sto → R T := opII fPow
theorem om_pow : OpM X (binaryOp .Pow) opPow := opII_ok op_pow fun i j t e => by
  unfold fPow at e
  split at e
  · cases e; exact ⟨by assumption, fun _ _ _ => .int _⟩
  · cases e
abbrev opLt : T → T → Sto → R T := opII fun i j => some (.bl (decide (i < j)))
theorem om_lt : OpM X (compareOp .Lt) opLt := opII_ok (OpR.rI0 op_lt) fun i j t e => by cases e; exact ⟨trivial, fun _ _ _ => .bl _⟩
def opAdd (x y : T) (st : Sto) : R T := match x, y with
  | .int i, .int j => .ok (.int (i + j)) st
  | .str a, .str b => if a.length + b.length ≤ sizeLine then .ok (.str (a ++ b)) st else .bad
  | .byt a, .byt b => if a.size + b.size ≤ 16777216 then .ok (.byt (a ++ b)) st else .bad
  | .tup a, .tup b => if a.length + b.length ≤ sizeLine then .ok (.tup (a ++ b)) st else .bad
  | x, y => match lstD st x, lstD st y with
    | some a, some b => if a.length + b.length ≤ sizeLine then .ok (.lst (a ++ b)) st else .bad
    | _, _ => .bad
theorem rep_newTup {K : PySem.W.Frag} {as : List Addr} {H : Hp} {st : Sto} {p : Addr} {xs : List V} {ts : List T} (A : Ab K ad as st H) (hp : H p = none) (r : Reps K ad as H xs ts) : Rep K ad as (upd H p (.tup xs)) (.ref p) (.tup ts) :=
  .tup (.inl ⟨A.nin hp, .inl upd_same⟩) (r.ext (Ext.fresh hp))
theorem rep_newLst {K : PySem.W.Frag} {as : List Addr} {H : Hp} {st : Sto} {p : Addr} {xs : List V} {ts : List T} (A : Ab K ad as st H) (hp : H p = none) (r : Reps K ad as H xs ts) : Rep K ad as (upd H p (.lst xs)) (.ref p) (.lst ts) :=
  .lst ⟨⟨A.nin hp, A.notHid hp⟩, upd_same⟩ (r.ext (Ext.fresh hp))
theorem post_newTup {K : PySem.W.Frag} {as : List Addr} {H : Hp} {st : Sto} {p : Addr} {xs : List V} {ts : List T} {Q : V → Hp → Prop} {W : XK} (A : Ab K ad as st H) (hp : H p = none) (r : Reps K ad as H xs ts)
    (q : Post K ad (Rep K ad) as H Q W (.ok (.tup ts) st)) : Q (.ref p) (upd H p (.tup xs)) := q.to (A.fresh hp) (Ext.fresh hp) (rep_newTup A hp r)
theorem post_newLst {K : PySem.W.Frag} {as : List Addr} {H : Hp} {st : Sto} {p : Addr} {xs : List V} {ts : List T} {Q : V → Hp → Prop} {W : XK} (A : Ab K ad as st H) (hp : H p = none) (r : Reps K ad as H xs ts)
    (q : Post K ad (Rep K ad) as H Q W (.ok (.lst ts) st)) : Q (.ref p) (upd H p (.lst xs)) := q.to (A.fresh hp) (Ext.fresh hp) (rep_newLst A hp r)
theorem om_add : OpM X (binaryOp .Add) opAdd := by
  refine ⟨_, OpR.alt (OpR.rI0 op_add) (OpR.alt op_add_str (OpR.alt op_add_byt (OpR.alt op_catA op_cat))), fun ad as st H x y tx ty Q W A rx ry q => ?_⟩
  unfold opAdd at q
  split at q
  · exact .inl ⟨_, _, rx.intI, ry.intI, trivial, Post.at A (.int _) q⟩
  · split at q
    · exact .inr (.inl ⟨_, _, rx.strI, ry.strI, by assumption, Post.at A (.str _) q⟩)
    · exact q.elim
  · split at q
    · exact .inr (.inr (.inl ⟨_, _, rx.bytI, ry.bytI, by assumption, Post.at A (.byt _) q⟩))
    · exact q.elim
  · split at q
    · rename_i ts us hz
      obtain ⟨a, xs, e1, h1, r1⟩ := rx.tupI
      obtain ⟨b, ys, e2, h2, r2⟩ := ry.tupI
      refine .inr (.inr (.inr (.inl ⟨a, b, xs, ys, e1, e2, h1, h2, by rw [r1.length, r2.length]; exact hz, fun ex => ?_, fun _ ey => ?_, fun _ _ p hp => post_newTup A hp (r1.append r2) q⟩)))
      · subst ex
        cases r1
        rw [← e2]
        exact Post.at A ry q
      · subst ey
        cases r2
        rw [← e1]
        rw [List.append_nil] at q
        exact Post.at A rx q
    · exact q.elim
  · split at q
    · rename_i h1 h2
      split at q
      · rename_i hz
        obtain ⟨a, xs, e1, h1, r1⟩ := rx.lstD A h1
        obtain ⟨b, ys, e2, h2, r2⟩ := ry.lstD A h2
        exact .inr (.inr (.inr (.inr ⟨a, b, xs, ys, e1, e2, h1, h2, by rw [r1.length, r2.length]; exact hz, fun p hp => post_newLst A hp (r1.append r2) q⟩)))
      · exact q.elim
    · exact q.elim

def opMul (x y : T) (st : Sto) : R T := match x, y with
  | .int i, .int j => if i.natAbs.log2 + j.natAbs.log2 < 1000000 then .ok (.int (i * j)) st else .bad
  | .tup a, .int k => if a.length ≠ 0 ∧ a.length ≤ 1000 ∧ 2 ≤ k ∧ k ≤ 1000 then .ok (.tup (List.replicate k.toNat a).flatten) st else .bad
  | x, .int k => match lstD st x with
    | some a => if -(2 ^ 63) ≤ k ∧ k < 2 ^ 63 ∧ a.length * k.toNat ≤ sizeLine then .ok (.lst (List.replicate k.toNat a).flatten) st else .bad
    | none => .bad
  | _, _ => .bad
theorem Reps.rep {K : PySem.W.Frag} {as : List Addr} {H : Hp} {xs : List V} {ts : List T} (r : Reps K ad as H xs ts) : ∀ n : Nat, Reps K ad as H (List.replicate n xs).flatten (List.replicate n ts).flatten
  | 0 => .nil
  | n + 1 => by
    rw [List.replicate_succ, List.flatten_cons, List.replicate_succ, List.flatten_cons]
    exact r.append (Reps.rep r n)
theorem om_mul : OpM X (binaryOp .Mult) opMul := by
  refine ⟨_, OpR.alt op_mulW (OpR.alt op_repT op_rep), fun ad as st H x y tx ty Q W A rx ry q => ?_⟩
  unfold opMul at q
  split at q
  · split at q
    · exact .inl ⟨_, _, rx.intI, ry.intI, by assumption, Post.at A (.int _) q⟩
    · exact q.elim
  · split at q
    · rename_i hz
      obtain ⟨a, xs, e1, h1, r1⟩ := rx.tupI
      refine .inr (.inl ⟨a, _, xs, e1, ry.intI, h1, fun e => ?_, hz.2.2.1, hz.2.2.2, by rw [r1.length]; exact hz.2.1, fun p hp => post_newTup A hp (r1.rep _) q⟩)
      subst e
      exact hz.1 r1.length.symm
    · exact q.elim
  · split at q
    · rename_i h1
      split at q
      · rename_i hz
        obtain ⟨a, xs, e1, h1, r1⟩ := rx.lstD A h1
        exact .inr (.inr ⟨a, _, xs, e1, ry.intI, h1, hz.1, hz.2.1, by rw [r1.length]; exact hz.2.2, fun p hp => post_newLst A hp (r1.rep _) q⟩)
      · exact q.elim
    · exact q.elim
  · exact q.elim

def shaped (t : T) : Bool := match t.pd with
  | some d => SeqAt.shaped d
  | none => false
def opEqB (neg : Bool) (x y : T) (st : Sto) : R T := match now st x, now st y with
  | .str a, .str b => .ok (.bl (if neg then !(a == b) else a == b)) st
  | .byt a, .byt b => .ok (.bl (if neg then !(a.toList == b.toList) else a.toList == b.toList)) st
  | x, y => if shaped x && shaped y then .ok (.bl (if neg then !T.eqv x y else T.eqv x y)) st else .bad
theorem now_str {K : PySem.W.Frag} {as : List Addr} {H : Hp} {st : Sto} {v : V} {t : T} {a : Str} (r : Rep K ad as H v t) (h : now st t = .str a) : v = .str a := by
  unfold now at h
  split at h
  · split at h <;> cases h
  · subst h; exact r.strI
theorem now_byt {K : PySem.W.Frag} {as : List Addr} {H : Hp} {st : Sto} {v : V} {t : T} {a : Array UInt8} (r : Rep K ad as H v t) (h : now st t = .byt a) : v = .byt a := by
  unfold now at h
  split at h
  · split at h <;> cases h
  · subst h; exact r.bytI
theorem shaped_pd {t : T} (h : shaped t = true) : ∃ d, t.pd = some d ∧ SeqAt.shaped d = true := by
  unfold shaped at h
  split at h
  · exact ⟨_, by assumption, h⟩
  · cases h
theorem om_eq (hu : X.A.units + 64 < cLine) : OpM X (compareOp .Eq) (opEqB false) := by
  refine ⟨_, OpR.alt op_eq (op_eqD hu), fun ad as st H x y tx ty Q W A rx ry q => ?_⟩
  unfold opEqB at q
  split at q
  · rename_i a b h1 h2
    obtain rfl := now_str rx h1
    obtain rfl := now_str ry h2
    refine .inl ⟨rfl, ?_⟩
    have e : decide (V.str a = V.str b) = (a == b) := by
      by_cases h : a = b
      · subst h; simp
      · have h' : ¬ V.str a = V.str b := fun z => h (by injection z)
        simp [h, h']
    rw [e]
    exact Post.at A (.bl _) q
  · rename_i a b h1 h2
    obtain rfl := now_byt rx h1
    obtain rfl := now_byt ry h2
    refine .inl ⟨rfl, ?_⟩
    rw [dec_byt]
    exact Post.at A (.bl _) q
  · split at q
    · rename_i h
      rw [Bool.and_eq_true] at h
      obtain ⟨d, h1, s1⟩ := shaped_pd h.1
      obtain ⟨e, h2, s2⟩ := shaped_pd h.2
      refine .inr ⟨d, e, rx.now_dp A h1 (SeqAt.canLay_of_shaped s1), ry.now_dp A h2 (SeqAt.canLay_of_shaped s2), s1, s2, ?_⟩
      rw [T.eqv_pd _ _ h1 h2]
      exact Post.at A (.bl _) q
    · exact q.elim
theorem om_ne (hu : X.A.units + 64 < cLine) : OpM X (compareOp .NotEq) (opEqB true) := by
  refine ⟨_, OpR.alt op_ne (op_neD hu), fun ad as st H x y tx ty Q W A rx ry q => ?_⟩
  unfold opEqB at q
  split at q
  · rename_i a b h1 h2
    obtain rfl := now_str rx h1
    obtain rfl := now_str ry h2
    refine .inl ⟨rfl, ?_⟩
    have e : decide (V.str a = V.str b) = (a == b) := by
      by_cases h : a = b
      · subst h; simp
      · have h' : ¬ V.str a = V.str b := fun z => h (by injection z)
        simp [h, h']
    rw [e]
    exact Post.at A (.bl _) q
  · rename_i a b h1 h2
    obtain rfl := now_byt rx h1
    obtain rfl := now_byt ry h2
    refine .inl ⟨rfl, ?_⟩
    rw [dec_byt]
    exact Post.at A (.bl _) q
  · split at q
    · rename_i h
      rw [Bool.and_eq_true] at h
      obtain ⟨d, h1, s1⟩ := shaped_pd h.1
      obtain ⟨e, h2, s2⟩ := shaped_pd h.2
      refine .inr ⟨d, e, rx.now_dp A h1 (SeqAt.canLay_of_shaped s1), ry.now_dp A h2 (SeqAt.canLay_of_shaped s2), s1, s2, ?_⟩
      rw [T.eqv_pd _ _ h1 h2]
      exact Post.at A (.bl _) q
    · exact q.elim

def atT (ts : List T) (i : Int) (st : Sto) : R T := match atI ts i with
  | some t => .ok t st
  | none => .bad
def opIx (x y : T) (st : Sto) : R T := match y with
  | .int i => match x with
    | .tup ts => atT ts i st
    | .str s => if s.length ≤ sizeLine then (match atI s.cps.toList i with
      | some c => .ok (.str ⟨#[c]⟩) st
      | none => .bad) else .bad
    | .byt b => if b.size ≤ sizeLine then (match atI b.toList i with
      | some c => .ok (.int ((c.toNat : Nat) : Int)) st
      | none => .bad) else .bad
    | x => match lstR st x with
      | some ts => atT ts i st
      | none => .bad
  | _ => .bad
theorem Reps.atI {K : PySem.W.Frag} {as : List Addr} {H : Hp} {xs : List V} {ts : List T} {i : Int} {t : T} (r : Reps K ad as H xs ts) (h : L2.atI ts i = some t) : ∃ v, L2.atI xs i = some v ∧ Rep K ad as H v t := by
  unfold L2.atI at h ⊢
  rw [r.length]
  cases e : ixN ts.length i with
  | none => rw [e] at h; cases h
  | some j => rw [e] at h; exact r.get h
def rIxBy : R2 := fun x y H Q => ∃ (z : Array UInt8) (i : Int) (c : UInt8), x = .byt z ∧ y = .int i ∧ z.size ≤ sizeLine ∧ atI z.toList i = some c ∧ Q (.int ((c.toNat : Nat) : Int)) H
theorem ix_byt {X : Cx} : IxR X rIxBy := by
  intro value slice pins s σ H x y v u Q I rx ry h hs
  obtain ⟨z, i, c, rfl, rfl, hz, he, q⟩ := h
  obtain ⟨t, rfl⟩ := rx
  obtain ⟨t', rfl⟩ := ry
  have hl : sizeLine = 16777216 := sizeLine_eq
  obtain ⟨j, h1, h2, h3, h4, h5⟩ := atI_get he
  rw [Array.length_toList] at h1 h3 h4 h5
  exact PyProof.Rows.tail_any (PySem.W.typeIs_bytes s z t) PySem.W.FB.slot_bytes_getitem.lookup (getItem_gives (PySem.W.typeIs_bytes s _ t) (by decide) PySem.W.FB.slot_bytes_getitem PySem.W.FB.entry_bytes_getitem (PySem.W.FB.args_bytes_getitem_2 _ _)
    (PySem.W.gives_bytes_getitem _ i t t' c (by simp only [Builtin.Bytes.fitsIndex, Bool.and_eq_true, decide_eq_true_eq]; omega) (by rw [h1]; simpa using h2)) ⟨.int _, H, I.tok _, ⟨_, rfl⟩, q⟩) hs
theorem pm_ix {W : WX} {pos : Pos} {a b : Expr} {ma mb : M T} (ha : PM X ad W a ma) (hb : PM X ad W b mb) (hs : PlainIx b) : PM X ad W (.Subscript a b pos) (mBin opIx ma mb) := by
  refine peW (pe_ix (ix_seq.or ix_byt) ha hb hs) (tBin fun ad as st H x y tx ty Q W A rx ry q => ?_)
  unfold opIx at q
  split at q
  · obtain rfl := ry.intI
    split at q
    · rename_i ts
      obtain ⟨a, xs, e1, h1, r1⟩ := rx.tupI
      unfold atT at q
      split at q
      · rename_i e
        obtain ⟨v, g1, g2⟩ := r1.atI e
        exact .inl (.inr (.inl ⟨a, xs, _, v, e1, rfl, h1, g1, Post.at A g2 q⟩))
      · exact q.elim
    · split at q
      · split at q
        · exact .inl (.inr (.inr ⟨_, _, _, rx.strI, rfl, by assumption, by assumption, Post.at A (.str _) q⟩))
        · exact q.elim
      · exact q.elim
    · split at q
      · split at q
        · exact .inr ⟨_, _, _, rx.bytI, rfl, by assumption, by assumption, Post.at A (.int _) q⟩
        · exact q.elim
      · exact q.elim
    · split at q
      · rename_i e0
        obtain ⟨a, xs, e1, h1, r1⟩ := rx.lstR A e0
        unfold atT at q
        split at q
        · rename_i e
          obtain ⟨v, g1, g2⟩ := r1.atI e
          exact .inl (.inl ⟨a, xs, _, v, e1, rfl, h1, g1, Post.at A g2 q⟩)
        · exact q.elim
      · exact q.elim
  · exact q.elim
end
end Mi
namespace Mi
open PySem L2
section
variable {X : Cx} {ad : Ad} {W : WX} {pos p : Pos} {e : Expr} {es : List Expr}
def mNil : M (List T) := fun _ st => .ok [] st
def mCons (a : M T) (r : M (List T)) : M (List T) := fun ρ st => (a ρ st).bind fun x st1 => (r ρ st1).bind fun xs st2 => .ok (x :: xs) st2
theorem pma_nil : PMA X ad W [] mNil := paW pa_nil fun _ _ _ ⟨_, _, _, _, A, _, q⟩ => Post.at A .nil q
theorem pma_cons {a : M T} {r : M (List T)} (ha : PM X ad W e a) (hr : PMA X ad W es r) (hs : starEach (e :: es) X.env = (false, eval e X.env) :: starEach es X.env := by rfl) : PMA X ad W (e :: es) (mCons a r) :=
  paW (pa_cons ha hr hs) fun σ H Q ⟨hd, ρ, as, st, A, E, q⟩ => ⟨hd, ρ, as, st, A, E, Post.step q fun x st1 as1 H1 vx A1 e1 r1 q1 =>
    ⟨hd, ρ, as1, st1, A1, E.ext e1, Post.step q1 fun y st2 as2 H2 vy A2 e2 r2 q2 => Post.at A2 (.cons (r1.ext e2) r2) q2⟩⟩
def seqR (st : Sto) (t : T) : Option (List T) := match t with
  | .tup ts => some ts
  | t => lstR st t
theorem Rep.seqR {K : PySem.W.Frag} {as : List Addr} {H : Hp} {st : Sto} {v : V} {t : T} {ts : List T} (A : Ab K ad as st H) (r : Rep K ad as H v t) (h : seqR st t = some ts) :
    ∃ a xs, v = .ref a ∧ (SqL K H a xs ∨ SqT K H a xs) ∧ Reps K ad as H xs ts := by
  unfold Mi.seqR at h
  split at h
  · cases h
    obtain ⟨a, xs, e, h1, h2⟩ := r.tupI
    exact ⟨a, xs, e, .inr h1, h2⟩
  · obtain ⟨a, xs, e, h1, h2⟩ := r.lstR A h
    exact ⟨a, xs, e, .inl h1, h2⟩
def mTup (m : M (List T)) : M T := fun ρ st => (m ρ st).bind fun ts st1 => if ts.length ≤ sizeLine then .ok (.tup ts) st1 else .bad
def mLst (m : M (List T)) : M T := fun ρ st => (m ρ st).bind fun ts st1 => if ts.length ≤ sizeLine then .ok (.lst ts) st1 else .bad
theorem pm_tup {k : Nat} {m : M (List T)} (h : PMA X ad W es m) : PM X ad W (.Tuple es k pos) (mTup m) :=
  peW (pe_tup h) fun σ H Q ⟨hd, ρ, as, st, A, E, q⟩ => ⟨hd, ρ, as, st, A, E, Post.step q fun x st1 as1 H1 vx A1 e1 r1 q1 => by
    split at q1
    · exact ⟨by rw [r1.length]; assumption, fun p hp => post_newTup A1 hp r1 q1⟩
    · exact q1.elim⟩
theorem pm_lst {m : M (List T)} (h : PMA X ad W es m) : PM X ad W (.List es pos) (mLst m) :=
  peW (pe_lst h) fun σ H Q ⟨hd, ρ, as, st, A, E, q⟩ => ⟨hd, ρ, as, st, A, E, Post.step q fun x st1 as1 H1 vx A1 e1 r1 q1 => by
    split at q1
    · exact ⟨by rw [r1.length]; assumption, fun p hp => post_newLst A1 hp r1 q1⟩
    · exact q1.elim⟩
def CallM (X : Cx) (f : Value) (op : List T → Sto → R T) : Prop :=
  ∃ r, CallR X f r ∧ ∀ ad as st H xs ts Q W, Ab X.K ad as st H → Reps X.K ad as H xs ts → Post X.K ad (Rep X.K ad) as H Q W (op ts st) → r xs H Q
def mApp (op : List T → Sto → R T) (m : M (List T)) : M T := fun ρ st => (m ρ st).bind op
theorem CallR.alt {f : Value} {r r' : List V → Hp → VK → Prop} (h : CallR X f r) (h' : CallR X f r') : CallR X f (fun xs H Q => r xs H Q ∨ r' xs H Q) :=
  fun pins s σ H xs us Q I rx q => q.elim (h pins s σ H xs us Q I rx) (h' pins s σ H xs us Q I rx)
theorem tApp {r : List V → Hp → VK → Prop} {op : List T → Sto → R T} {m : M (List T)} (hop : ∀ ad as st H xs ts Q W, Ab X.K ad as st H → Reps X.K ad as H xs ts → Post X.K ad (Rep X.K ad) as H Q W (op ts st) → r xs H Q) :
    ∀ σ H Q, tM X.K ad (Rep X.K) W (mApp op m) σ H Q → tCB r (tM X.K ad (Reps X.K) W m) σ H Q := fun σ H Q ⟨hd, ρ, as, st, A, E, q⟩ =>
  ⟨hd, ρ, as, st, A, E, Post.step q fun x st1 as1 H1 vx A1 e1 r1 q1 => hop _ as1 st1 H1 vx x Q _ A1 r1 q1⟩
theorem pm_callB {x : Str} {id : String} {op : List T → Sto → R T} {m : M (List T)} (hc : CallM X (.builtin id) op) (hg : Gl X x) (hm : X.mg x = none) (hv : bootBuiltins x = some (.builtin id)) (ha : PMA X ad W (e :: es) m) (hn : x ≠ "__name__" := by decide)
    (hdb : (x == ("__debug__" : Str)) = false := by decide) (he : starEach (e :: es) X.env = (false, eval e X.env) :: starEach es X.env := by rfl) (hpl : (backTo pos (starEach es X.env)).any (·.1) = false := by rfl) :
    PM X ad W (.Call (.Name x p) (e :: es) [] pos) (mApp op m) := by
  obtain ⟨r, h1, h2⟩ := hc
  exact peW (pe_callB h1 hg hm hv ha hn hdb he hpl) (tApp h2)
theorem pm_callTy {x : Str} {id : String} {op : List T → Sto → R T} {m : M (List T)} (hc : CallM X (.type id) op) (hg : Gl X x) (hm : X.mg x = none) (hv : bootBuiltins x = some (.type id)) (ha : PMA X ad W (e :: es) m) (hn : x ≠ "__name__" := by decide)
    (hdb : (x == ("__debug__" : Str)) = false := by decide) (he : starEach (e :: es) X.env = (false, eval e X.env) :: starEach es X.env := by rfl) (hpl : (backTo pos (starEach es X.env)).any (·.1) = false := by rfl) :
    PM X ad W (.Call (.Name x p) (e :: es) [] pos) (mApp op m) := by
  obtain ⟨r, h1, h2⟩ := hc
  exact peW (pe_callTy h1 hg hm hv ha hn hdb he hpl) (tApp h2)
theorem Reps.one {K : PySem.W.Frag} {as : List Addr} {H : Hp} {xs : List V} {t : T} (r : Reps K ad as H xs [t]) : ∃ v, xs = [v] ∧ Rep K ad as H v t := by
  cases r with
  | cons a b => cases b; exact ⟨_, rfl, a⟩
theorem Reps.two {K : PySem.W.Frag} {as : List Addr} {H : Hp} {xs : List V} {t u : T} (r : Reps K ad as H xs [t, u]) : ∃ v w, xs = [v, w] ∧ Rep K ad as H v t ∧ Rep K ad as H w u := by
  cases r with
  | cons a b => cases b with
    | cons c d => cases d; exact ⟨_, _, rfl, a, c⟩

def fLen (xs : List T) (st : Sto) : R T := match xs with
  | [.str s] => if s.length ≤ sizeLine then .ok (.int s.length) st else .bad
  | [.byt b] => if b.size ≤ sizeLine then .ok (.int b.size) st else .bad
  | [t] => match seqR st t with
    | some ts => .ok (.int ts.length) st
    | none => .bad
  | _ => .bad
theorem cm_len : CallM X (.builtin "len") fLen := by
  refine ⟨_, CallR.alt call_len call_len_seq, fun ad as st H xs ts Q W A r q => ?_⟩
  unfold fLen at q
  split at q
  · obtain ⟨v, rfl, rv⟩ := r.one
    obtain rfl := rv.strI
    split at q
    · exact .inl ⟨_, _, rfl, ⟨by assumption, rfl⟩, Post.at A (.int _) q⟩
    · exact q.elim
  · obtain ⟨v, rfl, rv⟩ := r.one
    obtain rfl := rv.bytI
    split at q
    · exact .inl ⟨_, _, rfl, ⟨by assumption, rfl⟩, Post.at A (.int _) q⟩
    · exact q.elim
  · obtain ⟨v, rfl, rv⟩ := r.one
    split at q
    · rename_i ts e
      obtain ⟨a, vs, rfl, h1, h2⟩ := rv.seqR A e
      refine .inr ⟨a, vs, rfl, h1, ?_⟩
      rw [h2.length]
      exact Post.at A (.int _) q
    · exact q.elim
  · exact q.elim
def fInt (xs : List T) (st : Sto) : R T := match xs with
  | [.int i] => .ok (.int i) st
  | [.bl b] => .ok (.int (if b then 1 else 0)) st
  | _ => .bad
theorem cm_int : CallM X (.type "int") fInt := by
  refine ⟨_, call_int1, fun ad as st H xs ts Q W A r q => ?_⟩
  unfold fInt at q
  split at q
  · obtain ⟨v, rfl, rv⟩ := r.one
    obtain rfl := rv.intI
    exact .inl ⟨_, rfl, Post.at A (.int _) q⟩
  · obtain ⟨v, rfl, rv⟩ := r.one
    obtain rfl := rv.blI
    exact .inr ⟨_, rfl, Post.at A (.int _) q⟩
  · exact q.elim
def fMax2 (xs : List T) (st : Sto) : R T := match xs with
  | [.int i, .int j] => .ok (.int (if j > i then j else i)) st
  | _ => .bad
theorem cm_max2 (hc : X.calm = true) : CallM X (.builtin "max") fMax2 := by
  refine ⟨_, call_max2 hc, fun ad as st H xs ts Q W A r q => ?_⟩
  unfold fMax2 at q
  split at q
  · obtain ⟨v, w, rfl, rv, rw⟩ := r.two
    obtain rfl := rv.intI
    obtain rfl := rw.intI
    exact ⟨_, _, rfl, Post.at A (.int _) q⟩
  · exact q.elim
def fMin2 (xs : List T) (st : Sto) : R T := match xs with
  | [.int i, .int j] => .ok (.int (if j < i then j else i)) st
  | _ => .bad
theorem cm_min2 (hc : X.calm = true) : CallM X (.builtin "min") fMin2 := by
  refine ⟨_, call_min2 hc, fun ad as st H xs ts Q W A r q => ?_⟩
  unfold fMin2 at q
  split at q
  · obtain ⟨v, w, rfl, rv, rw⟩ := r.two
    obtain rfl := rv.intI
    obtain rfl := rw.intI
    exact ⟨_, _, rfl, Post.at A (.int _) q⟩
  · exact q.elim
end
end Mi
namespace Mi
open PySem L2
section
variable {X : Cx} {ad : Ad} {W : WX} {pos p : Pos} {e a b c : Expr} {es rest : List Expr}
section
variable {pins : List (Addr × Obj)} {σ : St} {H : Hp} {s : Shared} {as : List Addr}
theorem keys_read {h : Heap} {P : Program} {w : World} : ∀ {kvs : List (Key × V)} {vs : List (Key × Value)} {es : List DictEntry}, KV kvs vs → Pairs (mixKind P w) es vs →
    ReadsAll h (es.map (·.key)) ((kvs.map (·.1)).map keyPd) [] ∧ Vals (kvs.map (·.2)) (es.map (·.val))
  | _, _, _, .nil, .nil => ⟨.nil, .nil⟩
  | (k, x) :: _, (k', u) :: _, e :: _, .cons ⟨h1, h2⟩ t, .cons q1 q2 q3 => by
    obtain ⟨a1, a2⟩ := keys_read t q3
    have h1 : k = k' := h1
    subst h1
    have q1 : keyIs k e.key = true := q1
    have q2 : e.val = u := q2
    have h2 : RelV x u := h2
    refine ⟨?_, .cons (show RelV x e.val by rw [q2]; exact h2) a2⟩
    have hk : Reads h e.key (keyPd k) [] := by
      rcases keyIs_shape q1 with ⟨i, t, rfl, e⟩ | ⟨y, t, rfl, e⟩
      · rw [e]; exact Reads.int i t
      · rw [e]; exact Reads.str y t
    exact ReadsAll.cons hk a1
mutual
theorem Rep.reads (I : Inv X pins σ H s) (hn : H sysModules = none) : ∀ {v : V} {t : T} {d : PyData} {u : Value}, Rep X.K ad as H v t → t.pd = some d → RelV v u → ∃ bs, Reads s.heap u d bs ∧ sysModules ∉ bs
  | _, _, _, _, .non, h, r => by simp only [T.pd, Option.some.injEq] at h; subst h; cases r; exact ⟨_, Reads.none, by simp⟩
  | _, _, _, _, .bl b, h, r => by simp only [T.pd, Option.some.injEq] at h; subst h; cases r; exact ⟨_, Reads.bool b, by simp⟩
  | _, _, _, _, .int i, h, r => by simp only [T.pd, Option.some.injEq] at h; subst h; obtain ⟨t, rfl⟩ := r; exact ⟨_, Reads.int i t, by simp⟩
  | _, _, _, _, .str i, h, r => by simp only [T.pd, Option.some.injEq] at h; subst h; obtain ⟨t, rfl⟩ := r; exact ⟨_, Reads.str i t, by simp⟩
  | _, _, _, _, .byt _, h, _ | _, _, _, _, .ty _, h, _ | _, _, _, _, .frz _ _, h, _ | _, _, _, _, .ref _, h, _ | _, _, _, _, .adr _, h, _ | _, _, _, _, .ptp _ _, h, _ => by simp only [T.pd, reduceCtorEq] at h
  | _, _, _, _, .tup q rs, h, r => by
    simp only [T.pd, Option.map_eq_some_iff] at h
    obtain ⟨ds, h1, rfl⟩ := h
    cases r
    obtain ⟨its, rv, ⟨o, ho, hc, n, hd⟩, _⟩ := I.tuple q.sq
    obtain ⟨bs, hr, hz⟩ := Reps.reads I hn rs h1 rv
    exact ⟨_, Reads.tuple ho hc hd hr, hz⟩
  | _, _, _, _, .lst (a := a) q rs, h, r => by
    simp only [T.pd, Option.map_eq_some_iff] at h
    obtain ⟨ds, h1, rfl⟩ := h
    cases r
    obtain ⟨its, rv, ⟨o, n, ho, hc, _, hd⟩, _⟩ := I.list (SqL.of q.2)
    obtain ⟨bs, hr, hz⟩ := Reps.reads I hn rs h1 rv
    exact ⟨_, Reads.list ho hc hd hr, fun hm => by
      rcases List.mem_cons.mp hm with e | hm
      · have q2 := q.2
        rw [← e, hn] at q2; cases q2
      · exact hz hm⟩
  | _, _, _, _, .dct (a := a) (kvs := kvs) nn q hk rs, h, r => by
    simp only [T.pd, Option.map_eq_some_iff] at h
    obtain ⟨ds, h1, rfl⟩ := h
    cases r
    obtain ⟨_, _, vs, hv, o, es, ep, ho, hx, hd, _, hp, _⟩ := (show ObjOk X.prog X.w H s.heap a (.dK kvs) from I.hok a _ q)
    obtain ⟨a1, a2⟩ := keys_read (h := s.heap) hv hp
    obtain ⟨bs, hr, hz⟩ := Reps.reads I hn rs h1 a2
    subst hk
    have hl : ds.length = kvs.length := by
      have e1 := SeqAt.ReadsAll.length _ _ _ hr
      have e2 := a2.length
      simp only [List.length_map] at e1 e2
      omega
    have z1 : ((((kvs.map (·.1)).map keyPd).zip ds).map (·.1)) = (kvs.map (·.1)).map keyPd := by
      rw [List.map_fst_zip]
      simp [hl]
    have z2 : ((((kvs.map (·.1)).map keyPd).zip ds).map (·.2)) = ds := by
      rw [List.map_snd_zip]
      simp [hl]
    refine ⟨_, Reads.dict (as := []) (bs := bs) ho hx.1 hd (by rw [z1]; exact a1) (by rw [z2]; exact hr), fun hm => ?_⟩
    rcases List.mem_append.mp hm with hm | hm
    · have e : sysModules = a := by simpa using hm
      rw [← e, hn] at q; cases q
    · exact hz hm
theorem Reps.reads (I : Inv X pins σ H s) (hn : H sysModules = none) : ∀ {v : List V} {t : List T} {d : List PyData} {u : List Value}, Reps X.K ad as H v t → T.pds t = some d → Vals v u → ∃ bs, ReadsAll s.heap u d bs ∧ sysModules ∉ bs
  | _, _, _, _, .nil, h, r => by
    simp only [T.pds, Option.some.injEq] at h; subst h; cases r; exact ⟨_, ReadsAll.nil, by simp⟩
  | _, _, _, _, .cons r1 r2, h, r => by
    obtain ⟨d1, d2, h1, h2, rfl⟩ := T.pds_cons h
    cases r with
    | cons q1 q2 =>
      obtain ⟨bs, a1, z1⟩ := Rep.reads I hn r1 h1 q1
      obtain ⟨cs, a2, z2⟩ := Reps.reads I hn r2 h2 q2
      exact ⟨_, ReadsAll.cons a1 a2, fun hm => (List.mem_append.mp hm).elim z1 z2⟩
end
end
end
end Mi
namespace Mi
open PySem L2
section
variable {X : Cx} {ad : Ad} {W : WX} {pos p p2 : Pos} {e a b c : Expr} {es rest : List Expr}
def cutT (xs : List T) (lo hi : Option Int) : List T := (xs.drop (HT.sIx xs.length 0 lo)).take (HT.sIx xs.length xs.length hi - HT.sIx xs.length 0 lo)
theorem Reps.cut {K : PySem.W.Frag} {as : List Addr} {H : Hp} {xs : List V} {ts : List T} (r : Reps K ad as H xs ts) (lo hi : Option Int) : Reps K ad as H (cutV xs lo hi) (cutT ts lo hi) := by
  unfold cutV cutT
  rw [r.length]
  exact (r.drop _).take _
def opSl (x : T) (lo hi : Option Int) (st : Sto) : R T := match x with
  | .tup ts => .ok (.tup (cutT ts lo hi)) st
  | .str z => if z.length ≤ sizeLine then .ok (.str (cutS z lo hi)) st else .bad
  | .byt b => if b.size ≤ 16777216 then .ok (.byt (PySem.W.KBy.picked b lo hi)) st else .bad
  | x => match lstR st x with
    | some ts => .ok (.lst (cutT ts lo hi)) st
    | none => .bad
def mNoPart : M (Option Int) := fun _ st => .ok none st
def mPart (m : M T) : M (Option Int) := fun ρ st => (m ρ st).bind fun x st1 => match x with
  | .int i => .ok (some i) st1
  | _ => .bad
theorem pmo_none : PMO X ad W none mNoPart := poW po_none fun _ _ _ ⟨_, _, _, _, A, _, q⟩ => Post.at A rfl q
theorem pmo_some {m : M T} (h : PM X ad W e m) : PMO X ad W (some e) (mPart m) :=
  poW (po_some h) fun σ H Q ⟨hd, ρ, as, st, A, E, q⟩ => ⟨hd, ρ, as, st, A, E, Post.step q fun x st1 as1 H1 vx A1 e1 r1 q1 => by
    cases r1 with
    | int i => exact ⟨i, rfl, Post.at A1 rfl q1⟩
    | _ => exact q1.elim⟩
def mSl (m : M T) (l u : M (Option Int)) : M T := fun ρ st => (m ρ st).bind fun x st1 => (l ρ st1).bind fun lo st2 => (u ρ st2).bind fun hi st3 => opSl x lo hi st3
theorem pm_sl {m : M T} {l u : M (Option Int)} {lo hi : Option Expr} (he : PM X ad W e m) (hl : PMO X ad W lo l) (hu : PMO X ad W hi u) : PM X ad W (.Subscript e (.Slice lo hi none p2) pos) (mSl m l u) := by
  refine peW (pe_slice (sl_tupA.or (sl_str.or (sl_list.or sl_byt))) he hl hu) fun σ H Q ⟨hd, ρ, as, st, A, E, q⟩ =>
    ⟨hd, ρ, as, st, A, E, Post.step q fun x st1 as1 H1 vx A1 e1 r1 q1 => ⟨hd, ρ, as1, st1, A1, E.ext e1, Post.step q1 fun lo st2 as2 H2 vl A2 e2 r2 q2 =>
      ⟨hd, ρ, as2, st2, A2, (E.ext e1).ext e2, Post.step q2 fun hi st3 as3 H3 vh A3 e3 r3 q3 => ?_⟩⟩⟩
  obtain rfl := r2
  obtain rfl := r3
  replace r1 := (r1.ext e2).ext e3
  unfold opSl at q3
  split at q3
  · rename_i ts
    obtain ⟨a, xs, rfl, h1, h2⟩ := r1.tupI
    refine .inl ⟨a, xs, rfl, h1, fun hw => ?_, fun _ p hp => post_newTup A3 hp (h2.cut _ _) q3⟩
    have : cutT ts vl vh = ts := by
      unfold cutT
      rw [h2.length] at hw
      rw [hw.1, hw.2]
      simp
    rw [this] at q3
    exact Post.at A3 r1 q3
  · split at q3
    · exact .inr (.inl ⟨_, r1.strI, by assumption, Post.at A3 (.str _) q3⟩)
    · exact q3.elim
  · split at q3
    · exact .inr (.inr (.inr ⟨_, r1.bytI, by assumption, Post.at A3 (.byt _) q3⟩))
    · exact q3.elim
  · split at q3
    · rename_i ts e
      obtain ⟨a, xs, rfl, h1, h2⟩ := r1.lstR A3 e
      exact .inr (.inr (.inl ⟨a, xs, rfl, h1, fun p hp => post_newLst A3 hp (h2.cut _ _) q3⟩))
    · exact q3.elim

def opNeg (x : T) (st : Sto) : R T := match x with
  | .int i => .ok (.int (-i)) st
  | _ => .bad
def mUn (op : T → Sto → R T) (m : M T) : M T := fun ρ st => (m ρ st).bind op
theorem pm_neg {m : M T} (h : PM X ad W a m) : PM X ad W (.UnaryOp .USub a pos) (mUn opNeg m) :=
  peW (pe_un un_neg h) fun σ H Q ⟨hd, ρ, as, st, A, E, q⟩ => ⟨hd, ρ, as, st, A, E, Post.step q fun x st1 as1 H1 vx A1 e1 r1 q1 => by
    cases r1 with
    | int i => exact ⟨i, rfl, Post.at A1 (.int _) q1⟩
    | _ => exact q1.elim⟩

def mTOr (a b : M Bool) : M Bool := fun ρ st => (a ρ st).bind fun x st1 => match x with
  | true => .ok true st1
  | false => b ρ st1
def mTNot (a : M Bool) : M Bool := fun ρ st => (a ρ st).bind fun x st1 => .ok (!x) st1
theorem pmw_or1 {m : M Bool} (h : PMT X ad W a m) : PMW X ad W (.BoolOp .Or [a] pos) m := pw_or1 h
theorem pmw_or {ma mb : M Bool} (ha : PMT X ad W a ma) (hb : PMW X ad W (.BoolOp .Or (b :: rest) pos) mb) : PMW X ad W (.BoolOp .Or (a :: b :: rest) pos) (mTOr ma mb) :=
  pwW (pw_or ha hb) fun σ H Q ⟨hd, ρ, as, st, A, E, q⟩ => ⟨hd, ρ, as, st, A, E, Post.step q fun x st1 as1 H1 vx A1 e1 r1 q1 => by
    obtain rfl := r1
    cases vx with
    | false => exact iteF ⟨hd, ρ, as1, st1, A1, E.ext e1, q1⟩
    | true => exact iteT (Post.at A1 rfl q1)⟩
theorem pmt_bool {m : M Bool} {o : BoolOp} (h : PMW X ad W (.BoolOp o es pos) m) : PMT X ad W (.BoolOp o es pos) m := h.pt
theorem pmt_not {m : M Bool} (h : PMT X ad W a m) : PMT X ad W (.UnaryOp .Not a pos) (mTNot m) :=
  ptW (pt_not h) fun σ H Q ⟨hd, ρ, as, st, A, E, q⟩ => ⟨hd, ρ, as, st, A, E, Post.step q fun x st1 as1 H1 vx A1 e1 r1 q1 => by
    obtain rfl := r1
    exact Post.at A1 rfl q1⟩
def mIte (c : M Bool) (a b : M T) : M T := fun ρ st => (c ρ st).bind fun x st1 => match x with
  | true => a ρ st1
  | false => b ρ st1
theorem pm_ite {mc : M Bool} {ma mb : M T} (hc : PMT X ad W c mc) (ha : PM X ad W a ma) (hb : PM X ad W b mb) : PM X ad W (.IfExp c a b pos) (mIte mc ma mb) :=
  peW (pe_ifExp hc ha hb) fun σ H Q ⟨hd, ρ, as, st, A, E, q⟩ => ⟨hd, ρ, as, st, A, E, Post.step q fun x st1 as1 H1 vx A1 e1 r1 q1 => by
    obtain rfl := r1
    cases vx with
    | true => exact iteT ⟨hd, ρ, as1, st1, A1, E.ext e1, q1⟩
    | false => exact iteF ⟨hd, ρ, as1, st1, A1, E.ext e1, q1⟩⟩
end
section
variable {X : Cx} {ad : Ad} {W : WX} {k n : Nat} {f : Addr} {fd : FuncData} {ps : List Str} {F : List T → Sto → R T} {x : Str} {p pos : Pos} {e : Expr} {es : List Expr}
theorem run_gn {sp : Sp} {pins : List (Addr × Obj)} {σ : St} {H : Hp} {s : Shared} {Q : VK} {us : List Value} {vs : List V} (G : GnOk X.prog X.w X.K X.mg X.base k f fd ps sp) (S : Sit X W k) (hb : Binds X.K fd ps [])
    (I : Inv X pins σ H s) (r : Vals vs us) (h : sp vs H Q fun u d H' => W u d σ H') : wpAny (model X.prog X.w) X.A (call (.ref f) us) (EP X pins σ Q) X.xe s := by
  have hl : us.length = ps.length := by rw [← r.length]; exact G.len _ _ _ _ h
  have bb := hb s us I.kIn (by simpa using hl)
  rw [List.append_nil] at bb
  refine wpAny_call (codeAny_mono (G.run X.A X.stack s H ⟨us, []⟩ us vs Q _ S.rm S.gd I.env0 bb r h) fun q s' hq => ?_)
  cases q with
  | error e => exact S.tk e s' (XE.of_call I (fun _ _ _ z => z) hq)
  | ok fl =>
    cases fl with
    | ret u => exact I.after hq
    | next => exact False.elim hq
    | brk => exact False.elim hq
    | cont => exact False.elim hq
theorem pm_call {m : M (List T)} (G : GnOk X.prog X.w X.K X.mg X.base k f fd ps (spF X.K ad n F)) (S : Sit X W k) (hg : Gl X x) (hm : X.mg x = some (.ref f)) (hk : PySem.W.keepIn X.K (.ref f) = true) (hb : Binds X.K fd ps [])
    (ha : PMA X ad W (e :: es) m) (hdb : (x == ("__debug__" : Str)) = false := by decide) (he : starEach (e :: es) X.env = (false, eval e X.env) :: starEach es X.env := by rfl) (hpl : (backTo pos (starEach es X.env)).any (·.1) = false := by rfl) :
    PM X ad W (.Call (.Name x p) (e :: es) [] pos) (mApp (fun ts st => if ts.length = n then F ts st else .bad) m) := by
  refine ⟨fun pins s σ H Q I ⟨hd, ρ, as, st, A, E, q⟩ => wpAny_Call_Name_kw (ld_glob I hg hm ?_ hdb)⟩
  refine PySem.W.callWith_K (h₀ := X.base) I.ok.mod.kin hk (thn (ha.run pos pins s σ H _ I ⟨hd, ρ, as, st, A, E, Post.step (Q := fun vs H1 => spF X.K ad n F vs H1 Q fun u d H' => W u d σ H') q fun ts st1 as1 H1 vs A1 e1 r1 q1 => ?_⟩) fun us s1 ⟨vs, H1, I1, r, q⟩ => ⟨I1.kIn, ?_⟩) he hpl
  · split at q1
    · exact ⟨by rw [r1.length]; assumption, hd, as1, st1, ts, A1, r1, q1⟩
    · exact q1.elim
  · exact run_gn G S hb I1 r q
end
end Mi
namespace Mi
open PySem L2
inductive RS where
  | nx (ρ : Sl) (st : Sto)
  | rt (t : T) (st : Sto)
  | bk (ρ : Sl) (st : Sto)
  | ct (ρ : Sl) (st : Sto)
  | ex (e : Exn) (ρ : Sl) (st : Sto)
  | bad
abbrev SM := Sl → Sto → RS

section
variable (K : PySem.W.Frag) (ad : Ad)
def PostS (as : List Addr) (H : Hp) (D : Ends) (W : WX) : RS → Prop
  | .nx ρ st => ∀ as' H' σ', Ab K ad as' st H' → Ext as H as' H' → En K ad as' H' σ' ρ → D.nx σ' H'
  | .rt t st => ∀ as' H' v, Ab K ad as' st H' → Ext as H as' H' → Rep K ad as' H' v t → D.rt v H'
  | .bk ρ st => ∀ as' H' σ', Ab K ad as' st H' → Ext as H as' H' → En K ad as' H' σ' ρ → D.bk σ' H'
  | .ct ρ st => ∀ as' H' σ', Ab K ad as' st H' → Ext as H as' H' → En K ad as' H' σ' ρ → D.ct σ' H'
  | .ex e ρ st => ∀ as' H' σ' u d, Ab K ad as' st H' → Ext as H as' H' → En K ad as' H' σ' ρ → ExRep K ad as' H' e u d → W u d σ' H'
  | .bad => False
def tS (W : WX) (m : SM) : TS := fun D σ H => ∃ hd ρ as st, Ab K (ad.hide hd) as st H ∧ En K (ad.hide hd) as H σ ρ ∧ PostS K (ad.hide hd) as H D W (m ρ st)
end
abbrev PMS (X : Cx) (ad : Ad) (W : WX) (s : Stmt) (m : SM) : Prop := PS X s (tS X.K ad W m)
abbrev PMSs (X : Cx) (ad : Ad) (W : WX) (s : List Stmt) (m : SM) : Prop := PSs X s (tS X.K ad W m)

def RS.of {α : Type} (r : R α) (ρ : Sl) (f : α → Sto → RS) : RS := match r with
  | .ok a st => f a st
  | .exc e st => .ex e ρ st
  | .bad => .bad
@[simp] theorem RS.of_ok {α : Type} (a : α) (st : Sto) (ρ : Sl) (f : α → Sto → RS) : RS.of (.ok a st) ρ f = f a st := rfl

section
variable {K : PySem.W.Frag} {ad : Ad} {as as' : List Addr} {H H' : Hp} {st : Sto} {σ : St} {ρ : Sl} {D D' : Ends} {W : WX}
theorem PostS.ext (e : Ext as H as' H') {r : RS} (h : PostS K ad as H D W r) : PostS K ad as' H' D W r := by
  cases r with
  | nx ρ st => exact fun a b c A e2 E => h a b c A (e.trans e2) E
  | rt t st => exact fun a b c A e2 E => h a b c A (e.trans e2) E
  | bk ρ st => exact fun a b c A e2 E => h a b c A (e.trans e2) E
  | ct ρ st => exact fun a b c A e2 E => h a b c A (e.trans e2) E
  | ex x ρ st => exact fun a b c u d A e2 E => h a b c u d A (e.trans e2) E
  | bad => exact h
theorem PostS.nxAt (A : Ab K ad as st H) (E : En K ad as H σ ρ) (h : PostS K ad as H D W (.nx ρ st)) : D.nx σ H := h as H σ A Ext.refl E
theorem PostS.expr {α β : Type} {Rl : List Addr → Hp → β → α → Prop} {r : R α} {f : α → Sto → RS} {Q : β → Hp → Prop} (E : En K ad as H σ ρ) (h : PostS K ad as H D W (RS.of r ρ f))
    (k : ∀ t st1 as1 H1 v, Ab K ad as1 st1 H1 → Ext as H as1 H1 → Rl as1 H1 v t → PostS K ad as1 H1 D W (f t st1) → Q v H1) : Post K ad Rl as H Q (fun u d H' => W u d σ H') r := by
  cases r with
  | ok t st' => exact fun as1 H1 v A e r => k t st' as1 H1 v A e r (PostS.ext e h)
  | exc x st' => exact fun as1 H1 u d A e r => h as1 H1 σ u d A e (E.ext e) r
  | bad => exact h
def RS.seq (r : RS) (f : Sl → Sto → RS) : RS := match r with
  | .nx ρ st => f ρ st
  | r => r
theorem PostS.seq {r : RS} {f : Sl → Sto → RS} {N : St → Hp → Prop} (h : PostS K ad as H D W (r.seq f))
    (k : ∀ ρ st1 as1 H1 σ1, Ab K ad as1 st1 H1 → Ext as H as1 H1 → En K ad as1 H1 σ1 ρ → PostS K ad as1 H1 D W (f ρ st1) → N σ1 H1) : PostS K ad as H { D with nx := N } W r := by
  cases r with
  | nx ρ st => exact fun as1 H1 σ1 A e E => k ρ st as1 H1 σ1 A e E (PostS.ext e h)
  | rt t st => exact h
  | bk ρ st => exact h
  | ct ρ st => exact h
  | ex x ρ st => exact h
  | bad => exact h
end
section
variable {X : Cx} {ad : Ad} {W : WX} {pos p p2 : Pos} {e c : Expr} {s : Stmt} {ss a b : List Stmt}
def sNil : SM := fun ρ st => .nx ρ st
def sCons (m r : SM) : SM := fun ρ st => (m ρ st).seq r
theorem pms_nil : PMSs X ad W [] sNil := pssW pss_nil fun _ _ _ ⟨_, _, _, _, A, E, q⟩ => PostS.nxAt A E q
theorem pms_cons {m r : SM} (h1 : PMS X ad W s m) (h2 : PMSs X ad W ss r) : PMSs X ad W (s :: ss) (sCons m r) :=
  pssW (pss_cons h1 h2) fun D σ H ⟨hd, ρ, as, st, A, E, q⟩ => ⟨hd, ρ, as, st, A, E, PostS.seq q fun ρ1 st1 as1 H1 σ1 A1 e1 E1 q1 => ⟨hd, ρ1, as1, st1, A1, E1, q1⟩⟩
def sRet (m : M T) : SM := fun ρ st => RS.of (m ρ st) ρ fun t st1 => .rt t st1
theorem pms_ret {m : M T} (h : PM X ad W e m) : PMS X ad W (.Return (some e) pos) (sRet m) :=
  psW (ps_ret h) fun D σ H ⟨hd, ρ, as, st, A, E, q⟩ => ⟨hd, ρ, as, st, A, E, PostS.expr E q fun t st1 as1 H1 v A1 e1 r1 q1 => q1 as1 H1 v A1 Ext.refl r1⟩
def sIf (c : M Bool) (a b : SM) : SM := fun ρ st => RS.of (c ρ st) ρ fun x st1 => match x with
  | true => a ρ st1
  | false => b ρ st1
theorem pms_if {mc : M Bool} {ma mb : SM} (hc : PMT X ad W c mc) (ha : PMSs X ad W a ma) (hb : PMSs X ad W b mb) : PMS X ad W (.If c a b pos) (sIf mc ma mb) :=
  psW (ps_if hc ha hb) fun D σ H ⟨hd, ρ, as, st, A, E, q⟩ => ⟨hd, ρ, as, st, A, E, PostS.expr E q fun t st1 as1 H1 v A1 e1 r1 q1 => by
    obtain rfl := r1
    cases v with
    | true => exact iteT ⟨hd, ρ, as1, st1, A1, E.ext e1, q1⟩
    | false => exact iteF ⟨hd, ρ, as1, st1, A1, E.ext e1, q1⟩⟩
abbrev GM := T → Sl → Sto → R Sl
def tG (K : PySem.W.Frag) (ad : Ad) (g : GM) : TG := fun v σ H Q => ∃ hd ρ as st t, Ab K (ad.hide hd) as st H ∧ En K (ad.hide hd) as H σ ρ ∧ Rep K (ad.hide hd) as H v t ∧
  Post K (ad.hide hd) (En K (ad.hide hd)) as H (fun σ' H' => Q σ' H') (fun _ _ _ => False) (g t ρ st)
abbrev PMG (X : Cx) (ad : Ad) (e : Expr) (g : GM) : Prop := PG X e (tG X.K ad g)
def gSet (i : Nat) : GM := fun t ρ st => .ok (ρ.set i (some t)) st
theorem pmg_name {i : Nat} {x : Str} (h : PG X (.Name x pos) (gName i)) : PMG X ad (.Name x pos) (gSet i) :=
  pgW h fun v σ H Q ⟨hd, ρ, as, st, t, A, E, r, q⟩ => q as H _ A Ext.refl (E.set r)
abbrev GsM := List T → Sl → Sto → R Sl
def tGs (K : PySem.W.Frag) (ad : Ad) (g : GsM) : TGs := fun vs σ H Q => ∃ hd ρ as st ts, Ab K (ad.hide hd) as st H ∧ En K (ad.hide hd) as H σ ρ ∧ Reps K (ad.hide hd) as H vs ts ∧
  Post K (ad.hide hd) (En K (ad.hide hd)) as H (fun σ' H' => Q σ' H') (fun _ _ _ => False) (g ts ρ st)
theorem pgsW {es : List Expr} {t t' : TGs} (h : PGs X es t) (w : ∀ v σ H Q, t' v σ H Q → t v σ H Q) : PGs X es t' := ⟨fun pins s σ H v u Q I r q => h.run pins s σ H v u Q I r (w _ _ _ _ q)⟩
def gsNil : GsM := fun ts ρ st => match ts with
  | [] => .ok ρ st
  | _ => .bad
def gsCons (g : GM) (r : GsM) : GsM := fun ts ρ st => match ts with
  | t :: ts => (g t ρ st).bind fun ρ1 st1 => r ts ρ1 st1
  | [] => .bad
theorem pmgs_nil : PGs X [] (tGs X.K ad gsNil) := pgsW pgs_nil fun v σ H Q ⟨hd, ρ, as, st, ts, A, E, r, q⟩ => by
  cases r with
  | nil => exact ⟨rfl, q as H _ A Ext.refl E⟩
  | cons _ _ => exact q.elim
theorem pmgs_cons {es : List Expr} {g : GM} {r : GsM} (h1 : PMG X ad e g) (h2 : PGs X es (tGs X.K ad r)) (hs : (assignEach (e :: es) X.env).map (·.2) = assign e X.env :: (assignEach es X.env).map (·.2) := by rfl) : PGs X (e :: es) (tGs X.K ad (gsCons g r)) :=
  pgsW (pgs_cons h1 h2 hs) fun v σ H Q ⟨hd, ρ, as, st, ts, A, E, r, q⟩ => by
    cases r with
    | nil => exact q.elim
    | cons r1 r2 => exact ⟨_, _, rfl, hd, ρ, as, st, _, A, E, r1, Post.step q fun ρ1 st1 as1 H1 σ1 A1 e1 E1 q1 => ⟨hd, ρ1, as1, st1, _, A1, E1, r2.ext e1, q1⟩⟩
def gTupM (n : Nat) (g : GsM) : GM := fun t ρ st => match seqR st t with
  | some ts => if ts.length = n then g ts ρ st else .bad
  | none => .bad
theorem pg_alt {t1 t2 : TG} (h1 : PG X e t1) (h2 : PG X e t2) : PG X e (fun v σ H Q => t1 v σ H Q ∨ t2 v σ H Q) :=
  ⟨fun pins s σ H v u Q I r q => q.elim (h1.run pins s σ H v u Q I r) (h2.run pins s σ H v u Q I r)⟩
theorem pmg_tup {es : List Expr} {k n : Nat} {g : GsM} (hc : X.calm = true) (h : PGs X es (tGs X.K ad g)) (hn : (assignEach es X.env).length = n := by rfl) (hst : (assignEach es X.env).findIdx? (·.1) = none := by rfl) :
    PMG X ad (.Tuple es k pos) (gTupM n g) := pgW (pg_alt (pg_tup hc h hn hst) (pg_unl hc h hn hst)) fun v σ H Q ⟨hd, ρ, as, st, t, A, E, r, q⟩ => by
  unfold gTupM at q
  split at q
  · rename_i ts e
    split at q
    · obtain ⟨a, xs, rfl, h1, h2⟩ := r.seqR A e
      rcases h1 with h1 | h1
      · exact .inr ⟨a, xs, rfl, h1, by rw [h2.length]; assumption, hd, ρ, as, st, _, A, E, h2, q⟩
      · exact .inl ⟨a, xs, rfl, h1, by rw [h2.length]; assumption, hd, ρ, as, st, _, A, E, h2, q⟩
    · exact q.elim
  · exact q.elim
def sAsg (m : M T) (g : GM) : SM := fun ρ st => RS.of (m ρ st) ρ fun t st1 => match g t ρ st1 with
  | .ok ρ2 st2 => .nx ρ2 st2
  | _ => .bad
theorem pms_set {m : M T} {x : Str} {i : Nat} {pos' : Pos} (hN : X.N.Nodup) (hi : X.N[i]? = some x) (hx : Loc X.env.scope x) (h : PM X ad W e m) (hs : swapsWith e (some (.Name x pos')) pos.line X.env = pure false := by rfl)
    (hf : X.fn x = true ∨ X.env.scope.names.lookup x = some .local := by first | exact .inl rfl | exact .inr rfl | assumption) : PMS X ad W (.Assign [.Name x pos'] e pos) (sAsg m (gSet i)) :=
  psW (ps_set hN hi hx h hs hf) fun D σ H ⟨hd, ρ, as, st, A, E, q⟩ => ⟨hd, ρ, as, st, A, E, PostS.expr E q fun t st1 as1 H1 v A1 e1 r1 q1 => PostS.nxAt A1 ((E.ext e1).set r1) q1⟩
inductive Wk where
  | seq (ts : List T)
  | live (r : Nat)
  | dyn (n : Nat) (f : Sto → Nat → Option (Option T))
def liveAt (st : Sto) (r i : Nat) : Option T := match st[r]? with
  | some (.lst ts) => ts[i]?
  | _ => none
def liveLen (st : Sto) (r : Nat) : Nat := match st[r]? with
  | some (.lst ts) => ts.length
  | _ => 0
def ItOk (K : PySem.W.Frag) (ad : Ad) (J : It) (as0 : List Addr) (H0 : Hp) : Wk → Prop
  | .seq ts => ∀ (hd : List Addr), (∀ D ∈ hd, D ∈ ad.hid ∨ H0 D = none) → ∀ (i : Nat) as st H, Ab K (ad.hide hd) as st H → Ext as0 H0 as H → match ts[i]? with
    | none => J.stop i H
    | some t => J.go i H ∧ ∀ x H', J.yld i H x H' → Ab K (ad.hide hd) as st H' ∧ Ext as H as H' ∧ Rep K (ad.hide hd) as H' x t
  | .live r => ∀ (hd : List Addr) (i : Nat) as st H, Ab K (ad.hide hd) as st H → Ext as0 H0 as H → (∃ ts, st[r]? = some (.lst ts)) → match liveAt st r i with
    | none => J.stop i H
    | some t => J.go i H ∧ ∀ x H', J.yld i H x H' → Ab K (ad.hide hd) as st H' ∧ Ext as H as H' ∧ Rep K (ad.hide hd) as H' x t
  | .dyn _ f => ∀ (hd : List Addr), (∀ D ∈ hd, D ∈ ad.hid ∨ H0 D = none) → ∀ (i : Nat) as st H, Ab K (ad.hide hd) as st H → Ext as0 H0 as H → ∀ z, f st i = some z → match z with
    | none => J.stop i H
    | some t => J.go i H ∧ ∀ x H', J.yld i H x H' → Ab K (ad.hide hd) as st H' ∧ Ext as H as H' ∧ Rep K (ad.hide hd) as H' x t
section
variable {K : PySem.W.Frag} {ad : Ad} {as as' : List Addr} {H H' : Hp} {hd : List Addr}
mutual
theorem Rep.extH (e : Ext as H as' H') (hh : ∀ D ∈ hd, D ∈ ad.hid ∨ H D = none) : ∀ {v : V} {t : T}, Rep K ad as H v t → Rep K (ad.hide hd) as' H' v t
  | _, _, .non => .non
  | _, _, .bl b => .bl b
  | _, _, .int b => .int b
  | _, _, .str b => .str b
  | _, _, .byt b => .byt b
  | _, _, .ty b => .ty b
  | _, _, .tup h r => .tup (h.ext e) (Reps.extH e hh r)
  | _, _, .lst h r => .lst ⟨⟨(h.ext e).1.1, fun z => (hh _ z).elim h.1.2 fun n => by rw [h.2] at n; cases n⟩, (h.ext e).2⟩ (Reps.extH e hh r)
  | _, _, .frz h r => .frz (h.ext e) (Reps.extH e hh r)
  | _, _, .dct n h k r => .dct ⟨e.nin n.1 h, fun z => (hh _ z).elim n.2 fun q => by rw [h] at q; cases q⟩ (e.kp n.1 h) k (Reps.extH e hh r)
  | _, _, .ref h => .ref (e.get h)
  | _, _, .adr i => .adr (ad := ad.hide hd) i
  | _, _, .ptp h r => .ptp (h.ext e) (Reps.extH e hh r)
theorem Reps.extH (e : Ext as H as' H') (hh : ∀ D ∈ hd, D ∈ ad.hid ∨ H D = none) : ∀ {v : List V} {t : List T}, Reps K ad as H v t → Reps K (ad.hide hd) as' H' v t
  | _, _, .nil => .nil
  | _, _, .cons r s => .cons (Rep.extH e hh r) (Reps.extH e hh s)
end
end
def tI (K : PySem.W.Frag) (ad : Ad) (W : WX) (m : M Wk) : TI := fun σ H R => ∃ hd ρ as st, Ab K (ad.hide hd) as st H ∧ En K (ad.hide hd) as H σ ρ ∧
  Post K (ad.hide hd) (fun as1 H1 J it => ItOk K (ad.hide hd) J as1 H1 it) as H R (fun u d H' => W u d σ H') (m ρ st)
abbrev PMI (X : Cx) (ad : Ad) (W : WX) (tg iter : Expr) (m : M Wk) : Prop := PI X tg iter (tI X.K ad W m)
theorem piW {tg iter : Expr} {t t' : TI} (h : PI X tg iter t) (w : ∀ σ H R, t' σ H R → t σ H R) : PI X tg iter t' := ⟨fun pins s σ H R I q => h.run pins s σ H R I (w _ _ _ q)⟩
def itSeq (x : T) (st : Sto) : R Wk := match x with
  | .tup ts => .ok (.seq ts) st
  | .lst ts => .ok (.seq ts) st
  | .frz ts => .ok (.seq ts) st
  | .byt b => .ok (.seq (b.toList.map fun c => .int ((c.toNat : Nat) : Int))) st
  | .ref r => match st[r]? with
    | some (.lst _) => .ok (.live r) st
    | _ => .bad
  | _ => .bad
def mIt (m : M T) : M Wk := fun ρ st => (m ρ st).bind itSeq
theorem itOk_lst {K : PySem.W.Frag} {ad : Ad} {as : List Addr} {H : Hp} {a : Addr} {xs : List V} {ts : List T} (h : ∀ as' H', Ext as H as' H' → SqL K H' a xs) (r : Reps K ad as H xs ts) :
    ItOk K ad (Itl K a) as H (.seq ts) := fun hd hh i as1 st1 H1 A e => by
  cases et : ts[i]? with
  | none =>
    refine ⟨xs, h _ _ e, ?_⟩
    rw [r.length]
    exact List.getElem?_eq_none_iff.mp et
  | some t =>
    obtain ⟨x, h1, h2⟩ := r.get et
    refine ⟨⟨xs, x, h _ _ e, h1⟩, fun y H' ⟨e1, e2⟩ => ?_⟩
    subst e1
    have := e2 xs (h _ _ e)
    rw [h1] at this; cases this
    exact ⟨A, Ext.refl, h2.extH e hh⟩
theorem itOk_tup {K : PySem.W.Frag} {ad : Ad} {as : List Addr} {H : Hp} {a : Addr} {xs : List V} {ts : List T} (h : ∀ as' H', Ext as H as' H' → SqT K H' a xs) (r : Reps K ad as H xs ts) :
    ItOk K ad (Itt K a) as H (.seq ts) := fun hd hh i as1 st1 H1 A e => by
  cases et : ts[i]? with
  | none =>
    refine ⟨xs, h _ _ e, ?_⟩
    rw [r.length]
    exact List.getElem?_eq_none_iff.mp et
  | some t =>
    obtain ⟨x, h1, h2⟩ := r.get et
    refine ⟨⟨xs, x, h _ _ e, h1⟩, fun y H' ⟨e1, e2⟩ => ?_⟩
    subst e1
    have := e2 xs (h _ _ e)
    rw [h1] at this; cases this
    exact ⟨A, Ext.refl, h2.extH e hh⟩
theorem itOk_live {K : PySem.W.Frag} {ad : Ad} {as : List Addr} {H : Hp} {a : Addr} {r : Nat} (h : as[r]? = some a) : ItOk K ad (Itl K a) as H (.live r) := fun hd i as1 st1 H1 A e ⟨ts, hs⟩ => by
  obtain ⟨b, h2, xs, h3, h4⟩ := A.get hs
  rw [e.get h] at h2; cases h2
  unfold liveAt
  rw [hs]
  show match ts[i]? with | none => _ | some t => _
  cases et : ts[i]? with
  | none =>
    refine ⟨xs, SqL.of h3, ?_⟩
    rw [h4.length]
    exact List.getElem?_eq_none_iff.mp et
  | some t =>
    obtain ⟨x, h5, h6⟩ := h4.get et
    refine ⟨⟨xs, x, SqL.of h3, h5⟩, fun y H' ⟨e1, e2⟩ => ?_⟩
    subst e1
    have := e2 xs (SqL.of h3)
    rw [h5] at this; cases this
    exact ⟨A, Ext.refl, h6⟩
theorem itOk_byt {K : PySem.W.Frag} {ad : Ad} {as : List Addr} {H : Hp} {b : Array UInt8} : ItOk K ad (Itb b) as H (.seq (b.toList.map fun c => .int ((c.toNat : Nat) : Int))) := fun hd hh i as1 st1 H1 A e => by
  cases et : b[i]? with
  | none =>
    rw [List.getElem?_map, Array.getElem?_toList, et]
    exact Array.getElem?_eq_none_iff.mp et
  | some c =>
    rw [List.getElem?_map, Array.getElem?_toList, et]
    refine ⟨(Array.getElem?_eq_some_iff.mp et).1, fun x H' ⟨e1, d, e2, e3⟩ => ?_⟩
    rw [et] at e2; cases e2
    subst e1; subst e3
    exact ⟨A, Ext.refl, .int _⟩
theorem pmi_seq {tg l : Expr} {m : M T} (h : PM X ad W l m) : PMI X ad W tg l (mIt m) := ⟨fun pins s σ H R I ⟨hd, ρ, as, st, A, E, q⟩ => by
  unfold mIt at q
  cases hm : m ρ st with
  | bad => rw [hm] at q; exact q.elim
  | exc x st1 =>
    rw [hm] at q
    exact (pi_list h).run pins s σ H R I ⟨hd, ρ, as, st, A, E, by rw [hm]; exact q⟩
  | ok x st1 =>
    rw [hm] at q
    replace q : Post X.K (ad.hide hd) (fun as1 H1 J it => ItOk X.K (ad.hide hd) J as1 H1 it) as H R (fun u d H' => W u d σ H') (itSeq x st1) := q
    cases x with
    | tup ts =>
      refine (pi_tup h).run pins s σ H R I ⟨hd, ρ, as, st, A, E, ?_⟩
      rw [hm]
      intro as1 H1 v A1 e1 r1
      cases r1 with
      | tup h1 r1 => exact ⟨_, rfl, ⟨_, h1.sq⟩, q as1 H1 _ A1 e1 (itOk_tup (fun as' H' e => (h1.ext e).sq) r1)⟩
    | lst ts =>
      refine (pi_list h).run pins s σ H R I ⟨hd, ρ, as, st, A, E, ?_⟩
      rw [hm]
      intro as1 H1 v A1 e1 r1
      cases r1 with
      | lst h1 r1 => exact ⟨_, rfl, ⟨_, SqL.of h1.2⟩, q as1 H1 _ A1 e1 (itOk_lst (fun as' H' e => SqL.of (h1.ext e).2) r1)⟩
    | frz ts =>
      refine (pi_list h).run pins s σ H R I ⟨hd, ρ, as, st, A, E, ?_⟩
      rw [hm]
      intro as1 H1 v A1 e1 r1
      cases r1 with
      | frz h1 r1 => exact ⟨_, rfl, ⟨_, h1.sq⟩, q as1 H1 _ A1 e1 (itOk_lst (fun as' H' e => (h1.ext e).sq) r1)⟩
    | byt b =>
      refine (pi_byt h).run pins s σ H R I ⟨hd, ρ, as, st, A, E, ?_⟩
      rw [hm]
      intro as1 H1 v A1 e1 r1
      cases r1 with
      | byt b => exact ⟨_, rfl, q as1 H1 _ A1 e1 itOk_byt⟩
    | ref r =>
      replace q : Post X.K (ad.hide hd) (fun as1 H1 J it => ItOk X.K (ad.hide hd) J as1 H1 it) as H R (fun u d H' => W u d σ H') (match st1[r]? with
        | some (.lst _) => .ok (.live r) st1
        | _ => .bad) := q
      split at q
      · rename_i ts hs
        refine (pi_list h).run pins s σ H R I ⟨hd, ρ, as, st, A, E, ?_⟩
        rw [hm]
        intro as1 H1 v A1 e1 r1
        obtain ⟨a, h2, xs, h3, h4⟩ := A1.get hs
        cases r1 with
        | ref h5 =>
          rw [h2] at h5; cases h5
          exact ⟨_, rfl, ⟨_, SqL.of h3⟩, q as1 H1 _ A1 e1 (itOk_live h2)⟩
      · exact q.elim
    | _ => exact q.elim⟩
def rgT (lo : Int) (n : Nat) : List T := (List.range n).map fun i => .int (lo + (i : Nat))
theorem itOk_rng {K : PySem.W.Frag} {ad : Ad} {as : List Addr} {H : Hp} {lo : Int} {n : Nat} : ItOk K ad (L2.Itr lo n) as H (.seq (rgT lo n)) := fun hd hh i as1 st1 H1 A e => by
  by_cases hi : i < n
  · have : (rgT lo n)[i]? = some (.int (lo + (i : Nat))) := by simp [rgT, hi]
    rw [this]
    exact ⟨hi, fun x H' ⟨e1, e2⟩ => by subst e1; subst e2; exact ⟨A, Ext.refl, .int _⟩⟩
  · have : (rgT lo n)[i]? = none := by simp [rgT]; omega
    rw [this]
    exact Nat.le_of_not_lt hi
def itRng1 (ts : List T) (st : Sto) : R Wk := match ts with
  | [.int j] => if -(2 ^ 62) ≤ j ∧ j < 2 ^ 62 then .ok (.seq (rgT 0 j.toNat)) st else .bad
  | _ => .bad
def mRng (f : List T → Sto → R Wk) (m : M (List T)) : M Wk := fun ρ st => (m ρ st).bind f
theorem pmi_rng1 {tg a : Expr} {m : M (List T)} (hg : Gl X "range") (hm : X.mg "range" = none) (ha : PMA X ad W [a] m) (hs : starEach [a] X.env = [(false, eval a X.env)] := by rfl) : PMI X ad W tg (.Call (.Name "range" p) [a] [] pos) (mRng itRng1 m) :=
  piW (pi_range1 hg hm ha hs) fun σ H R ⟨hd, ρ, as, st, A, E, q⟩ => ⟨hd, ρ, as, st, A, E, Post.step q fun t st1 as1 H1 v A1 e1 r1 q1 => by
    unfold itRng1 at q1
    split at q1
    · split at q1
      · rename_i hb
        obtain ⟨v, rfl, rv⟩ := r1.one
        obtain rfl := rv.intI
        exact ⟨_, rfl, hb.1, hb.2, q1 as1 H1 _ A1 Ext.refl itOk_rng⟩
      · exact q1.elim
    · exact q1.elim⟩
def RS.turn (r : RS) (f : Sl → Sto → RS) : RS := match r with
  | .nx ρ st => f ρ st
  | .ct ρ st => f ρ st
  | .bk ρ st => .nx ρ st
  | .rt t st => .rt t st
  | .ex e ρ st => .ex e ρ st
  | .bad => .bad
def forL (g : GM) (body : SM) : List T → SM
  | [], ρ, st => .nx ρ st
  | t :: ts, ρ, st => match g t ρ st with
    | .ok ρ1 st1 => (body ρ1 st1).turn (forL g body ts)
    | _ => .bad
def forLive (g : GM) (body : SM) (r : Nat) : Nat → Nat → SM
  | 0, _, _, _ => .bad
  | n + 1, i, ρ, st => match st[r]? with
    | some (.lst ts) => match ts[i]? with
      | none => .nx ρ st
      | some t => match g t ρ st with
        | .ok ρ1 st1 => (body ρ1 st1).turn (forLive g body r n (i + 1))
        | _ => .bad
    | _ => .bad
def forDyn (g : GM) (body : SM) (f : Sto → Nat → Option (Option T)) : Nat → Nat → SM
  | 0, _, _, _ => .bad
  | n + 1, i, ρ, st => match f st i with
    | none => .bad
    | some none => .nx ρ st
    | some (some t) => match g t ρ st with
      | .ok ρ1 st1 => (body ρ1 st1).turn (forDyn g body f n (i + 1))
      | _ => .bad
def forI (g : GM) (body : SM) (it : Wk) : SM := fun ρ st => match it with
  | .seq ts => forL g body ts ρ st
  | .live r => forLive g body r (liveLen st r + 1) 0 ρ st
  | .dyn n f => forDyn g body f n 0 ρ st
def sFor (m : M Wk) (g : GM) (body : SM) : SM := fun ρ st => RS.of (m ρ st) ρ fun it st1 => forI g body it ρ st1
theorem PostS.turn {K : PySem.W.Frag} {as : List Addr} {H : Hp} {D : Ends} {r : RS} {f : Sl → Sto → RS} {N : St → Hp → Prop} (h : PostS K ad as H D W (r.turn f))
    (k : ∀ ρ st1 as1 H1 σ1, Ab K ad as1 st1 H1 → Ext as H as1 H1 → En K ad as1 H1 σ1 ρ → PostS K ad as1 H1 D W (f ρ st1) → N σ1 H1) : PostS K ad as H { D with nx := N, ct := N, bk := D.nx } W r := by
  cases r with
  | nx ρ st => exact fun as1 H1 σ1 A e E => k ρ st as1 H1 σ1 A e E (PostS.ext e h)
  | rt t st => exact h
  | bk ρ st => exact h
  | ct ρ st => exact fun as1 H1 σ1 A e E => k ρ st as1 H1 σ1 A e E (PostS.ext e h)
  | ex x ρ st => exact h
  | bad => exact h
theorem postGx {hd : List Addr} {as : List Addr} {H : Hp} {D : Ends} {r : R Sl} {f : Sl → Sto → RS} {N : St → Hp → Prop} (q : PostS X.K (ad.hide hd) as H D W (match r with | .ok ρ2 st2 => f ρ2 st2 | _ => .bad))
    (k : ∀ ρ st1 as1 H1 σ1, Ab X.K (ad.hide hd) as1 st1 H1 → Ext as H as1 H1 → En X.K (ad.hide hd) as1 H1 σ1 ρ → PostS X.K (ad.hide hd) as1 H1 D W (f ρ st1) → N σ1 H1) :
    Post X.K (ad.hide hd) (En X.K (ad.hide hd)) as H (fun σ' H' => N σ' H') (fun _ _ _ => False) r := by
  cases r with
  | ok ρ st => exact fun as1 H1 σ1 A e E => k ρ st as1 H1 σ1 A e E (PostS.ext e q)
  | exc _ _ => exact q.elim
  | bad => exact q
theorem pms_for {tg iter : Expr} {body : List Stmt} {m : M Wk} {g : GM} {mb : SM} {k : Nat} (S : Sit X W k) (hi : PMI X ad W tg iter m) (hg : PMG X ad tg g) (hb : PMSs X ad W body mb) (hs : ∀ x, foldedSetIterable iter X.env x = pure x := by intro _; rfl) :
    PMS X ad W (.For tg iter body [] pos) (sFor m g mb) :=
  psW (ps_for S.po S.calm hi hg hb hs) fun D σ H ⟨hd, ρ, as, st, A, E, q⟩ => ⟨hd, ρ, as, st, A, E, PostS.expr E q fun it st1 as1 H1 J A1 e1 r1 q1 => by
    cases it with
    | seq ts =>
      replace q1 : PostS X.K (ad.hide hd) as1 H1 D W (forL g mb ts ρ st1) := q1
      refine ⟨fun i n σ2 H2 => n = ts.length - i ∧ i ≤ ts.length ∧ ∃ ρ2 as2 st2, Ab X.K (ad.hide hd) as2 st2 H2 ∧ En X.K (ad.hide hd) as2 H2 σ2 ρ2 ∧ Ext as1 H1 as2 H2 ∧ PostS X.K (ad.hide hd) as2 H2 D W (forL g mb (ts.drop i) ρ2 st2),
        ⟨ts.length, by simp, Nat.zero_le _, ρ, as1, st1, A1, E.ext e1, Ext.refl, q1⟩, ?_⟩
      rintro i n σ2 H2 ⟨rfl, hi, ρ2, as2, st2, A2, E2, e2, q2⟩
      have := r1 hd (fun _ z => .inl z) i as2 st2 H2 A2 e2
      by_cases hlt : i < ts.length
      · rw [List.getElem?_eq_getElem hlt] at this
        obtain ⟨go, yl⟩ := this
        refine .inr ⟨go, fun σ3 H3 => i + 1 ≤ ts.length ∧ ∃ ρ3 as3 st3, Ab X.K (ad.hide hd) as3 st3 H3 ∧ En X.K (ad.hide hd) as3 H3 σ3 ρ3 ∧ Ext as1 H1 as3 H3 ∧ PostS X.K (ad.hide hd) as3 H3 D W (forL g mb (ts.drop (i + 1)) ρ3 st3),
          fun σ3 H3 ⟨hi3, h3⟩ => ⟨ts.length - (i + 1), by omega, rfl, hi3, h3⟩, fun x H3 y => ?_⟩
        obtain ⟨A3, e3, r3⟩ := yl x H3 y
        rw [List.drop_eq_getElem_cons hlt] at q2
        replace q2 := PostS.ext e3 q2
        refine ⟨hd, ρ2, as2, st2, ts[i], A3, E2.ext e3, r3, postGx q2 fun ρ4 st4 as4 H4 σ4 A4 e4 E4 q4 => ?_⟩
        exact ⟨hd, ρ4, as4, st4, A4, E4, PostS.turn q4 fun ρ5 st5 as5 H5 σ5 A5 e5 E5 q5 => ⟨hlt, ρ5, as5, st5, A5, E5, ((e2.trans e3).trans e4).trans e5, q5⟩⟩
      · have hi' : i = ts.length := by omega
        subst hi'
        rw [List.getElem?_eq_none (Nat.le_refl _)] at this
        rw [List.drop_length] at q2
        exact .inl ⟨this, PostS.nxAt A2 E2 q2⟩
    | live r =>
      replace q1 : PostS X.K (ad.hide hd) as1 H1 D W (forLive g mb r (liveLen st1 r + 1) 0 ρ st1) := q1
      refine ⟨fun i n σ2 H2 => ∃ ρ2 as2 st2, Ab X.K (ad.hide hd) as2 st2 H2 ∧ En X.K (ad.hide hd) as2 H2 σ2 ρ2 ∧ Ext as1 H1 as2 H2 ∧ PostS X.K (ad.hide hd) as2 H2 D W (forLive g mb r n i ρ2 st2),
        ⟨_, ρ, as1, st1, A1, E.ext e1, Ext.refl, q1⟩, ?_⟩
      rintro i n σ2 H2 ⟨ρ2, as2, st2, A2, E2, e2, q2⟩
      cases n with
      | zero => exact q2.elim
      | succ n =>
        unfold forLive at q2
        split at q2
        · rename_i ts hts
          have := r1 hd i as2 st2 H2 A2 e2 ⟨ts, hts⟩
          have hl : liveAt st2 r i = ts[i]? := by unfold liveAt; rw [hts]
          rw [hl] at this
          split at q2
          · rename_i hn
            rw [hn] at this
            exact .inl ⟨this, PostS.nxAt A2 E2 q2⟩
          · rename_i t ht
            rw [ht] at this
            obtain ⟨go, yl⟩ := this
            refine .inr ⟨go, fun σ3 H3 => ∃ ρ3 as3 st3, Ab X.K (ad.hide hd) as3 st3 H3 ∧ En X.K (ad.hide hd) as3 H3 σ3 ρ3 ∧ Ext as1 H1 as3 H3 ∧ PostS X.K (ad.hide hd) as3 H3 D W (forLive g mb r n (i + 1) ρ3 st3),
              fun σ3 H3 h3 => ⟨n, Nat.lt_succ_self _, h3⟩, fun x H3 y => ?_⟩
            obtain ⟨A3, e3, r3⟩ := yl x H3 y
            replace q2 := PostS.ext e3 q2
            refine ⟨hd, ρ2, as2, st2, t, A3, E2.ext e3, r3, postGx q2 fun ρ4 st4 as4 H4 σ4 A4 e4 E4 q4 => ?_⟩
            exact ⟨hd, ρ4, as4, st4, A4, E4, PostS.turn q4 fun ρ5 st5 as5 H5 σ5 A5 e5 E5 q5 => ⟨ρ5, as5, st5, A5, E5, ((e2.trans e3).trans e4).trans e5, q5⟩⟩
        · exact q2.elim
    | dyn n f =>
      replace q1 : PostS X.K (ad.hide hd) as1 H1 D W (forDyn g mb f n 0 ρ st1) := q1
      refine ⟨fun i n σ2 H2 => ∃ ρ2 as2 st2, Ab X.K (ad.hide hd) as2 st2 H2 ∧ En X.K (ad.hide hd) as2 H2 σ2 ρ2 ∧ Ext as1 H1 as2 H2 ∧ PostS X.K (ad.hide hd) as2 H2 D W (forDyn g mb f n i ρ2 st2),
        ⟨_, ρ, as1, st1, A1, E.ext e1, Ext.refl, q1⟩, ?_⟩
      rintro i n σ2 H2 ⟨ρ2, as2, st2, A2, E2, e2, q2⟩
      cases n with
      | zero => exact q2.elim
      | succ n =>
        unfold forDyn at q2
        have this := r1 hd (fun _ z => .inl z) i as2 st2 H2 A2 e2
        split at q2
        · exact q2.elim
        · rename_i hn
          exact .inl ⟨this _ hn, PostS.nxAt A2 E2 q2⟩
        · rename_i t ht
          obtain ⟨go, yl⟩ := this _ ht
          refine .inr ⟨go, fun σ3 H3 => ∃ ρ3 as3 st3, Ab X.K (ad.hide hd) as3 st3 H3 ∧ En X.K (ad.hide hd) as3 H3 σ3 ρ3 ∧ Ext as1 H1 as3 H3 ∧ PostS X.K (ad.hide hd) as3 H3 D W (forDyn g mb f n (i + 1) ρ3 st3),
            fun σ3 H3 h3 => ⟨n, Nat.lt_succ_self _, h3⟩, fun x H3 y => ?_⟩
          obtain ⟨A3, e3, r3⟩ := yl x H3 y
          replace q2 := PostS.ext e3 q2
          refine ⟨hd, ρ2, as2, st2, t, A3, E2.ext e3, r3, postGx q2 fun ρ4 st4 as4 H4 σ4 A4 e4 E4 q4 => ?_⟩
          exact ⟨hd, ρ4, as4, st4, A4, E4, PostS.turn q4 fun ρ5 st5 as5 H5 σ5 A5 e5 E5 q5 => ⟨ρ5, as5, st5, A5, E5, ((e2.trans e3).trans e4).trans e5, q5⟩⟩⟩

end
end Mi
namespace Mi
open PySem L2
def wipeT (ρ : Sl) : List Nat → Sl
  | [] => ρ
  | v :: vs => (wipeT ρ vs).set v none
def TgM (K : PySem.W.Frag) (g : TG) (gm : T → Sl → Option Sl) (vs : List Nat) : Prop :=
  ∀ ad ρ ρ' as st t v σ H Q, Ab K ad as st H → En K ad as H σ ρ → Rep K ad as H v t → gm t ρ = some ρ' → (∀ σ', wipe σ' vs = wipe σ vs → En K ad as H σ' ρ' → Q σ' H) → g v σ H Q
def noExc {α : Type} (r : R α) : R α := match r with
  | .ok a st => .ok a st
  | _ => .bad
def lcL (g : T → Sl → Option Sl) (tt : M Bool) (elt : M T) (ρ : Sl) : List T → Sto → R (List T)
  | [], st => .ok [] st
  | t :: ts, st => match g t ρ with
    | some ρ1 => (noExc (tt ρ1 st)).bind fun b st2 => match b with
      | true => (noExc (elt ρ1 st2)).bind fun y st3 => (lcL g tt elt ρ ts st3).bind fun ys st4 => .ok (y :: ys) st4
      | false => lcL g tt elt ρ ts st2
    | none => .bad
def lcLv (g : T → Sl → Option Sl) (tt : M Bool) (elt : M T) (ρ : Sl) (r : Nat) : Nat → Nat → Sto → R (List T)
  | 0, _, _ => .bad
  | n + 1, i, st => match st[r]? with
    | some (.lst ts) => if ts.length ≤ sizeLine then (match ts[i]? with
      | none => .ok [] st
      | some t => match g t ρ with
        | some ρ1 => (noExc (tt ρ1 st)).bind fun b st2 => match b with
          | true => (noExc (elt ρ1 st2)).bind fun y st3 => (lcLv g tt elt ρ r n (i + 1) st3).bind fun ys st4 => .ok (y :: ys) st4
          | false => lcLv g tt elt ρ r n (i + 1) st2
        | none => .bad) else .bad
    | _ => .bad
def lcDyn (g : T → Sl → Option Sl) (tt : M Bool) (elt : M T) (ρ : Sl) (f : Sto → Nat → Option (Option T)) : Nat → Nat → Sto → R (List T)
  | 0, _, _ => .bad
  | n + 1, i, st => match f st i with
    | none => .bad
    | some none => .ok [] st
    | some (some t) => match g t ρ with
      | some ρ1 => (noExc (tt ρ1 st)).bind fun b st2 => match b with
        | true => (noExc (elt ρ1 st2)).bind fun y st3 => (lcDyn g tt elt ρ f n (i + 1) st3).bind fun ys st4 => .ok (y :: ys) st4
        | false => lcDyn g tt elt ρ f n (i + 1) st2
      | none => .bad
def lcW (g : T → Sl → Option Sl) (tt : M Bool) (elt : M T) (ρ : Sl) (it : Wk) (st : Sto) : R (List T) := match it with
  | .seq ts => if ts.length ≤ sizeLine then lcL g tt elt ρ ts st else .bad
  | .live r => lcLv g tt elt ρ r (liveLen st r + 1) 0 st
  | .dyn n f => if n ≤ sizeLine then lcDyn g tt elt ρ f n 0 st else .bad
def mLc (mi : M Wk) (g : T → Sl → Option Sl) (tt : M Bool) (elt : M T) (vs : List Nat) : M T := fun ρ st => (mi ρ st).bind fun it st1 => (lcW g tt elt (wipeT ρ vs) it st1).bind fun ys st2 => .ok (.lst ys) st2

section
variable {K : PySem.W.Frag} {ad : Ad} {as : List Addr} {H : Hp} {st : Sto}
theorem En.setNone {σ : St} {ρ : Sl} (E : En K ad as H σ ρ) (i : Nat) : En K ad as H (σ.set i none) (ρ.set i none) := by
  refine ⟨by simp [E.1], fun j t h => ?_⟩
  by_cases hj : i = j
  · subst hj
    by_cases hl : i < ρ.length
    · rw [List.getElem?_set_self hl] at h; cases h
    · rw [List.getElem?_eq_none (by simpa using hl)] at h; cases h
  · rw [List.getElem?_set_ne hj] at h
    rw [List.getElem?_set_ne hj]
    exact E.2 j t h
theorem En.wipe {σ : St} {ρ : Sl} (E : En K ad as H σ ρ) : ∀ vs : List Nat, En K ad as H (L2.wipe σ vs) (wipeT ρ vs)
  | [] => E
  | v :: vs => by
    unfold L2.wipe wipeT
    exact (En.wipe E vs).setNone v
theorem En.hide {D : Addr} {o : HO} {σ : St} {ρ : Sl} (hD : H D = none) (E : En K ad as H σ ρ) : En K (ad.hide (D :: ad.hid)) as (upd H D o) σ ρ := ⟨E.1, fun i t h => by
  obtain ⟨v, h1, h2⟩ := E.2 i t h
  exact ⟨v, h1, h2.hide hD⟩⟩
theorem En.grow {D : Addr} {ys zs : List V} {σ : St} {ρ : Sl} (hh : D ∈ ad.hid) (hD : H D = some (.lst ys)) (E : En K ad as H σ ρ) : En K ad as (upd H D (.lst zs)) σ ρ := ⟨E.1, fun i t h => by
  obtain ⟨v, h1, h2⟩ := E.2 i t h
  exact ⟨v, h1, h2.grow hh hD⟩⟩
end
theorem wipe_set {σ : St} {i : Nat} {x : Option V} : ∀ {vs : List Nat}, i ∈ vs → wipe (σ.set i x) vs = wipe σ vs
  | v :: vs, h => by
    unfold wipe
    by_cases hv : i ∈ vs
    · rw [wipe_set hv]
    · have e : i = v := by rcases List.mem_cons.mp h with e | h; exact e; exact absurd h hv
      subst e
      have key : ∀ (ws : List Nat), i ∉ ws → wipe (σ.set i x) ws = (wipe σ ws).set i x := by
        intro ws
        induction ws with
        | nil => intro _; rfl
        | cons w ws ih =>
          intro hn
          unfold wipe
          rw [ih (fun q => hn (List.mem_cons_of_mem _ q)), List.set_comm]
          intro q
          exact hn (by rw [q]; exact List.mem_cons_self)
      rw [key vs hv, List.set_set]
theorem wipe_wipe (σ : St) (vs : List Nat) : wipe (wipe σ vs) vs = wipe σ vs := by
  have key : ∀ ws : List Nat, (∀ w ∈ ws, w ∈ vs) → wipe (wipe σ ws) vs = wipe σ vs := by
    intro ws
    induction ws with
    | nil => intro _; rfl
    | cons w ws ih =>
      intro h
      have e : wipe σ (w :: ws) = (wipe σ ws).set w none := rfl
      rw [e, wipe_set (h w List.mem_cons_self)]
      exact ih fun x hx => h x (List.mem_cons_of_mem _ hx)
  exact key vs fun _ h => h
section
variable {X : Cx} {ad : Ad} {W : WX} {pos p : Pos}
def tgN (i : Nat) (t : T) (ρ : Sl) : Option Sl := some (ρ.set i (some t))
theorem tg_name {i : Nat} {vs : List Nat} (hi : i ∈ vs) : TgM X.K (gName i) (tgN i) vs := fun ad ρ ρ' as st t v σ H Q A E r h k => by
  cases h
  exact k _ (wipe_set hi) (E.set r)
abbrev PMTs (X : Cx) (ad : Ad) (W : WX) (es : List Expr) (m : M Bool) : Prop := PTs X es (tM X.K ad RlB W m)
theorem pmts_one {e : Expr} {m : M Bool} (h : PMT X ad W e m) : PMTs X ad W [e] m := pts_one h
abbrev W0 : WX := fun _ _ _ _ => False
section
variable {K : PySem.W.Frag} {ad : Ad} {as : List Addr} {H : Hp} {st : Sto} {D : Addr} {xs : List V}
def FinOk (K : PySem.W.Frag) (ad : Ad) (fin : List T → Sto → R T) : Prop := ∀ (hd : List Addr) (as1 : List Addr) (H1 : Hp) (D : Addr) (as2 : List Addr) (st2 : Sto) (H2 : Hp) (xs : List V) (acc : List T) (Q : VK) (W : XK),
  H1 D = none → (D ∈ hd → False) → Ab K (ad.hide (D :: hd)) as2 st2 H2 → Ext as1 H1 as2 H2 → (D ∈ as2 → False) → H2 D = some (.lst xs) → Reps K (ad.hide (D :: hd)) as2 H2 xs acc →
  Post K (ad.hide hd) (Rep K (ad.hide hd)) as1 H1 Q W (fin acc st2) → Q (.ref D) H2
def finV (ys : List T) (st : Sto) : R T := .ok (.lst ys) st
theorem finV_ok : FinOk K ad finV := fun hd as1 H1 D as2 st2 H2 xs acc Q W hD nh A2 e2 nD hD2 r2 q => q.to (A2.show_ (ad := ad.hide hd)) e2 (.lst ⟨⟨nD, nh⟩, hD2⟩ (Reps.show_ (ad := ad.hide hd) r2))
end
def mLcF (fin : List T → Sto → R T) (mi : M Wk) (gm : T → Sl → Option Sl) (tt : M Bool) (elt : M T) (vs : List Nat) : M T := fun ρ st => (mi ρ st).bind fun it st1 => (lcW gm tt elt (wipeT ρ vs) it st1).bind fun ys st2 => fin ys st2
theorem tLcF_of {K : PySem.W.Frag} {g : TG} {gm : T → Sl → Option Sl} {vs : List Nat} {mi : M Wk} {tt : M Bool} {elt : M T} {fin : List T → Sto → R T} (hf : FinOk K ad fin) (hg : TgM K g gm vs) :
    ∀ σ H Q, tM K ad (Rep K) W (mLcF fin mi gm tt elt vs) σ H Q → tLc (tI K ad W mi) g (tM K ad RlB W0 tt) (tM K ad (Rep K) W0 elt) vs σ H Q := fun σ H Q ⟨hd, ρ, as, st, A, E, q⟩ =>
  ⟨hd, ρ, as, st, A, E, Post.step q fun it st1 as1 H1 J A1 e1 r1 q1 => by
    intro D hD
    cases it with
    | live r =>
      replace q1 : Post K (ad.hide hd) (Rep K (ad.hide hd)) as1 H1 Q (fun u d H' => W u d σ H') (R.bind (lcLv gm tt elt (wipeT ρ vs) r (liveLen st1 r + 1) 0 st1) fun ys st2 => fin ys st2) := q1
      refine ⟨fun i n H2 => ∃ acc xs as2 st2, acc.length ≤ i ∧ Ab K (ad.hide (D :: hd)) as2 st2 H2 ∧ Ext as1 H1 as2 H2 ∧ (D ∈ as2 → False) ∧ H2 D = some (.lst xs) ∧ Reps K (ad.hide (D :: hd)) as2 H2 xs acc ∧
          En K (ad.hide (D :: hd)) as2 H2 σ ρ ∧ Post K (ad.hide hd) (Rep K (ad.hide hd)) as1 H1 Q (fun u d H' => W u d σ H') ((lcLv gm tt elt (wipeT ρ vs) r n i st2).bind fun ys st3 => fin (acc ++ ys) st3),
        ⟨_, [], [], as1, st1, Nat.le_refl _, A1.hide hD, Ext.fresh hD, A1.nin hD, upd_same, .nil, (E.ext e1).hide hD, q1⟩, ?_⟩
      rintro i n H2 ⟨acc, xs, as2, st2, hacc, A2, e2, nD, hD2, r2, E2, q2⟩
      cases n with
      | zero => exact q2.elim
      | succ n =>
      unfold lcLv at q2
      split at q2
      case h_2 => exact q2.elim
      case h_1 ts hts =>
      split at q2
      case isFalse => exact q2.elim
      case isTrue hsz =>
      have it := r1 (D :: hd) i as2 st2 H2 A2 e2 ⟨ts, hts⟩
      have hl : liveAt st2 r i = ts[i]? := by unfold liveAt; rw [hts]
      rw [hl] at it
      split at q2
      case h_1 hn =>
        rw [hn] at it
        refine .inl ⟨it, ?_⟩
        have q3 : Post K (ad.hide hd) (Rep K (ad.hide hd)) as1 H1 Q (fun u d H' => W u d σ H') (fin (acc ++ []) st2) := q2
        rw [List.append_nil] at q3
        exact hf hd as1 H1 D as2 st2 H2 xs acc Q _ hD (fun z => by
          obtain ⟨_, u, e, _⟩ := A1.hid D z
          rw [hD] at e; cases e) A2 e2 nD hD2 r2 q3
      case h_2 t ht =>
        rw [ht] at it
        have hlt : i < ts.length := (List.getElem?_eq_some_iff.mp ht).1
        obtain ⟨go, yl⟩ := it
        refine .inr ⟨go, fun H3 => ∃ acc xs as2 st2, acc.length ≤ (i + 1) ∧ Ab K (ad.hide (D :: hd)) as2 st2 H3 ∧ Ext as1 H1 as2 H3 ∧ (D ∈ as2 → False) ∧ H3 D = some (.lst xs) ∧ Reps K (ad.hide (D :: hd)) as2 H3 xs acc ∧
          En K (ad.hide (D :: hd)) as2 H3 σ ρ ∧ Post K (ad.hide hd) (Rep K (ad.hide hd)) as1 H1 Q (fun u d H' => W u d σ H') ((lcLv gm tt elt (wipeT ρ vs) r n (i + 1) st2).bind fun ys st3 => fin (acc ++ ys) st3),
          fun H3 h2 => ⟨n, Nat.lt_succ_self _, h2⟩, fun x H3 y => ?_⟩
        obtain ⟨A3, e3, r3⟩ := yl x H3 y
        have hD3 : H3 D = some (.lst xs) := e3.kp nD hD2
        split at q2
        case h_2 => exact q2.elim
        case h_1 ρ1 hρ1 =>
        refine hg _ _ _ as2 st2 _ _ _ H3 _ A3 ((E2.ext e3).wipe vs) r3 hρ1 fun σ4 hw E4 => ⟨hw.trans (wipe_wipe σ vs), D :: hd, ρ1, as2, st2, A3, E4, ?_⟩
        cases h1 : tt ρ1 st2 with
        | bad => rw [h1] at q2; exact q2.elim
        | exc _ _ => rw [h1] at q2; exact q2.elim
        | ok b st3 =>
          rw [h1] at q2
          intro as4 H4 c A4 e4 rc
          obtain rfl := rc
          have hD4 : H4 D = some (.lst xs) := e4.kp nD hD3
          have nD4 := e4.nin nD hD3
          cases c with
          | false =>
            exact iteF ⟨acc, xs, as4, st3, Nat.le_succ_of_le hacc, A4, (e2.trans e3).trans e4, nD4, hD4, (r2.ext e3).ext e4, (E2.ext e3).ext e4, q2⟩
          | true =>
            refine iteT ⟨D :: hd, ρ1, as4, st3, A4, E4.ext e4, ?_⟩
            replace q2 : Post K (ad.hide hd) (Rep K (ad.hide hd)) as1 H1 Q (fun u d H' => W u d σ H') (R.bind (R.bind (noExc (elt ρ1 st3)) fun y st3 => (lcLv gm tt elt (wipeT ρ vs) r n (i + 1) st3).bind fun ys st4 => .ok (y :: ys) st4) fun ys st3 => fin (acc ++ ys) st3) := q2
            cases h2 : elt ρ1 st3 with
            | bad => rw [h2] at q2; exact q2.elim
            | exc _ _ => rw [h2] at q2; exact q2.elim
            | ok z st5 =>
              rw [h2] at q2
              intro as5 H5 vz A5 e5 rz
              have hD5 : H5 D = some (.lst xs) := e5.kp nD4 hD4
              have nD5 := e5.nin nD4 hD4
              have memD : D ∈ (ad.hide (D :: hd)).hid := List.mem_cons_self
              have r5 := ((r2.ext e3).ext e4).ext e5
              refine ⟨xs, hD5, by rw [r5.length]; omega, acc ++ [z], xs ++ [vz], as5, st5, by simp; omega, A5.grow memD hD5, ?_, nD5, upd_same, (r5.append (.cons rz .nil)).grow memD hD5, (((E2.ext e3).ext e4).ext e5).grow memD hD5, ?_⟩
              · have ee := ((e2.trans e3).trans e4).trans e5
                refine ⟨ee.more, fun a o na q nt => ?_, fun a q => ?_⟩
                · have na' : a ≠ D := ne_of_none q hD
                  rw [upd_ne na']
                  exact ee.keep a o na q nt
                · refine ee.dom a ?_
                  by_cases ea : a = D
                  · subst ea
                    exact (q.no upd_same (fun _ w => by cases w)).elim
                  · intro o w
                    exact q o (by rw [upd_ne ea]; exact w)
              · replace q2 : Post K (ad.hide hd) (Rep K (ad.hide hd)) as1 H1 Q (fun u d H' => W u d σ H') (R.bind (R.bind (lcLv gm tt elt (wipeT ρ vs) r n (i + 1) st5) fun ys st4 => .ok (z :: ys) st4) fun ys st3 => fin (acc ++ ys) st3) := q2
                show Post K (ad.hide hd) (Rep K (ad.hide hd)) as1 H1 Q (fun u d H' => W u d σ H') (R.bind (lcLv gm tt elt (wipeT ρ vs) r n (i + 1) st5) fun ys st3 => fin (acc ++ [z] ++ ys) st3)
                cases h3 : (lcLv gm tt elt (wipeT ρ vs) r n (i + 1) st5) with
                | bad => rw [h3] at q2; exact q2.elim
                | exc _ _ => rw [h3] at q2; exact q2
                | ok ys st6 =>
                  rw [h3] at q2
                  have e : acc ++ [z] ++ ys = acc ++ z :: ys := by simp
                  show Post K (ad.hide hd) (Rep K (ad.hide hd)) as1 H1 Q (fun u d H' => W u d σ H') (fin (acc ++ [z] ++ ys) st6)
                  rw [e]
                  exact q2
    | dyn N f =>
      replace q1 : Post K (ad.hide hd) (Rep K (ad.hide hd)) as1 H1 Q (fun u d H' => W u d σ H') (R.bind (if N ≤ sizeLine then lcDyn gm tt elt (wipeT ρ vs) f N 0 st1 else .bad) fun ys st2 => fin ys st2) := q1
      split at q1
      case isFalse => exact q1.elim
      case isTrue hsz =>
      refine ⟨fun i n H2 => i + n = N ∧ ∃ acc xs as2 st2, acc.length ≤ i ∧ Ab K (ad.hide (D :: hd)) as2 st2 H2 ∧ Ext as1 H1 as2 H2 ∧ (D ∈ as2 → False) ∧ H2 D = some (.lst xs) ∧ Reps K (ad.hide (D :: hd)) as2 H2 xs acc ∧
          En K (ad.hide (D :: hd)) as2 H2 σ ρ ∧ Post K (ad.hide hd) (Rep K (ad.hide hd)) as1 H1 Q (fun u d H' => W u d σ H') ((lcDyn gm tt elt (wipeT ρ vs) f n i st2).bind fun ys st3 => fin (acc ++ ys) st3),
        ⟨_, Nat.zero_add _, [], [], as1, st1, Nat.le_refl _, A1.hide hD, Ext.fresh hD, A1.nin hD, upd_same, .nil, (E.ext e1).hide hD, q1⟩, ?_⟩
      rintro i n H2 ⟨hin, acc, xs, as2, st2, hacc, A2, e2, nD, hD2, r2, E2, q2⟩
      cases n with
      | zero => exact q2.elim
      | succ n =>
      unfold lcDyn at q2
      have it := r1 (D :: hd) (fun z hz => (List.mem_cons.mp hz).elim (fun e => .inr (by rw [e]; exact hD)) .inl) i as2 st2 H2 A2 e2
      split at q2
      case h_1 => exact q2.elim
      case h_2 hn =>
        refine .inl ⟨it _ hn, ?_⟩
        have q3 : Post K (ad.hide hd) (Rep K (ad.hide hd)) as1 H1 Q (fun u d H' => W u d σ H') (fin (acc ++ []) st2) := q2
        rw [List.append_nil] at q3
        exact hf hd as1 H1 D as2 st2 H2 xs acc Q _ hD (fun z => by
          obtain ⟨_, u, e, _⟩ := A1.hid D z
          rw [hD] at e; cases e) A2 e2 nD hD2 r2 q3
      case h_3 t ht =>
        obtain ⟨go, yl⟩ := it _ ht
        refine .inr ⟨go, fun H3 => ∃ acc xs as2 st2, acc.length ≤ (i + 1) ∧ Ab K (ad.hide (D :: hd)) as2 st2 H3 ∧ Ext as1 H1 as2 H3 ∧ (D ∈ as2 → False) ∧ H3 D = some (.lst xs) ∧ Reps K (ad.hide (D :: hd)) as2 H3 xs acc ∧
          En K (ad.hide (D :: hd)) as2 H3 σ ρ ∧ Post K (ad.hide hd) (Rep K (ad.hide hd)) as1 H1 Q (fun u d H' => W u d σ H') ((lcDyn gm tt elt (wipeT ρ vs) f n (i + 1) st2).bind fun ys st3 => fin (acc ++ ys) st3),
          fun H3 h2 => ⟨n, Nat.lt_succ_self _, by omega, h2⟩, fun x H3 y => ?_⟩
        obtain ⟨A3, e3, r3⟩ := yl x H3 y
        have hD3 : H3 D = some (.lst xs) := e3.kp nD hD2
        split at q2
        case h_2 => exact q2.elim
        case h_1 ρ1 hρ1 =>
        refine hg _ _ _ as2 st2 _ _ _ H3 _ A3 ((E2.ext e3).wipe vs) r3 hρ1 fun σ4 hw E4 => ⟨hw.trans (wipe_wipe σ vs), D :: hd, ρ1, as2, st2, A3, E4, ?_⟩
        cases h1 : tt ρ1 st2 with
        | bad => rw [h1] at q2; exact q2.elim
        | exc _ _ => rw [h1] at q2; exact q2.elim
        | ok b st3 =>
          rw [h1] at q2
          intro as4 H4 c A4 e4 rc
          obtain rfl := rc
          have hD4 : H4 D = some (.lst xs) := e4.kp nD hD3
          have nD4 := e4.nin nD hD3
          cases c with
          | false =>
            exact iteF ⟨acc, xs, as4, st3, Nat.le_succ_of_le hacc, A4, (e2.trans e3).trans e4, nD4, hD4, (r2.ext e3).ext e4, (E2.ext e3).ext e4, q2⟩
          | true =>
            refine iteT ⟨D :: hd, ρ1, as4, st3, A4, E4.ext e4, ?_⟩
            replace q2 : Post K (ad.hide hd) (Rep K (ad.hide hd)) as1 H1 Q (fun u d H' => W u d σ H') (R.bind (R.bind (noExc (elt ρ1 st3)) fun y st3 => (lcDyn gm tt elt (wipeT ρ vs) f n (i + 1) st3).bind fun ys st4 => .ok (y :: ys) st4) fun ys st3 => fin (acc ++ ys) st3) := q2
            cases h2 : elt ρ1 st3 with
            | bad => rw [h2] at q2; exact q2.elim
            | exc _ _ => rw [h2] at q2; exact q2.elim
            | ok z st5 =>
              rw [h2] at q2
              intro as5 H5 vz A5 e5 rz
              have hD5 : H5 D = some (.lst xs) := e5.kp nD4 hD4
              have nD5 := e5.nin nD4 hD4
              have memD : D ∈ (ad.hide (D :: hd)).hid := List.mem_cons_self
              have r5 := ((r2.ext e3).ext e4).ext e5
              refine ⟨xs, hD5, by rw [r5.length]; omega, acc ++ [z], xs ++ [vz], as5, st5, by simp; omega, A5.grow memD hD5, ?_, nD5, upd_same, (r5.append (.cons rz .nil)).grow memD hD5, (((E2.ext e3).ext e4).ext e5).grow memD hD5, ?_⟩
              · have ee := ((e2.trans e3).trans e4).trans e5
                refine ⟨ee.more, fun a o na q nt => ?_, fun a q => ?_⟩
                · have na' : a ≠ D := ne_of_none q hD
                  rw [upd_ne na']
                  exact ee.keep a o na q nt
                · refine ee.dom a ?_
                  by_cases ea : a = D
                  · subst ea
                    exact (q.no upd_same (fun _ w => by cases w)).elim
                  · intro o w
                    exact q o (by rw [upd_ne ea]; exact w)
              · replace q2 : Post K (ad.hide hd) (Rep K (ad.hide hd)) as1 H1 Q (fun u d H' => W u d σ H') (R.bind (R.bind (lcDyn gm tt elt (wipeT ρ vs) f n (i + 1) st5) fun ys st4 => .ok (z :: ys) st4) fun ys st3 => fin (acc ++ ys) st3) := q2
                show Post K (ad.hide hd) (Rep K (ad.hide hd)) as1 H1 Q (fun u d H' => W u d σ H') (R.bind (lcDyn gm tt elt (wipeT ρ vs) f n (i + 1) st5) fun ys st3 => fin (acc ++ [z] ++ ys) st3)
                cases h3 : (lcDyn gm tt elt (wipeT ρ vs) f n (i + 1) st5) with
                | bad => rw [h3] at q2; exact q2.elim
                | exc _ _ => rw [h3] at q2; exact q2
                | ok ys st6 =>
                  rw [h3] at q2
                  have e : acc ++ [z] ++ ys = acc ++ z :: ys := by simp
                  show Post K (ad.hide hd) (Rep K (ad.hide hd)) as1 H1 Q (fun u d H' => W u d σ H') (fin (acc ++ [z] ++ ys) st6)
                  rw [e]
                  exact q2
    | seq ts =>
      replace q1 : Post K (ad.hide hd) (Rep K (ad.hide hd)) as1 H1 Q (fun u d H' => W u d σ H') (R.bind (if ts.length ≤ sizeLine then lcL gm tt elt (wipeT ρ vs) ts st1 else .bad) fun ys st2 => fin ys st2) := q1
      split at q1
      case isFalse => exact q1.elim
      case isTrue hsz =>
      -- hd2: D hidden besides
      refine ⟨fun i n H2 => n = ts.length - i ∧ i ≤ ts.length ∧ ∃ acc xs as2 st2, acc.length ≤ i ∧ Ab K (ad.hide (D :: hd)) as2 st2 H2 ∧ Ext as1 H1 as2 H2 ∧ (D ∈ as2 → False) ∧ H2 D = some (.lst xs) ∧ Reps K (ad.hide (D :: hd)) as2 H2 xs acc ∧
          En K (ad.hide (D :: hd)) as2 H2 σ ρ ∧ Post K (ad.hide hd) (Rep K (ad.hide hd)) as1 H1 Q (fun u d H' => W u d σ H') ((lcL gm tt elt (wipeT ρ vs) (ts.drop i) st2).bind fun ys st3 => fin (acc ++ ys) st3),
        ⟨ts.length, by simp, Nat.zero_le _, [], [], as1, st1, Nat.le_refl _, A1.hide hD, Ext.fresh hD, A1.nin hD, upd_same, .nil, (E.ext e1).hide hD, q1⟩, ?_⟩
      rintro i n H2 ⟨rfl, hi, acc, xs, as2, st2, hacc, A2, e2, nD, hD2, r2, E2, q2⟩
      have it := r1 (D :: hd) (fun z hz => (List.mem_cons.mp hz).elim (fun e => .inr (by rw [e]; exact hD)) .inl) i as2 st2 H2 A2 e2
      by_cases hlt : i < ts.length
      · rw [List.getElem?_eq_getElem hlt] at it
        obtain ⟨go, yl⟩ := it
        rw [List.drop_eq_getElem_cons hlt] at q2
        refine .inr ⟨go, fun H3 => i + 1 ≤ ts.length ∧ ∃ acc xs as2 st2, acc.length ≤ i + 1 ∧ Ab K (ad.hide (D :: hd)) as2 st2 H3 ∧ Ext as1 H1 as2 H3 ∧ (D ∈ as2 → False) ∧ H3 D = some (.lst xs) ∧ Reps K (ad.hide (D :: hd)) as2 H3 xs acc ∧
          En K (ad.hide (D :: hd)) as2 H3 σ ρ ∧ Post K (ad.hide hd) (Rep K (ad.hide hd)) as1 H1 Q (fun u d H' => W u d σ H') ((lcL gm tt elt (wipeT ρ vs) (ts.drop (i + 1)) st2).bind fun ys st3 => fin (acc ++ ys) st3),
          fun H3 ⟨h1, h2⟩ => ⟨ts.length - (i + 1), by omega, rfl, h1, h2⟩, fun x H3 y => ?_⟩
        obtain ⟨A3, e3, r3⟩ := yl x H3 y
        have hD3 : H3 D = some (.lst xs) := e3.kp nD hD2
        unfold lcL at q2
        split at q2
        case h_2 => exact q2.elim
        case h_1 ρ1 hρ1 =>
        refine hg _ _ _ as2 st2 _ _ _ H3 _ A3 ((E2.ext e3).wipe vs) r3 hρ1 fun σ4 hw E4 => ⟨hw.trans (wipe_wipe σ vs), D :: hd, ρ1, as2, st2, A3, E4, ?_⟩
        cases h1 : tt ρ1 st2 with
        | bad => rw [h1] at q2; exact q2.elim
        | exc _ _ => rw [h1] at q2; exact q2.elim
        | ok b st3 =>
          rw [h1] at q2
          intro as4 H4 c A4 e4 rc
          obtain rfl := rc
          have hD4 : H4 D = some (.lst xs) := e4.kp nD hD3
          have nD4 := e4.nin nD hD3
          cases c with
          | false =>
            refine iteF ⟨hlt, acc, xs, as4, st3, Nat.le_succ_of_le hacc, A4, (e2.trans e3).trans e4, nD4, hD4, (r2.ext e3).ext e4, (E2.ext e3).ext e4, q2⟩
          | true =>
            refine iteT ⟨D :: hd, ρ1, as4, st3, A4, E4.ext e4, ?_⟩
            replace q2 : Post K (ad.hide hd) (Rep K (ad.hide hd)) as1 H1 Q (fun u d H' => W u d σ H') (R.bind (R.bind (noExc (elt ρ1 st3)) fun y st3 => (lcL gm tt elt (wipeT ρ vs) (ts.drop (i + 1)) st3).bind fun ys st4 => .ok (y :: ys) st4) fun ys st3 => fin (acc ++ ys) st3) := q2
            cases h2 : elt ρ1 st3 with
            | bad => rw [h2] at q2; exact q2.elim
            | exc _ _ => rw [h2] at q2; exact q2.elim
            | ok z st5 =>
              rw [h2] at q2
              intro as5 H5 vz A5 e5 rz
              have hD5 : H5 D = some (.lst xs) := e5.kp nD4 hD4
              have nD5 := e5.nin nD4 hD4
              have memD : D ∈ (ad.hide (D :: hd)).hid := List.mem_cons_self
              have r5 := ((r2.ext e3).ext e4).ext e5
              refine ⟨xs, hD5, by rw [r5.length]; omega, hlt, acc ++ [z], xs ++ [vz], as5, st5, by simp; omega, A5.grow memD hD5, ?_, nD5, upd_same, (r5.append (.cons rz .nil)).grow memD hD5, (((E2.ext e3).ext e4).ext e5).grow memD hD5, ?_⟩
              · have ee := ((e2.trans e3).trans e4).trans e5
                refine ⟨ee.more, fun a o na q nt => ?_, fun a q => ?_⟩
                · have na' : a ≠ D := ne_of_none q hD
                  rw [upd_ne na']
                  exact ee.keep a o na q nt
                · refine ee.dom a ?_
                  by_cases ea : a = D
                  · subst ea
                    exact (q.no upd_same (fun _ w => by cases w)).elim
                  · intro o w
                    exact q o (by rw [upd_ne ea]; exact w)
              · replace q2 : Post K (ad.hide hd) (Rep K (ad.hide hd)) as1 H1 Q (fun u d H' => W u d σ H') (R.bind (R.bind (lcL gm tt elt (wipeT ρ vs) (ts.drop (i + 1)) st5) fun ys st4 => .ok (z :: ys) st4) fun ys st3 => fin (acc ++ ys) st3) := q2
                show Post K (ad.hide hd) (Rep K (ad.hide hd)) as1 H1 Q (fun u d H' => W u d σ H') (R.bind (lcL gm tt elt (wipeT ρ vs) (ts.drop (i + 1)) st5) fun ys st3 => fin (acc ++ [z] ++ ys) st3)
                have q3 : Post K (ad.hide hd) (Rep K (ad.hide hd)) as1 H1 Q (fun u d H' => W u d σ H') (R.bind (lcL gm tt elt (wipeT ρ vs) (ts.drop (i + 1)) st5) fun ys st3 => fin (acc ++ [z] ++ ys) st3) := by
                  cases h3 : lcL gm tt elt (wipeT ρ vs) (ts.drop (i + 1)) st5 with
                  | bad => rw [h3] at q2; exact q2.elim
                  | exc _ _ => rw [h3] at q2; exact q2
                  | ok ys st6 =>
                    rw [h3] at q2
                    have e : acc ++ [z] ++ ys = acc ++ z :: ys := by simp
                    show Post K (ad.hide hd) (Rep K (ad.hide hd)) as1 H1 Q (fun u d H' => W u d σ H') (fin (acc ++ [z] ++ ys) st6)
                    rw [e]
                    exact q2
                exact q3
      · have hi' : i = ts.length := by omega
        subst hi'
        rw [List.getElem?_eq_none (Nat.le_refl _)] at it
        rw [List.drop_length] at q2
        refine .inl ⟨it, ?_⟩
        have q3 : Post K (ad.hide hd) (Rep K (ad.hide hd)) as1 H1 Q (fun u d H' => W u d σ H') (fin (acc ++ []) st2) := q2
        rw [List.append_nil] at q3
        exact hf hd as1 H1 D as2 st2 H2 xs acc Q _ hD (fun z => by
          obtain ⟨_, u, e, _⟩ := A1.hid D z
          rw [hD] at e; cases e) A2 e2 nD hD2 r2 q3⟩

theorem tLc_of {K : PySem.W.Frag} {g : TG} {gm : T → Sl → Option Sl} {vs : List Nat} {mi : M Wk} {tt : M Bool} {elt : M T} (hg : TgM K g gm vs) :
    ∀ σ H Q, tM K ad (Rep K) W (mLc mi gm tt elt vs) σ H Q → tLc (tI K ad W mi) g (tM K ad RlB W0 tt) (tM K ad (Rep K) W0 elt) vs σ H Q := fun σ H Q q => tLcF_of finV_ok hg σ H Q q
theorem pm_lc {elt tg iter : Expr} {ifs : List Expr} {scope : Scope} {own : List (Str × Nat)} {mi : M Wk} {g : TG} {gm : T → Sl → Option Sl} {tt : M Bool} {me : M T} {k : Nat} (S : Sit X W k) (hN : X.N.Nodup) (hgm : TgM X.K g gm (own.map (·.2)))
    (hi : PMI X ad W tg iter mi) (ok : BlkOk X.N X.env.scope scope own)
    (hg : ∀ (s : Shared) (H : Hp) (C : Addr) (cl : List (Str × Addr)) (fp : List Addr), PG (X.blk s H scope (compEnvC scope cl C X.env) fp) tg g)
    (ht : ∀ (s : Shared) (H : Hp) (C : Addr) (cl : List (Str × Addr)) (fp : List Addr), PMTs (X.blk s H scope (compEnvC scope cl C X.env) fp) ad W0 ifs tt)
    (he : ∀ (s : Shared) (H : Hp) (C : Addr) (cl : List (Str × Addr)) (fp : List Addr), PM (X.blk s H scope (compEnvC scope cl C X.env) fp) ad W0 elt me) (hs : ∀ x, foldedSetIterable iter X.env x = pure x := by intro _; rfl) :
    PM X ad W (.ListComp elt [⟨tg, iter, ifs, 0⟩] scope pos) (mLc mi gm tt me (own.map (·.2))) := peW (pe_lc S.calm hN hi ok hg ht he hs) (tLc_of hgm)
theorem Sit.blk {k : Nat} (S : Sit X W k) (s : Shared) (H : Hp) (scope : Scope) (cenv : PySem.Env) (fp : List Addr) : Sit (X.blk s H scope cenv fp) W0 k := ⟨S.calm, S.gd, S.rm, takes0, PassesOwn.never, S.sm⟩
end
end Mi
namespace Mi
open PySem L2 PySem.Spec PyProof.Rows
def runF (n : Nat) (body : SM) (ts : List T) (st : Sto) : R T := match body (ts.map some ++ List.replicate (n - ts.length) none) st with
  | .nx _ st' => .ok .non st'
  | .rt t st' => .ok t st'
  | .ex e _ st' => .exc e st'
  | _ => .bad

section
variable {P : Program} {w : World} {K : PySem.W.Frag} {mg : Str → Option Value} {base : Heap} {ad : Ad}
theorem start_en {K : PySem.W.Frag} {ad : Ad} {as : List Addr} {H : Hp} {N : List Str} {vs : List V} {ts : List T} (r : Reps K ad as H vs ts) : En K ad as H (L2.start N vs) (ts.map some ++ List.replicate (N.length - ts.length) none) := by
  have hl := r.length
  refine ⟨by simp [L2.start, hl], fun i t h => ?_⟩
  unfold L2.start
  by_cases hi : i < ts.length
  · rw [List.getElem?_append_left (by simpa using hi), List.getElem?_map] at h
    cases e : ts[i]? with
    | none => rw [e] at h; cases h
    | some u =>
      rw [e] at h
      cases h
      obtain ⟨v, h1, h2⟩ := r.get e
      exact ⟨v, by rw [List.getElem?_append_left (by simpa [hl] using hi), List.getElem?_map, h1]; rfl, h2⟩
  · rw [List.getElem?_append_right (by simpa using hi), List.getElem?_replicate] at h
    split at h <;> cases h
structure FunA (K : PySem.W.Frag) (x qual : Str) (st : Stmt) (f : Addr) (fd : FuncData) : Prop where
  ex : ∃ (oc : Value) (od : Option Addr) (dV kV doc pm : Value) (an : Option Addr) (cdv ct : Value) (osl : Array (Option Value)),
    fd = PySem.W.fnOf x qual (defArgs st) (defBody st) (defScope st) dV kV doc pm an cdv ct ∧ K.lookup f = some ⟨oc, od, .func fd, osl⟩ ∧ PySem.W.codeIn K cdv qual = true
  kp : PySem.W.keepIn K (.ref f) = true
theorem funA_mk {K : PySem.W.Frag} {x qual : Str} {st : Stmt} {f : Addr} {oc : Value} {od an : Option Addr} {osl : Array (Option Value)} {dV kV doc pm cdv ct : Value} (l : K.lookup f = some ⟨oc, od, .func (PySem.W.fnOf x qual (defArgs st) (defBody st) (defScope st) dV kV doc pm an cdv ct), osl⟩)
    (c : PySem.W.codeIn K cdv qual = true) (k : PySem.W.keepIn K (.ref f) = true) : FunA K x qual st f (PySem.W.fnOf x qual (defArgs st) (defBody st) (defScope st) dV kV doc pm an cdv ct) := ⟨⟨oc, od, dV, kV, doc, pm, an, cdv, ct, osl, rfl, l, c⟩, k⟩
theorem gn_okC {x qual : Str} {st : Stmt} {f : Addr} {fd : FuncData} {N ps : List Str} {k n : Nat} {body : SM} (F : FunA K x qual st f fd) (S : FnScope N ps (defScope st)) (hsm : ∃ o, base.get? sysModules = some o) (hn : ps.length = n)
    (hbody : ∀ (cdv : Value) (A : Around) (outer : List PySem.Env) (s : Shared) (H : Hp) (E : XK), fd.code = cdv → Sit (cxOf (MCX P w) P w K mg base N qual (defScope st) f cdv A outer s H E) (fun c d _ H => E c d H) k →
      PMSs (cxOf (MCX P w) P w K mg base N qual (defScope st) f cdv A outer s H E) ad (fun c d _ H => E c d H) (defBody st) body) :
    GnOk P w K mg base (k + 1) f fd ps (spF K ad n (runF N.length body)) := by
  obtain ⟨oc, od, dV, kV, doc, pm, an, cdv, ct, osl, rfl, lk, hcd⟩ := F.ex
  refine ⟨fun vs H Q E h => h.1.trans hn.symm, fun A outer s H args us vs Q E hr hg e0 hb r hsp => ?_⟩
  obtain ⟨hl, hd, as, sto, ts, Ab0, rts, hq⟩ := hsp
  rw [← hn] at hl
  have KX : K.In s.heap := e0.mod.kin.keeps fun b o e => (e0.bs b o e).1
  have lim : s.heap.NoLimit := e0.mod.nolimit.keeps fun b o e => (e0.bs b o e).1
  have hkind : ∀ y ∈ ps.zip us, (defScope st).names.lookup y.1 = some .local ∨
      ((defScope st).names.lookup y.1 = some .cell ∧ ((cellsFrom (s.heap.objs.size + 1) (defScope st).names []).lookup y.1).isSome = true) := by
    rintro ⟨n, v⟩ hy
    rcases S.par n (List.of_mem_zip hy).1 with q | q
    · exact .inl q
    · exact .inr ⟨q, PySem.W.cellsFrom_some _ _ _ (.inl q)⟩
  refine codeAny_call_function hr.depth (KX _ _ lk) rfl S.co S.gen rfl (PySem.W.codeRec_of KX hcd) (hb _ _ _ _ (wpAny_newFunctionEnv_cells S.kind hkind fun env he s1 x => ?_))
  subst he
  refine ⟨lim.keeps x.toInCall.keep, codeAny_func ?_⟩
  have sit : Sit (cxOf (MCX P w) P w K mg base N qual (defScope st) f cdv A outer s H E) (fun c d _ H => E c d H) k :=
    ⟨rfl, hg, hr.deeper _, takes_of rfl rfl rfl rfl, passes_of rfl, hsm⟩
  have I : Inv (cxOf (MCX P w) P w K mg base N qual (defScope st) f cdv A outer s H E) [] (L2.start N vs) H s1 := inv_start S hr.hd e0 hl r x
  have fin : ∀ {σ' : L2.St} {H' : Hp} {v : V} {u : Value} {s' : Shared}, Inv (cxOf (MCX P w) P w K mg base N qual (defScope st) f cdv A outer s H E) [] σ' H' s' → RelV v u → Q v H' → CE outer P w H s Q u s' :=
    fun {σ' H' v u s'} J rv q => ⟨v, H', J.os, J.bare, J.base, J.hok, rv, q⟩
  have start_ok : tS K ad (fun c d _ H => E c d H) body { nx := fun _ H' => Q .non H', rt := Q } (L2.start N vs) H := by
    refine ⟨hd, _, as, sto, Ab0, start_en rts, ?_⟩
    unfold runF at hq
    revert hq
    generalize body (ts.map some ++ List.replicate (N.length - ts.length) none) sto = r
    intro hq
    cases r with
    | nx ρ st => exact fun as' H' σ' A e E => hq as' H' .non A e .non
    | rt t st => exact fun as' H' v A e r => hq as' H' v A e r
    | bk ρ st => exact hq.elim
    | ct ρ st => exact hq.elim
    | ex x ρ st => exact fun as' H' σ' u d A e _ r => hq as' H' u d A e r
    | bad => exact hq.elim
  refine wpAny_mono ((hbody cdv A outer s H E rfl sit).run [] s1 (L2.start N vs) H _ I start_ok) (fun fl s' hs => ?_) fun e s' hs => hs
  cases fl with
  | ret u =>
    obtain ⟨v, σ', H', J, rv, q⟩ := hs
    exact fin J rv q
  | next =>
    obtain ⟨σ', H', J, q⟩ := hs
    exact fin (v := V.non) (u := Value.none) J rfl q
  | brk => exact False.elim (let ⟨_, _, _, q⟩ := hs; q)
  | cont => exact False.elim (let ⟨_, _, _, q⟩ := hs; q)
theorem gn_ok {x qual : Str} {st : Stmt} {f : Addr} {fd : FuncData} {N ps : List Str} {k n : Nat} {body : SM} (F : FunA K x qual st f fd) (S : FnScope N ps (defScope st)) (hsm : ∃ o, base.get? sysModules = some o) (hn : ps.length = n)
    (hbody : ∀ (cdv : Value) (A : Around) (outer : List PySem.Env) (s : Shared) (H : Hp) (E : XK), Sit (cxOf (MCX P w) P w K mg base N qual (defScope st) f cdv A outer s H E) (fun c d _ H => E c d H) k →
      PMSs (cxOf (MCX P w) P w K mg base N qual (defScope st) f cdv A outer s H E) ad (fun c d _ H => E c d H) (defBody st) body) :
    GnOk P w K mg base (k + 1) f fd ps (spF K ad n (runF N.length body)) := gn_okC F S hsm hn fun cdv A outer s H E _ sit => hbody cdv A outer s H E sit
theorem gn_none {f : Addr} {fd : FuncData} {ps : List Str} {n : Nat} (hn : ps.length = n) {k : Nat} : GnOk P w K mg base k f fd ps (spF K ad n fun _ _ => .bad) :=
  ⟨fun vs H Q E h => h.1.trans hn.symm, fun A outer s H args us vs Q E _ _ _ _ _ h => by
    obtain ⟨_, _, _, _, _, _, _, q⟩ := h
    exact q.elim⟩
theorem GnOk.mono {f : Addr} {fd : FuncData} {ps : List Str} {sp : Sp} {j k : Nat} (F : GnOk P w K mg base j f fd ps sp) (h : j ≤ k) : GnOk P w K mg base k f fd ps sp :=
  ⟨F.len, fun A outer s H args us vs Q E hr => F.run A outer s H args us vs Q E (hr.mono h)⟩
end
theorem law_run {P : Program} {w : World} {K : PySem.W.Frag} {ad : Ad} {mg mb : Str → Option Value} {k : Nat} {fa a : Addr} {fd : FuncData} {x : Str} {F : List T → Sto → R T} {s₁ : Shared} {vs : List Value} {ns : List Int}
    (KX : K.In s₁.heap) (hns : s₁.heap.Ns mainGlobals mg) (hb : s₁.heap.Ns builtinsNs mb) (hbb : ∀ x : Str, x ≠ "__name__" → mb x = bootBuiltins x) (hlim : s₁.heap.NoLimit) (hmod : ∃ mm, s₁.heap.Ns sysModules mm) (hg : s₁.gens = #[])
    (ha : s₁.heap.get? a = some { cls := .type "list", data := .seq vs.toArray }) (hi : IntsAre vs ns) (hl : ns.length ≤ sizeLine) (hr : Room k callerA) (had : ad.hid = []) (hat : ad.tabs = [])
    (hF : ∀ base : Heap, K.In base → base.Ns mainGlobals mg → (∃ o, base.get? sysModules = some o) → GnOk P w K mg base k fa fd [x] (spF K ad 1 F)) (hbind : ∀ (s : Shared) (u : Value), BindsTo s fd ⟨[u], []⟩ [(x, u)])
    (hlaw : ∃ st, F [.frz (ns.map T.int)] [] = .ok (.bl true) st) :
    codeAny (model P w) callerA (.call (.ref fa) ⟨[.ref a], []⟩) (fun r s' => r = .ok (.ret (.bool true)) ∧ OldK s₁.heap s'.heap ∧ s'.os = s₁.os ∧ AllBare s'.gens) s₁ := by
  obtain ⟨stE, hlaw⟩ := hlaw
  have rv := vals_ints hi
  have lenV := hi.length
  have repInts : ∀ (as : List Addr) (H : Hp) (l : List Int), Reps K (ad.hide []) as H (l.map V.int) (l.map T.int) := fun as H l => by
    induction l with
    | nil => exact .nil
    | cons i r ih => exact .cons (.int i) ih
  have core : ∀ H : Hp, Only H → SqL K H a (ns.map V.int) → HOk P w H s₁.heap → (∀ b, H b ≠ none → b = a) → (H a ≠ none → K.lookup a = none) →
      codeAny (model P w) callerA (.call (.ref fa) ⟨[.ref a], []⟩) (fun r s' => r = .ok (.ret (.bool true)) ∧ OldK s₁.heap s'.heap ∧ s'.os = s₁.os ∧ AllBare s'.gens) s₁ := by
    intro H hO hS hok hA hK
    have hid : ∀ {b : Addr} {o : Obj}, s₁.heap.get? b = some o → H b = none → (hidT s₁.heap H).get? b = some o := fun e n => hidT_get e n
    have notA : ∀ {b : Addr} {o : Obj}, s₁.heap.get? b = some o → (∀ n, o.data ≠ .seq vs.toArray n) → H b = none := fun {b o} e d => by
      cases q : H b with
      | none => rfl
      | some u =>
        have e' : b = a := hA b (by rw [q]; simp)
        rw [e', ha] at e
        cases e
        exact absurd rfl (d _)
    have nsK : ∀ {b : Addr} {m : Str → Option Value}, s₁.heap.Ns b m → (hidT s₁.heap H).Ns b m := fun {b m} ⟨o, es, ep, e, d, r⟩ => ⟨o, es, ep, hid e (notA e fun n z => by rw [d] at z; cases z), d, r⟩
    have hKb : K.In (hidT s₁.heap H) := fun b o e => by
      refine hid (KX b o e) ?_
      cases q : H b with
      | none => rfl
      | some u =>
        have e' : b = a := hA b (by rw [q]; simp)
        rw [e', hK (by rw [← e', q]; simp)] at e
        cases e
    have hM : Mod K mg (hidT s₁.heap H) := ⟨hKb, nsK hns, ⟨mb, nsK hb, hbb⟩, let ⟨mc, h1, h2⟩ := hlim; ⟨mc, nsK h1, h2⟩⟩
    have e0 : Env0 P w K mg (hidT s₁.heap H) callerA [] s₁ H :=
      ⟨rfl, hM, fun b o e => of_hidT e, Nat.le_of_eq (hidT_size _ _), trivial, fun b hb => absurd (show b ∈ ([] : List Addr) from hb) (by simp), hok, .of_eq hg⟩
    have hsm : ∃ o, (hidT s₁.heap H).get? sysModules = some o := by
      obtain ⟨mm, hm⟩ := hmod
      obtain ⟨o, _, _, e, _⟩ := nsK hm
      exact ⟨o, e⟩
    have frz : FrzAt K [] H a (ns.map V.int) := by
      rcases hS with (h | ⟨o, h⟩) | h
      · rcases hO a with z | ⟨o, xs, z⟩
        · rw [h] at z; cases z
        · rw [h] at z; cases z
      · exact .inl ⟨by simp, o, h⟩
      · exact .inr (.inr h)
    have ab : Ab K (ad.hide []) [] [] H := ⟨rfl, List.nodup_nil, fun i a o h => by simp at h, fun a h => (by cases h), (by show LamX.Tabs ad.tabs H; rw [hat]; exact fun p hp => nomatch hp)⟩
    have sp : spF K ad 1 F [.ref a] H (fun v _ => v = .bl true) (fun _ _ _ => False) := by
      refine ⟨rfl, [], [], [], [.frz (ns.map T.int)], ab, .cons (.frz frz (repInts _ _ _)) .nil, ?_⟩
      rw [hlaw]
      intro as' H' v _ _ r
      exact r.blI
    refine codeAny_mono ((hF _ hKb (nsK hns) hsm).run callerA [] s₁ H ⟨[.ref a], []⟩ [.ref a] [.ref a] _ _ hr rfl e0 (hbind s₁ (.ref a)) (.cons rfl .nil) sp) fun r s' h => ?_
    cases r with
    | error e =>
      obtain ⟨_, _, _, _, _, _, _, _, _, _, _, _, z⟩ := h
      exact z.elim
    | ok fl =>
      cases fl with
      | next => exact False.elim h
      | brk => exact False.elim h
      | cont => exact False.elim h
      | ret u =>
        obtain ⟨v, H', os, bare, un, hok', r', q⟩ := h
        have q' : v = .bl true := q
        subst q'
        obtain rfl : u = Value.bool true := r'
        refine ⟨rfl, OldK.of_keep fun b o e => ?_, os, bare⟩
        cases q : H b with
        | none => exact un.keep b o e q (fun z => absurd (show b ∈ ([] : List Addr) from z) (by simp)) (by simp)
        | some u =>
          rcases hO b with z | ⟨ob, xs, z⟩
          · rw [q] at z; cases z
          · obtain ⟨e1, _⟩ := hok b _ z
            obtain ⟨e2, _⟩ := hok' b _ (un.frzs b ob _ z)
            rw [e] at e1; cases e1
            exact e2
  cases hk : K.lookup a with
  | some o =>
    have e := KX a o hk
    rw [ha] at e
    cases e
    refine core (fun _ => none) (fun _ => .inl rfl) (.inr ⟨_, vs.toArray, _, hk, rfl, rfl, rfl, by rw [List.size_toArray, lenV]; exact hl, by simpa using rv⟩) (fun b u z => ?_) (fun b z => absurd rfl z) fun z => absurd rfl z
    have z' : (none : Option HO) = some u := z
    cases z'
  | none =>
    let H0 : Hp := fun b => if b = a then some (.frz { cls := .type "list", data := .seq vs.toArray } (.lst (ns.map V.int))) else none
    have at_ : H0 a = some (.frz { cls := .type "list", data := .seq vs.toArray } (.lst (ns.map V.int))) := if_pos rfl
    have off : ∀ b, b ≠ a → H0 b = none := fun b h => if_neg h
    refine core H0 (fun b => ?_) (.inl (.inr ⟨_, at_⟩)) (fun b u z => ?_) (fun b z => ?_) fun _ => hk
    · by_cases hb : b = a
      · subst hb; exact .inr ⟨_, _, at_⟩
      · exact .inl (off b hb)
    · by_cases hb : b = a
      · subst hb
        rw [at_] at z; cases z
        exact ⟨ha, by rw [List.length_map]; exact hl, vs, _, rv, ha⟩
      · rw [off b hb] at z; cases z
    · by_cases hb : b = a
      · exact hb
      · exact absurd (off b hb) z
theorem walkM {l : PySem.W.OpenLaw} {n k : Nat} {q : Program} {loose : List Str} {XP : (Str → Option Value) → Heap → Prop} {YP : World → Heap → Prop} {d : DefRec} {K : Params → PySem.W.Frag} {x : Str} {F : List T → Sto → R T}
    (hn : l.most = some n) (hn2 : n ≤ sizeLine) (hdf : d.params.defaults = []) (hr : Room k callerA) (hi : importsNone q = true)
    (hY : ∀ (w : World) (h : Heap), YP w h → (K w.params).In h)
    (hlaw : ∀ ns : List Int, ns.length ≤ n → ∃ st, F [.frz (ns.map T.int)] [] = .ok (.bl true) st)
    (hF : ∀ (w : World) (mg : Str → Option Value) (fa : Addr) (h : Heap), (K w.params).In h → h.Ns mainGlobals mg → mg d.name = some (.ref fa) →
      ∃ (ad : Ad) (fd : FuncData), ad.hid = [] ∧ ad.tabs = [] ∧ (∀ (s : Shared) (u : Value), BindsTo s fd ⟨[u], []⟩ [(x, u)]) ∧
        ∀ base : Heap, (K w.params).In base → base.Ns mainGlobals mg → (∃ o, base.get? sysModules = some o) → GnOk l.prog w (K w.params) mg base k fa fd [x] (spF (K w.params) ad 1 F)) :
    PySem.W.WalkO q loose XP YP l.row.toRowW d [] (fun f vs => PySem.call f vs) := by
  refine Att.attach_call hn hdf fun w s₀ s₁ mg mb fa o pm cd doc a vs ns G Y ho hd hcd hmg hobj hints hlen hg => ?_
  have KX := hY w _ Y
  obtain ⟨ad, fd, had, hat, hb, hG⟩ := hF w mg fa _ KX G.T.g hmg
  obtain ⟨mm, hm, _⟩ := (G.T.seer hi).mods
  exact law_run KX G.T.g G.T.b G.T.builtins G.T.nolimit ⟨mm, hm⟩ hg hobj hints (Nat.le_trans hlen hn2) hr had hat hG hb (hlaw ns hlen)
end Mi
namespace Mi
open PySem L2
section
variable {X : Cx} {ad : Ad} {W : WX} {pos p cpos apos : Pos} {o e : Expr} {es : List Expr}
def MethM (X : Cx) (id : String) (op : T → List T → Sto → R T) : Prop :=
  ∃ r, MtR X id r ∧ ∀ ad as st H x xs tx ts Q W, Ab X.K ad as st H → Rep X.K ad as H x tx → Reps X.K ad as H xs ts → Post X.K ad (Rep X.K ad) as H Q W (op tx ts st) → r x xs H Q
def tyM (st : Sto) (t : T) : Option String := match t with
  | .str _ => some "str"
  | .int _ => some "int"
  | .dct _ _ => some "dict"
  | t => match lstR st t with
    | some _ => some "list"
    | none => none
theorem Rep.tyV {K : PySem.W.Frag} {as : List Addr} {H : Hp} {st : Sto} {v : V} {t : T} {n : String} (A : Ab K ad as st H) (r : Rep K ad as H v t) (h : tyM st t = some n) : L2.tyV K n v H := by
  unfold tyM at h
  split at h
  · cases h; obtain rfl := r.strI; exact rfl
  · cases h; obtain rfl := r.intI; exact rfl
  · cases h
    cases r with
    | dct _ h _ _ => exact .inr (.inr (.inl ⟨rfl, .inl ⟨_, h⟩⟩))
  · split at h
    · rename_i ts e
      cases h
      obtain ⟨a, xs, rfl, h1, _⟩ := r.lstR A e
      exact .inl ⟨rfl, _, h1⟩
    · cases h
def mMeth (ty : String) (op : T → List T → Sto → R T) (mo : M T) (ma : M (List T)) : M T := fun ρ st => (mo ρ st).bind fun x st1 => if tyM st1 x = some ty then (ma ρ st1).bind fun ts st2 => op x ts st2 else .bad
theorem pm_meth {name : Str} {ty id : String} {op : T → List T → Sto → R T} {mo : M T} {ma : M (List T)} (hm : MethM X id op) (pa : PlainAttrs ty) (slot : Slot ty name id) (hty : typeOf (.builtin id) = pure (.type "method_descriptor"))
    (ho : PM X ad W o mo) (ha : PMA X ad W (e :: es) ma)
    (hbase : attributeBase o name X.env (eval o X.env) = eval o X.env := by rfl)
    (hfew : ((backTo cpos (starEach (e :: es) X.env)).all (fun x => !x.1) && (backToKw cpos (keywordEach [] X.env)).all (fun x => x.1.isSome)
      && decide ((e :: es).length + ([] : List Keyword).length + (if ([] : List Keyword).isEmpty then 0 else 1) < 30)) = true := by rfl)
    (hline : (apos.endLine == cpos.line) = true := by rfl) (hs : starEach (e :: es) X.env = (false, eval e X.env) :: starEach es X.env := by rfl) (hplain : (backTo cpos (starEach es X.env)).any (·.1) = false := by rfl) :
    PM X ad W (.Call (.Attribute o name apos) (e :: es) [] cpos) (mMeth ty op mo ma) := by
  obtain ⟨r, h1, h2⟩ := hm
  refine peW (pe_bm pa slot hty h1 ho ha hbase hfew hline hs hplain) fun σ H Q ⟨hd, ρ, as, st, A, E, q⟩ => ⟨hd, ρ, as, st, A, E, Post.step q fun x st1 as1 H1 vx A1 e1 r1 q1 => ?_⟩
  split at q1
  · exact ⟨r1.tyV A1 (by assumption), hd, ρ, as1, st1, A1, E.ext e1, Post.step q1 fun y st2 as2 H2 vy A2 e2 r2 q2 => h2 _ as2 st2 H2 vx vy x y Q _ A2 (r1.ext e2) r2 q2⟩
  · exact q1.elim
def atS (st : Sto) (t : T) : Option (Nat × List T) := match t with
  | .ref i => match st[i]? with
    | some (.lst ts) => some (i, ts)
    | _ => none
  | _ => none
theorem Rep.atS {K : PySem.W.Frag} {as : List Addr} {H : Hp} {st : Sto} {v : V} {t : T} {i : Nat} {ts : List T} (A : Ab K ad as st H) (r : Rep K ad as H v t) (h : atS st t = some (i, ts)) :
    ∃ a xs, v = .ref a ∧ as[i]? = some a ∧ st[i]? = some (.lst ts) ∧ H a = some (.lst xs) ∧ Reps K ad as H xs ts := by
  unfold Mi.atS at h
  split at h
  · split at h
    · rename_i e
      cases h
      obtain ⟨a, h2, xs, h3, h4⟩ := A.get e
      cases r with
      | ref h5 =>
        rw [h2] at h5; cases h5
        exact ⟨_, _, rfl, h2, e, h3, h4⟩
    · cases h
  · cases h
end
end Mi
namespace Mi
open PySem L2 PySem.Spec PyProof.Rows HT
section
variable {prog : Program} {w : World} {A : PySem.Around} {E : Value → Shared → Prop} {s : Shared}
end
section
variable {X : Cx} {ad : Ad} {W : WX} {pos p1 p2 p3 : Pos} {e : Expr}
end
end Mi
namespace Mi
open PySem L2
def mCall (n : Nat) (F : List T → Sto → R T) (m : M (List T)) : M T := mApp (fun ts st => if ts.length = n then F ts st else .bad) m
section
variable {X : Cx} {W : WX} {k : Nat}
theorem Sit.u64 (S : Sit X W k) : X.A.units + 64 < cLine := S.rm.units
theorem Sit.u65 (S : Sit X W k) : X.A.units + 65 < cLine := by
  have := S.rm.un
  omega
theorem pm_ty {ad : Ad} {x : Str} {n : String} {pos : Pos} (hg : Gl X x) (hm : X.mg x = none) (hv : bootBuiltins x = some (.type n)) (hn : x ≠ "__name__" := by decide) (hd : (x == ("__debug__" : Str)) = false := by decide) : PM X ad W (.Name x pos) (mC (.ty n)) :=
  pm_c (pe_bltn (v := .ty n) hg hm hv rfl hn hd) fun _ _ _ => .ty n
mutual
inductive Cst (K : PySem.W.Frag) : Value → T → Prop
  | non : Cst K .none .non
  | bl (b : Bool) : Cst K (.bool b) (.bl b)
  | int (i : Int) (t : Tok) : Cst K (.int i t) (.int i)
  | str (i : Str) (t : Tok) : Cst K (.str i t) (.str i)
  | tup {a : Addr} {d : Option Addr} {its : Array Value} {n : Nat} {s : Array (Option Value)} {ts : List T} : K.lookup a = some ⟨.type "tuple", d, .seq its n, s⟩ → its.size ≤ 1000 → Csts K its.toList ts → Cst K (.ref a) (.tup ts)
inductive Csts (K : PySem.W.Frag) : List Value → List T → Prop
  | nil : Csts K [] []
  | cons {v : Value} {vs : List Value} {t : T} {ts : List T} : Cst K v t → Csts K vs ts → Csts K (v :: vs) (t :: ts)
end
mutual
theorem Cst.rep {K : PySem.W.Frag} : ∀ {u : Value} {t : T}, Cst K u t → ∃ v, RelV v u ∧ ∀ ad as H, Rep K ad as H v t
  | _, _, .non => ⟨.non, rfl, fun _ _ _ => .non⟩
  | _, _, .bl b => ⟨.bl b, rfl, fun _ _ _ => .bl b⟩
  | _, _, .int i t => ⟨.int i, ⟨t, rfl⟩, fun _ _ _ => .int i⟩
  | _, _, .str i t => ⟨.str i, ⟨t, rfl⟩, fun _ _ _ => .str i⟩
  | _, _, .tup (a := a) (its := its) (n := n) l z h =>
    have ⟨vs, h1, h2⟩ := Csts.reps h
    ⟨.ref a, rfl, fun ad as H => .tup (.inr (.inr ⟨_, its, n, l, rfl, rfl, Nat.le_of_lt (small1000 z), h1⟩)) (h2 ad as H)⟩
theorem Csts.reps {K : PySem.W.Frag} : ∀ {u : List Value} {t : List T}, Csts K u t → ∃ v, Vals v u ∧ ∀ ad as H, Reps K ad as H v t
  | _, _, .nil => ⟨[], .nil, fun _ _ _ => .nil⟩
  | _, _, .cons a b =>
    have ⟨v, h1, h2⟩ := Cst.rep a
    have ⟨vs, h3, h4⟩ := Csts.reps b
    ⟨v :: vs, .cons h1 h3, fun ad as H => .cons (h2 ad as H) (h4 ad as H)⟩
end
def CstM (K : PySem.W.Frag) (mg : Str → Option Value) (x : Str) (t : T) : Prop := ∃ u, mg x = some u ∧ Cst K u t
theorem CstM.pm {ad : Ad} {x : Str} {t : T} {pos : Pos} (h : CstM X.K X.mg x t) (hg : Gl X x) (hd : (x == ("__debug__" : Str)) = false := by decide) : PM X ad W (.Name x pos) (mC t) := by
  obtain ⟨u, h1, h2⟩ := h
  obtain ⟨v, h3, h4⟩ := h2.rep
  exact pm_c (pe_glob hg h1 h3 hd) h4
end
end Mi
namespace Mi
open PySem L2
def Ok {α : Type} (r : R α) (Q : α → Sto → Prop) (E : Exn → Sto → Prop) : Prop := match r with
  | .ok a st => Q a st
  | .exc e st => E e st
  | .bad => False
abbrev noE : Exn → Sto → Prop := fun _ _ => False
def OkS (r : RS) (N : Sl → Sto → Prop) (Rt : T → Sto → Prop) (B C : Sl → Sto → Prop) (E : Exn → Sl → Sto → Prop) : Prop := match r with
  | .nx ρ st => N ρ st
  | .rt t st => Rt t st
  | .bk ρ st => B ρ st
  | .ct ρ st => C ρ st
  | .ex e ρ st => E e ρ st
  | .bad => False
section
variable {α β : Type} {Q Q' : α → Sto → Prop} {E E' : Exn → Sto → Prop}
theorem Ok.imp {r : R α} (h : Ok r Q E) (hq : ∀ a st, Q a st → Q' a st) (he : ∀ e st, E e st → E' e st) : Ok r Q' E' := by
  cases r with
  | ok a st => exact hq _ _ h
  | exc e st => exact he _ _ h
  | bad => exact h
theorem Ok.eq {r : R α} {a : α} {st : Sto} (h : Ok r (fun b s => b = a ∧ s = st) noE) : r = .ok a st := by
  cases r with
  | ok b s => obtain ⟨h1, h2⟩ := h; rw [h1, h2]
  | exc e st => exact h.elim
  | bad => exact h.elim
@[simp] theorem Ok_ok (a : α) (st : Sto) : Ok (.ok a st) Q E ↔ Q a st := Iff.rfl
@[simp] theorem Ok_exc (e : Exn) (st : Sto) : Ok (.exc e st : R α) Q E ↔ E e st := Iff.rfl
@[simp] theorem Ok_bad : Ok (.bad : R α) Q E ↔ False := Iff.rfl
@[simp] theorem Ok_bind {Q : β → Sto → Prop} (r : R α) (f : α → Sto → R β) : Ok (r.bind f) Q E ↔ Ok r (fun a st => Ok (f a st) Q E) E := by cases r <;> rfl
@[simp] theorem Ok_iteB {p : Prop} [Decidable p] (a : R α) : Ok (if p then a else .bad) Q E ↔ p ∧ Ok a Q E := by
  split
  · exact ⟨fun h => ⟨by assumption, h⟩, fun h => h.2⟩
  · exact ⟨fun h => h.elim, fun h => absurd h.1 (by assumption)⟩
end
section
variable {Q : T → Sto → Prop} {E : Exn → Sto → Prop} {ρ : Sl} {y0 : Option T} {st : Sto}
@[simp] theorem Ok_var (i : Nat) : Ok (mVar i (y0 :: ρ) st) Q E ↔ ∃ t, (y0 :: ρ)[i]? = some (some t) ∧ Q t st := by
  unfold mVar
  split
  · rename_i t e
    constructor
    · exact fun h => ⟨t, e, h⟩
    · rintro ⟨u, h1, h2⟩
      rw [e] at h1; cases h1; exact h2
  · rename_i h
    constructor
    · exact fun h => h.elim
    · rintro ⟨u, h1, h2⟩
      exact absurd h1 (h u)
@[simp] theorem Ok_C (t : T) : Ok (mC t (y0 :: ρ) st) Q E ↔ Q t st := Iff.rfl
@[simp] theorem Ok_bin (op : T → T → Sto → R T) (a b : M T) : Ok (mBin op a b (y0 :: ρ) st) Q E ↔ Ok (a (y0 :: ρ) st) (fun x st1 => Ok (b (y0 :: ρ) st1) (fun y st2 => Ok (op x y st2) Q E) E) E := by unfold mBin; simp only [Ok_bind]
@[simp] theorem Ok_un (op : T → Sto → R T) (a : M T) : Ok (mUn op a (y0 :: ρ) st) Q E ↔ Ok (a (y0 :: ρ) st) (fun x st1 => Ok (op x st1) Q E) E := by unfold mUn; simp only [Ok_bind]
@[simp] theorem Ok_app (op : List T → Sto → R T) (a : M (List T)) : Ok (mApp op a (y0 :: ρ) st) Q E ↔ Ok (a (y0 :: ρ) st) (fun x st1 => Ok (op x st1) Q E) E := by unfold mApp; simp only [Ok_bind]
@[simp] theorem Ok_call (n : Nat) (F : List T → Sto → R T) (a : M (List T)) : Ok (mCall n F a (y0 :: ρ) st) Q E ↔ Ok (a (y0 :: ρ) st) (fun x st1 => x.length = n ∧ Ok (F x st1) Q E) E := by unfold mCall; simp only [Ok_app, Ok_iteB]
@[simp] theorem Ok_nil {Q : List T → Sto → Prop} : Ok (mNil (y0 :: ρ) st) Q E ↔ Q [] st := Iff.rfl
@[simp] theorem Ok_cons {Q : List T → Sto → Prop} (a : M T) (b : M (List T)) : Ok (mCons a b (y0 :: ρ) st) Q E ↔ Ok (a (y0 :: ρ) st) (fun x st1 => Ok (b (y0 :: ρ) st1) (fun y st2 => Q (x :: y) st2) E) E := by unfold mCons; simp only [Ok_bind, Ok_ok]
@[simp] theorem Ok_tup (a : M (List T)) : Ok (mTup a (y0 :: ρ) st) Q E ↔ Ok (a (y0 :: ρ) st) (fun x st1 => x.length ≤ sizeLine ∧ Q (.tup x) st1) E := by unfold mTup; simp only [Ok_bind, Ok_ok, Ok_iteB]
@[simp] theorem Ok_lst (a : M (List T)) : Ok (mLst a (y0 :: ρ) st) Q E ↔ Ok (a (y0 :: ρ) st) (fun x st1 => x.length ≤ sizeLine ∧ Q (.lst x) st1) E := by unfold mLst; simp only [Ok_bind, Ok_ok, Ok_iteB]
@[simp] theorem Ok_test {Q : Bool → Sto → Prop} (a : M T) : Ok (mTest a (y0 :: ρ) st) Q E ↔ Ok (a (y0 :: ρ) st) (fun x st1 => ∃ c, x = .bl c ∧ Q c st1) E := by
  unfold mTest rTest
  rw [Ok_bind]
  refine iff_of_eq (congrArg (fun f => Ok (a (y0 :: ρ) st) f E) ?_)
  funext x st1
  cases x <;> simp
@[simp] theorem Ok_tor {Q : Bool → Sto → Prop} (a b : M Bool) : Ok (mTOr a b (y0 :: ρ) st) Q E ↔ Ok (a (y0 :: ρ) st) (fun x st1 => if x = true then Q true st1 else Ok (b (y0 :: ρ) st1) Q E) E := by
  unfold mTOr
  rw [Ok_bind]
  refine iff_of_eq (congrArg (fun f => Ok (a (y0 :: ρ) st) f E) ?_)
  funext x st1
  cases x <;> simp
@[simp] theorem Ok_tnot {Q : Bool → Sto → Prop} (a : M Bool) : Ok (mTNot a (y0 :: ρ) st) Q E ↔ Ok (a (y0 :: ρ) st) (fun x st1 => Q (!x) st1) E := by unfold mTNot; simp only [Ok_bind, Ok_ok]
@[simp] theorem Ok_iteM (c : M Bool) (a b : M T) : Ok (mIte c a b (y0 :: ρ) st) Q E ↔ Ok (c (y0 :: ρ) st) (fun x st1 => if x = true then Ok (a (y0 :: ρ) st1) Q E else Ok (b (y0 :: ρ) st1) Q E) E := by
  unfold mIte
  rw [Ok_bind]
  refine iff_of_eq (congrArg (fun f => Ok (c (y0 :: ρ) st) f E) ?_)
  funext x st1
  cases x <;> simp
@[simp] theorem Ok_part {Q : Option Int → Sto → Prop} (a : M T) : Ok (mPart a (y0 :: ρ) st) Q E ↔ Ok (a (y0 :: ρ) st) (fun x st1 => ∃ i, x = .int i ∧ Q (some i) st1) E := by
  unfold mPart
  rw [Ok_bind]
  refine iff_of_eq (congrArg (fun f => Ok (a (y0 :: ρ) st) f E) ?_)
  funext x st1
  cases x <;> simp
@[simp] theorem Ok_noPart {Q : Option Int → Sto → Prop} : Ok (mNoPart (y0 :: ρ) st) Q E ↔ Q none st := Iff.rfl
@[simp] theorem Ok_sl (a : M T) (l u : M (Option Int)) : Ok (mSl a l u (y0 :: ρ) st) Q E ↔ Ok (a (y0 :: ρ) st) (fun x st1 => Ok (l (y0 :: ρ) st1) (fun lo st2 => Ok (u (y0 :: ρ) st2) (fun hi st3 => Ok (opSl x lo hi st3) Q E) E) E) E := by unfold mSl; simp only [Ok_bind]
@[simp] theorem Ok_meth (ty : String) (op : T → List T → Sto → R T) (o : M T) (a : M (List T)) : Ok (mMeth ty op o a (y0 :: ρ) st) Q E ↔ Ok (o (y0 :: ρ) st) (fun x st1 => tyM st1 x = some ty ∧ Ok (a (y0 :: ρ) st1) (fun ts st2 => Ok (op x ts st2) Q E) E) E := by unfold mMeth; simp only [Ok_bind, Ok_iteB]
@[simp] theorem Ok_opII (f : Int → Int → Option T) (i j : Int) : Ok (opII f (.int i) (.int j) st) Q E ↔ ∃ t, f i j = some t ∧ Q t st := by
  show Ok (match f i j with | some t => .ok t st | none => .bad) Q E ↔ _
  cases f i j <;> simp
@[simp] theorem fMod_some (i j : Int) (t : T) : fMod i j = some t ↔ 0 < j ∧ .int (i % j) = t := by unfold fMod; split <;> simp_all <;> omega
@[simp] theorem fPow_some (i j : Int) (t : T) : fPow i j = some t ↔ (0 ≤ j ∧ j ≤ 1000000 ∧ i.natAbs < 18446744073709551616) ∧ .int (i ^ j.toNat) = t := by unfold fPow; split <;> simp_all <;> omega
@[simp] theorem Ok_addI (i j : Int) : Ok (opAdd (.int i) (.int j) st) Q E ↔ Q (.int (i + j)) st := Iff.rfl
@[simp] theorem Ok_addT (i j : List T) : Ok (opAdd (.tup i) (.tup j) st) Q E ↔ i.length + j.length ≤ sizeLine ∧ Q (.tup (i ++ j)) st := by show Ok (if _ then _ else _) Q E ↔ _; simp only [Ok_iteB, Ok_ok]
@[simp] theorem Ok_addL (i j : List T) : Ok (opAdd (.lst i) (.lst j) st) Q E ↔ i.length + j.length ≤ sizeLine ∧ Q (.lst (i ++ j)) st := by show Ok (if _ then _ else _) Q E ↔ _; simp only [Ok_iteB, Ok_ok]
@[simp] theorem Ok_addStr (i j : Str) : Ok (opAdd (.str i) (.str j) st) Q E ↔ i.length + j.length ≤ sizeLine ∧ Q (.str (i ++ j)) st := by show Ok (if _ then _ else _) Q E ↔ _; simp only [Ok_iteB, Ok_ok]
@[simp] theorem Ok_mulI (i j : Int) : Ok (opMul (.int i) (.int j) st) Q E ↔ i.natAbs.log2 + j.natAbs.log2 < 1000000 ∧ Q (.int (i * j)) st := by show Ok (if _ then _ else _) Q E ↔ _; simp only [Ok_iteB, Ok_ok]
@[simp] theorem Ok_neg (i : Int) : Ok (opNeg (.int i) st) Q E ↔ Q (.int (-i)) st := Iff.rfl
@[simp] theorem now_non : now st .non = .non := rfl
@[simp] theorem now_bl (b : Bool) : now st (.bl b) = .bl b := rfl
@[simp] theorem now_int (b : Int) : now st (.int b) = .int b := rfl
@[simp] theorem now_strS (b : Str) : now st (.str b) = .str b := rfl
@[simp] theorem now_tup (b : List T) : now st (.tup b) = .tup b := rfl
@[simp] theorem now_lst (b : List T) : now st (.lst b) = .lst b := rfl
@[simp] theorem shaped_str (s : Str) : shaped (.str s) = PyData.strOk s := by unfold shaped T.pd; simp [SeqAt.shaped, PyData.canLay0, PyData.depth]
theorem Ok_eqB {neg : Bool} {x y : T} (hx : shaped (now st x) = true) (hy : shaped (now st y) = true) : Ok (opEqB neg x y st) Q E ↔ Q (.bl (if neg then !T.eqv (now st x) (now st y) else T.eqv (now st x) (now st y))) st := by
  unfold opEqB
  split
  · rename_i a b h1 h2
    rw [h1, h2]; rfl
  · rename_i a b h1 h2
    rw [h1] at hx; cases hx
  · rw [hx, hy]; rfl
@[simp] theorem Ok_eq {x y : T} (hx : shaped (now st x) = true) (hy : shaped (now st y) = true) : Ok (opEqB false x y st) Q E ↔ Q (.bl (T.eqv (now st x) (now st y))) st := Ok_eqB hx hy
@[simp] theorem Ok_ne {x y : T} (hx : shaped (now st x) = true) (hy : shaped (now st y) = true) : Ok (opEqB true x y st) Q E ↔ Q (.bl (!T.eqv (now st x) (now st y))) st := Ok_eqB hx hy
@[simp] theorem shaped_non : shaped .non = true := by decide
@[simp] theorem shaped_bl (b : Bool) : shaped (.bl b) = true := by cases b <;> decide
@[simp] theorem shaped_int (b : Int) : shaped (.int b) = true := by unfold shaped T.pd; simp [SeqAt.shaped, PyData.canLay0, PyData.depth]
@[simp] theorem eqv_int (i j : Int) : T.eqv (.int i) (.int j) = (i == j) := by simp [T.eqv]
@[simp] theorem Ok_ixT (ts : List T) (i : Int) : Ok (opIx (.tup ts) (.int i) st) Q E ↔ ∃ t, atI ts i = some t ∧ Q t st := by
  show Ok (atT ts i st) Q E ↔ _
  unfold atT
  cases atI ts i <;> simp
theorem Ok_ixL {x : T} {ts : List T} (i : Int) (h : lstR st x = some ts) : Ok (opIx x (.int i) st) Q E ↔ ∃ t, atI ts i = some t ∧ Q t st := by
  have e : opIx x (.int i) st = atT ts i st := by
    unfold opIx
    cases x <;> simp_all [lstR]
  rw [e]
  unfold atT
  cases atI ts i <;> simp
@[simp] theorem Ok_rng1 {Q : Wk → Sto → Prop} (m : M (List T)) : Ok (mRng itRng1 m (y0 :: ρ) st) Q E ↔ Ok (m (y0 :: ρ) st) (fun ts st1 => ∃ j, ts = [.int j] ∧ (-(2 ^ 62) ≤ j ∧ j < 2 ^ 62) ∧ Q (.seq (rgT 0 j.toNat)) st1) E := by
  unfold mRng
  rw [Ok_bind]
  refine iff_of_eq (congrArg (fun f => Ok (m (y0 :: ρ) st) f E) ?_)
  funext ts st1
  unfold itRng1
  split
  · simp
  · rename_i h
    simp only [Ok_bad, eq_iff_iff, false_iff]
    rintro ⟨j, e, _⟩
    exact h j e
@[simp] theorem Ok_it {Q : Wk → Sto → Prop} (m : M T) : Ok (mIt m (y0 :: ρ) st) Q E ↔ Ok (m (y0 :: ρ) st) (fun x st1 => Ok (itSeq x st1) Q E) E := by unfold mIt; simp only [Ok_bind]
@[simp] theorem Ok_itT {Q : Wk → Sto → Prop} (ts : List T) : Ok (itSeq (.tup ts) st) Q E ↔ Q (.seq ts) st := Iff.rfl
@[simp] theorem Ok_itL {Q : Wk → Sto → Prop} (ts : List T) : Ok (itSeq (.lst ts) st) Q E ↔ Q (.seq ts) st := Iff.rfl
@[simp] theorem Ok_itF {Q : Wk → Sto → Prop} (ts : List T) : Ok (itSeq (.frz ts) st) Q E ↔ Q (.seq ts) st := Iff.rfl
end
def two (ts : List T) (f : T → T → Prop) : Prop := ∃ t u, ts = [t, u] ∧ f t u
@[simp] theorem two_mk (t u : T) (f : T → T → Prop) : two [t, u] f ↔ f t u := ⟨fun ⟨_, _, e, h⟩ => by cases e; exact h, fun h => ⟨t, u, rfl, h⟩⟩
section
variable {N N' : Sl → Sto → Prop} {Rt Rt' : T → Sto → Prop} {B B' C C' : Sl → Sto → Prop} {E E' : Exn → Sl → Sto → Prop} {ρ : Sl} {y0 : Option T} {st : Sto}
theorem OkS.imp {r : RS} (h : OkS r N Rt B C E) (h1 : ∀ ρ st, N ρ st → N' ρ st) (h2 : ∀ t st, Rt t st → Rt' t st) (h3 : ∀ ρ st, B ρ st → B' ρ st) (h4 : ∀ ρ st, C ρ st → C' ρ st) (h5 : ∀ e ρ st, E e ρ st → E' e ρ st) : OkS r N' Rt' B' C' E' := by
  cases r with
  | nx ρ st => exact h1 _ _ h
  | rt t st => exact h2 _ _ h
  | bk ρ st => exact h3 _ _ h
  | ct ρ st => exact h4 _ _ h
  | ex e ρ st => exact h5 _ _ _ h
  | bad => exact h
theorem OkS_of {α : Type} (r : R α) (f : α → Sto → RS) : OkS (RS.of r ρ f) N Rt B C E ↔ Ok r (fun a st => OkS (f a st) N Rt B C E) (fun e st => E e ρ st) := by cases r <;> rfl
@[simp] theorem OkS_nil : OkS (sNil (y0 :: ρ) st) N Rt B C E ↔ N (y0 :: ρ) st := Iff.rfl
@[simp] theorem OkS_cons (m r : SM) : OkS (sCons m r (y0 :: ρ) st) N Rt B C E ↔ OkS (m (y0 :: ρ) st) (fun ρ1 st1 => OkS (r ρ1 st1) N Rt B C E) Rt B C E := by
  unfold sCons RS.seq
  cases m (y0 :: ρ) st <;> rfl
@[simp] theorem OkS_ret (m : M T) : OkS (sRet m (y0 :: ρ) st) N Rt B C E ↔ Ok (m (y0 :: ρ) st) Rt (fun e st => E e (y0 :: ρ) st) := by
  unfold sRet
  rw [OkS_of]
  rfl
@[simp] theorem OkS_if (c : M Bool) (a b : SM) : OkS (sIf c a b (y0 :: ρ) st) N Rt B C E ↔ Ok (c (y0 :: ρ) st) (fun x st1 => if x = true then OkS (a (y0 :: ρ) st1) N Rt B C E else OkS (b (y0 :: ρ) st1) N Rt B C E) (fun e st => E e (y0 :: ρ) st) := by
  unfold sIf
  rw [OkS_of]
  refine iff_of_eq (congrArg (fun f => Ok (c (y0 :: ρ) st) f _) ?_)
  funext x st1
  cases x <;> simp
@[simp] theorem OkS_asg (m : M T) (g : GM) : OkS (sAsg m g (y0 :: ρ) st) N Rt B C E ↔ Ok (m (y0 :: ρ) st) (fun t st1 => Ok (g t (y0 :: ρ) st1) N noE) (fun e st => E e (y0 :: ρ) st) := by
  unfold sAsg
  rw [OkS_of]
  refine iff_of_eq (congrArg (fun f => Ok (m (y0 :: ρ) st) f _) ?_)
  funext x st1
  cases g x (y0 :: ρ) st1 <;> rfl
@[simp] theorem OkS_for (m : M Wk) (g : GM) (body : SM) : OkS (sFor m g body (y0 :: ρ) st) N Rt B C E ↔ Ok (m (y0 :: ρ) st) (fun it st1 => OkS (forI g body it (y0 :: ρ) st1) N Rt B C E) (fun e st => E e (y0 :: ρ) st) := by
  unfold sFor
  rw [OkS_of]
@[simp] theorem OkS_forSeq (g : GM) (body : SM) (ts : List T) : OkS (forI g body (.seq ts) (y0 :: ρ) st) N Rt B C E ↔ OkS (forL g body ts (y0 :: ρ) st) N Rt B C E := Iff.rfl
@[simp] theorem Ok_gSet {Q : Sl → Sto → Prop} {E : Exn → Sto → Prop} (i : Nat) (t : T) : Ok (gSet i t (y0 :: ρ) st) Q E ↔ Q ((y0 :: ρ).set i (some t)) st := Iff.rfl
@[simp] theorem Ok_gTup {Q : Sl → Sto → Prop} {E : Exn → Sto → Prop} (n : Nat) (g : GsM) (ts : List T) : Ok (gTupM n g (.tup ts) (y0 :: ρ) st) Q E ↔ ts.length = n ∧ Ok (g ts (y0 :: ρ) st) Q E := by
  show Ok (if _ then _ else _) Q E ↔ _
  simp only [Ok_iteB]
@[simp] theorem Ok_gTupL {Q : Sl → Sto → Prop} {E : Exn → Sto → Prop} (n : Nat) (g : GsM) (ts : List T) : Ok (gTupM n g (.lst ts) (y0 :: ρ) st) Q E ↔ ts.length = n ∧ Ok (g ts (y0 :: ρ) st) Q E := by
  show Ok (if _ then _ else _) Q E ↔ _
  simp only [Ok_iteB]
@[simp] theorem Ok_gsNil {Q : Sl → Sto → Prop} {E : Exn → Sto → Prop} : Ok (gsNil [] (y0 :: ρ) st) Q E ↔ Q (y0 :: ρ) st := Iff.rfl
@[simp] theorem Ok_gsCons {Q : Sl → Sto → Prop} {E : Exn → Sto → Prop} (g : GM) (r : GsM) (t : T) (ts : List T) : Ok (gsCons g r (t :: ts) (y0 :: ρ) st) Q E ↔ Ok (g t (y0 :: ρ) st) (fun ρ1 st1 => Ok (r ts ρ1 st1) Q E) E := by
  show Ok (R.bind _ _) Q E ↔ _
  rw [Ok_bind]
theorem OkS_turn (r : RS) (f : Sl → Sto → RS) : OkS (r.turn f) N Rt B C E ↔ OkS r (fun ρ st => OkS (f ρ st) N Rt B C E) Rt N (fun ρ st => OkS (f ρ st) N Rt B C E) E := by cases r <;> rfl
theorem for_rec {g : GM} {body : SM} (I : List T → Sl → Sto → Prop) : ∀ {ts : List T} {ρ : Sl} {st : Sto}, I ts ρ st →
    (∀ t ts ρ st, I (t :: ts) ρ st → Ok (g t ρ st) (fun ρ1 st1 => OkS (body ρ1 st1) (I ts) Rt N (I ts) E) noE) → (∀ ρ st, I [] ρ st → N ρ st) → OkS (forL g body ts ρ st) N Rt B C E
  | [], ρ, st, h, _, done => done ρ st h
  | t :: ts, ρ, st, h, step, done => by
    have hs := step t ts ρ st h
    unfold forL
    revert hs
    cases g t ρ st with
    | ok ρ1 st1 =>
      intro hs
      show OkS ((body ρ1 st1).turn (forL g body ts)) N Rt B C E
      rw [OkS_turn]
      have nx : ∀ ρ st, I ts ρ st → OkS (forL g body ts ρ st) N Rt B C E := fun ρ st hi => for_rec I hi step done
      exact OkS.imp hs nx (fun _ _ h => h) (fun _ _ h => h) nx (fun _ _ _ h => h)
    | exc _ _ => exact fun hs => hs.elim
    | bad => exact fun hs => hs.elim
end
section
variable {E : Exn → Sto → Prop} {ρ : Sl} {y0 : Option T} {st : Sto}
end
end Mi
namespace Mi
open PySem L2
section
variable {Q : T → Sto → Prop} {E : Exn → Sto → Prop} {ρ : Sl} {st : Sto}
theorem lstR_ref {i : Nat} {ts : List T} (h : st[i]? = some (.lst ts)) : lstR st (.ref i) = some ts := by simp [lstR, h]
theorem Ok_ixR {i : Nat} {ts : List T} {k : Int} (h : st[i]? = some (.lst ts)) : Ok (opIx (.ref i) (.int k) st) Q E ↔ ∃ t, atI ts k = some t ∧ Q t st := Ok_ixL k (lstR_ref h)
@[simp] theorem Ok_ixRef {i : Nat} {k : Int} : Ok (opIx (.ref i) (.int k) st) Q E ↔ ∃ ts, st[i]? = some (.lst ts) ∧ ∃ t, atI ts k = some t ∧ Q t st := by
  cases h : st[i]? with
  | none => simp [opIx, lstR, h]
  | some o =>
    cases o with
    | ins c fs => simp [opIx, lstR, h]
    | dct kvs => simp [opIx, lstR, h]
    | dtt kvs => simp [opIx, lstR, h]
    | dtn kvs => simp [opIx, lstR, h]
    | exn c fs => simp [opIx, lstR, h]
    | lst ts =>
      rw [Ok_ixR h]
      simp
end
def Src (st : Sto) (i : Nat) (m : Nat) : Prop := ∃ a b c : Int, st[i]? = some (.lst [.int a, .int b, .int c]) ∧ 0 ≤ b ∧ b < 2147483648 ∧ 0 ≤ c ∧ c ≤ (m : Int)
def Frm (i : Nat) (st st' : Sto) : Prop := st.length ≤ st'.length ∧ ∀ j o, j ≠ i → st[j]? = some o → st'[j]? = some o
theorem Frm.refl {i : Nat} {st : Sto} : Frm i st st := ⟨Nat.le_refl _, fun _ _ _ h => h⟩
theorem Frm.trans {i : Nat} {a b c : Sto} (h : Frm i a b) (h2 : Frm i b c) : Frm i a c := ⟨Nat.le_trans h.1 h2.1, fun j o n q => h2.2 j o n (h.2 j o n q)⟩
theorem Frm.set {i : Nat} {st : Sto} (o : O) : Frm i st (st.set i o) := ⟨by simp, fun j u n h => by rw [List.getElem?_set_ne (Ne.symm n)]; exact h⟩
theorem Frm.app {i : Nat} {st : Sto} (l : Sto) : Frm i st (st ++ l) := ⟨by simp, fun j u n h => by rw [List.getElem?_append_left (List.getElem?_eq_some_iff.mp h).1]; exact h⟩
theorem Src.mono {st : Sto} {i m n : Nat} (h : Src st i m) (q : m ≤ n) : Src st i n := by
  obtain ⟨a, b, c, h1, h2, h3, h4, h5⟩ := h
  exact ⟨a, b, c, h1, h2, h3, h4, by omega⟩
theorem Src.app {st : Sto} {i m : Nat} (h : Src st i m) (l : Sto) : Src (st ++ l) i m := by
  obtain ⟨a, b, c, h1, h2⟩ := h
  exact ⟨a, b, c, by rw [List.getElem?_append_left (List.getElem?_eq_some_iff.mp h1).1]; exact h1, h2⟩
theorem Src.set {st : Sto} {i j m : Nat} {o : O} (h : Src st i m) (n : j ≠ i) : Src (st.set j o) i m := by
  obtain ⟨a, b, c, h1, h2⟩ := h
  exact ⟨a, b, c, by rw [List.getElem?_set_ne n]; exact h1, h2⟩
@[simp] theorem Ok_fIntI {Q : T → Sto → Prop} {E : Exn → Sto → Prop} {st : Sto} (i : Int) : Ok (fInt [.int i] st) Q E ↔ Q (.int i) st := Iff.rfl
end Mi
namespace Mi
open PySem L2
mutual
/-- a plain tree: no object of the store -/
def T.tr : T → Bool
  | .non => true
  | .bl _ => true
  | .int i => decide (i.natAbs.log2 < 1920)
  | .str s => PyData.strOk s
  | .tup ts => T.trs ts
  | .lst ts => T.trs ts
  | .dct ks ts => ks.isEmpty && ts.isEmpty
  | _ => false
def T.trs : List T → Bool
  | [] => true
  | t :: ts => t.tr && T.trs ts
end
mutual
/-- no dict in it -/
def T.nd : T → Bool
  | .tup ts => T.nds ts
  | .lst ts => T.nds ts
  | .dct _ _ => false
  | _ => true
def T.nds : List T → Bool
  | [] => true
  | t :: ts => t.nd && T.nds ts
end
mutual
def T.dep : T → Nat
  | .tup ts => T.deps ts + 1
  | .lst ts => T.deps ts + 1
  | .dct _ _ => 1
  | _ => 0
def T.deps : List T → Nat
  | [] => 0
  | t :: ts => max t.dep (T.deps ts)
end
mutual
/-- at least so long as the text -/
def T.wt : T → Nat
  | .non => 4
  | .bl _ => 5
  | .int i => i.natAbs.log2 + 2
  | .str s => 10 * s.length + 2
  | .tup ts => T.wts ts + 3
  | .lst ts => T.wts ts + 3
  | .dct _ _ => 2
  | _ => 0
def T.wts : List T → Nat
  | [] => 0
  | t :: ts => t.wt + 2 + T.wts ts
end
theorem T.deps_le {n : Nat} : ∀ {ts : List T}, T.deps ts ≤ n ↔ ∀ t ∈ ts, t.dep ≤ n
  | [] => by simp [T.deps]
  | t :: ts => by simp [T.deps, Nat.max_le, T.deps_le (ts := ts)]
theorem T.trs_all : ∀ {ts : List T}, T.trs ts = true ↔ ∀ t ∈ ts, t.tr = true
  | [] => by simp [T.trs]
  | t :: ts => by simp [T.trs, T.trs_all (ts := ts)]
theorem T.nds_all : ∀ {ts : List T}, T.nds ts = true ↔ ∀ t ∈ ts, t.nd = true
  | [] => by simp [T.nds]
  | t :: ts => by simp [T.nds, T.nds_all (ts := ts)]
theorem T.wts_app : ∀ (a b : List T), T.wts (a ++ b) = T.wts a + T.wts b
  | [], b => by simp [T.wts]
  | t :: a, b => by simp [T.wts, T.wts_app a b]; omega
theorem T.wt_mem : ∀ {ts : List T} {t : T}, t ∈ ts → t.wt + 2 ≤ T.wts ts
  | [], _, h => by simp at h
  | u :: ts, t, h => by
    rcases List.mem_cons.mp h with rfl | h
    · simp [T.wts]
    · have := T.wt_mem h
      simp only [T.wts]; omega
def T.text (t : T) : PySem.Str := match t.pd with
  | some d => d.shown
  | none => PySem.Str.empty
end Mi
namespace Mi
open PySem L2 PySem.Spec PyProof.Rows
def ItA (h : Heap) (it l : Addr) (k : Nat) (xs : Array Value) : Prop := (h.IsListIter it l k ∧ h.IsList l xs) ∨ (h.IsTupleIter it l k ∧ h.IsTuple l xs)
theorem ItA.ext {h h' : Heap} {it l : Addr} {k : Nat} {xs : Array Value} (a : ItA h it l k xs) (h1 : ∀ o, h.get? it = some o → h'.get? it = some o) (h2 : ∀ o, h.get? l = some o → h'.get? l = some o) : ItA h' it l k xs := by
  rcases a with ⟨a, b⟩ | ⟨a, b⟩
  · exact .inl ⟨a.at h1, b.at h2⟩
  · exact .inr ⟨a.at h1, let ⟨o, e, r⟩ := b; ⟨o, h2 o e, r⟩⟩
section
variable {prog : Program} {w : World} {A : PySem.Around} {E : Value → Shared → Prop} {s : Shared}
theorem nextOf_A {it l : Addr} {k : Nat} {xs : Array Value} {x : Value} {Q : Value → Shared → Prop} (hit : ItA s.heap it l k xs) (hne : l ≠ it) (hx : xs[k]? = some x)
    (hQ : ∀ h', ItA h' it l (k + 1) xs → Heap.SameBut it s.heap h' → Q x { s with heap := h' }) : wpAny (model prog w) A (Builtin.SmallTypes.nextOf (.ref it)) Q E s := by
  rcases hit with ⟨a, b⟩ | ⟨a, b⟩
  · exact wpAny_nextOf_list_item a b hx fun h' h1 hs => hQ h' (.inl ⟨h1, b.extBut hs.extBut hne⟩) hs
  · exact RZ.nextOf_tuple_item a b hx fun h' h1 hs => hQ h' (.inr ⟨h1, let ⟨o, e, r⟩ := b; ⟨o, hs.extBut _ _ hne e, r⟩⟩) hs
theorem nextOf_A_end {it l : Addr} {k : Nat} {xs : Array Value} {Q : Value → Shared → Prop} (hh : A.handled = none) (hit : ItA s.heap it l k xs) (hx : xs[k]? = none)
    (hE : ∀ h' e, Heap.ExtBut it s.heap h' → (∃ o, h'.get? e = some o ∧ o.cls = .type "StopIteration") → E (.ref e) { s with heap := h' }) : wpAny (model prog w) A (Builtin.SmallTypes.nextOf (.ref it)) Q E s := by
  rcases hit with ⟨a, b⟩ | ⟨a, b⟩
  · exact wpAny_nextOf_list_end hh a b hx hE
  · exact RZ.nextOf_tuple_end hh a b hx hE
end
end Mi
namespace Mi
open PySem L2 PySem.Spec PyProof.Rows
section
variable {prog : Program} {w : World} {A : PySem.Around} {E : Value → Shared → Prop} {s : Shared}
end
end Mi
namespace Mi
open PySem L2 PySem.Spec PyProof.Rows
def SeqB (h : Heap) : Bool → Addr → Array Value → Prop
  | false, l, xs => h.IsList l xs
  | true, l, xs => h.IsTuple l xs
abbrev itObj (t : Bool) (l : Addr) : Obj := { cls := .type (bif t then "tuple_iterator" else "list_iterator"), data := .fields #[.ref l, .int 0 0] }
theorem SeqB.push {h : Heap} {t : Bool} {l : Addr} {xs : Array Value} (a : SeqB h t l xs) (o : Obj) : SeqB (h.push o) t l xs := by
  cases t
  · exact Heap.IsList.push a _
  · exact Heap.IsTuple.push a _
theorem iter_B {prog : Program} {w : World} {A : PySem.Around} {E : Value → Shared → Prop} {s : Shared} {t : Bool} {l : Addr} {xs : Array Value} {Q : Value → Shared → Prop} (h : SeqB s.heap t l xs)
    (hq : Q (.ref s.heap.objs.size) { s with heap := s.heap.push (itObj t l) }) : wpAny (model prog w) A (pyIter (.ref l)) Q E s := by
  cases t
  · exact wpAny_pyIter_list h hq
  · exact wpAny_pyIter_tuple h hq
namespace F
end F
section
variable {prog : Program} {w : World} {A : PySem.Around} {E : Value → Shared → Prop} {s : Shared}
theorem ItA.new {h : Heap} {t : Bool} {l it : Addr} {xs : Array Value} (h1 : h.get? it = some (itObj t l)) (h2 : SeqB h t l xs) : ItA h it l 0 xs := by
  cases t
  · exact .inl ⟨⟨_, h1, rfl, rfl⟩, h2⟩
  · exact .inr ⟨⟨_, h1, rfl, rfl⟩, h2⟩
end
end Mi
namespace Mi
open PySem L2 PySem.Spec PyProof.Rows
section
variable {prog : Program} {w : World} {A : PySem.Around} {E : Value → Shared → Prop} {s : Shared}
end
def SqB (K : PySem.W.Frag) (t : Bool) (H : Hp) (a : Addr) (xs : List V) : Prop := match t with
  | false => SqL K H a xs
  | true => SqT K H a xs
theorem SqB.real {X : Cx} {pins : List (Addr × PySem.Obj)} {σ : L2.St} {H : Hp} {s : Shared} {t : Bool} {a : Addr} {xs : List V} (I : Inv X pins σ H s) (h : SqB X.K t H a xs) : ∃ its, Vals xs its ∧ SeqB s.heap t a its.toArray ∧ a < s.heap.objs.size := by
  cases t
  · obtain ⟨its, rv, p, _⟩ := I.list h
    exact ⟨its, rv, p.isList, p.lt⟩
  · obtain ⟨its, rv, p, _⟩ := I.tuple h
    obtain ⟨o, ho, _⟩ := id p
    exact ⟨its, rv, p, Heap.lt_size ho⟩
theorem SqB.inj {X : Cx} {pins : List (Addr × PySem.Obj)} {σ : L2.St} {H : Hp} {s : Shared} {t : Bool} {a : Addr} {xs ys : List V} (I : Inv X pins σ H s) (h : SqB X.K t H a xs) (h2 : SqB X.K t H a ys) : xs = ys := by
  cases t
  · exact I.list_inj h h2
  · exact I.tuple_inj h h2
def ItO (h : Heap) (t : Bool) (it l : Addr) (k : Nat) : Prop := match t with
  | false => h.IsListIter it l k
  | true => h.IsTupleIter it l k
theorem ItO.a {h : Heap} {t : Bool} {it l : Addr} {k : Nat} {xs : Array Value} (h1 : ItO h t it l k) (h2 : SeqB h t l xs) : ItA h it l k xs := by
  cases t
  · exact .inl ⟨h1, h2⟩
  · exact .inr ⟨h1, h2⟩
theorem ItA.o {h : Heap} {t : Bool} {it l : Addr} {k : Nat} {xs ys : Array Value} (h1 : ItA h it l k xs) (h2 : SeqB h t l ys) : ItO h t it l k := by
  rcases h1 with ⟨h1, ⟨o, e, c, n, d⟩⟩ | ⟨h1, ⟨o, e, c, n, d⟩⟩ <;> cases t <;> obtain ⟨o2, e2, c2, n2, d2⟩ := h2 <;> rw [e] at e2 <;> have e2 := Option.some.inj e2 <;> subst e2
  · exact h1
  · rw [c] at c2; exact absurd c2 (by decide)
  · rw [c] at c2; exact absurd c2 (by decide)
  · exact h1
theorem ItO.ext {h h' : Heap} {t : Bool} {it l : Addr} {k : Nat} (a : ItO h t it l k) (h1 : ∀ o, h.get? it = some o → h'.get? it = some o) : ItO h' t it l k := by
  cases t
  · exact Heap.IsListIter.at a h1
  · exact Heap.IsTupleIter.at a h1
theorem ItO.obj {h : Heap} {t : Bool} {it l : Addr} {k : Nat} (a : ItO h t it l k) : ∃ o, h.get? it = some o ∧ ∀ v, o.data ≠ .cell v := by
  cases t
  · obtain ⟨o, e, _, d⟩ := a
    exact ⟨o, e, fun v q => by rw [d] at q; cases q⟩
  · obtain ⟨o, e, _, d⟩ := a
    exact ⟨o, e, fun v q => by rw [d] at q; cases q⟩
theorem SeqB.ext {h h' : Heap} {t : Bool} {l : Addr} {xs : Array Value} (a : SeqB h t l xs) (h1 : ∀ o, h.get? l = some o → h'.get? l = some o) : SeqB h' t l xs := by
  cases t
  · exact Heap.IsList.at a h1
  · obtain ⟨o, e, r⟩ := a
    exact ⟨o, h1 o e, r⟩
def seqF : T → Option (List T)
  | .tup ts => some ts
  | .lst ts => some ts
  | .frz ts => some ts
  | _ => none
theorem Rep.seqF {K : PySem.W.Frag} {ad : Ad} {as : List Addr} {H : Hp} {v : V} {t : T} {ts : List T} (r : Rep K ad as H v t) (h : Mi.seqF t = some ts) : ∃ b a xs, v = .ref a ∧ (∀ as' H', Ext as H as' H' → SqB K b H' a xs) ∧ Reps K ad as H xs ts := by
  unfold Mi.seqF at h
  split at h
  · cases h
    cases r with
    | tup h s => exact ⟨true, _, _, rfl, fun as' H' e => (h.ext e).sq, s⟩
  · cases h
    cases r with
    | lst h s => exact ⟨false, _, _, rfl, fun as' H' e => SqL.of (h.ext e).2, s⟩
  · cases h
    cases r with
    | frz h s => exact ⟨false, _, _, rfl, fun as' H' e => (h.ext e).sq, s⟩
  · cases h
section
variable {E : Exn → Sto → Prop} {ρ : Sl} {y0 : Option T} {st : Sto}
end
end Mi
namespace Mi
open PySem L2
section
variable {X : Cx} {ad : Ad} {W : WX} {pos : Pos}
end
end Mi
namespace Mi
open PySem L2
section
variable {K : PySem.W.Frag} {ad : Ad} {as as' : List Addr} {H H' : Hp} {st : Sto}
def putT (f : Str) (v : T) : List (Str × T) → List (Str × T)
  | [] => [(f, v)]
  | (g, x) :: r => if g = f then (g, v) :: r else (g, x) :: putT f v r
theorem RepF.put {f : Str} {v : V} {t : T} (r : Rep K ad as H v t) : ∀ {gs : List (Str × V)} {fs : List (Str × T)}, RepF K ad as H gs fs → RepF K ad as H (putF f v gs) (putT f t fs)
  | _, _, .nil => .cons r .nil
  | _, _, .cons (f := g) q s => by
    unfold putF putT
    by_cases h : g = f
    · rw [if_pos h, if_pos h]; exact .cons r s
    · rw [if_neg h, if_neg h]; exact .cons q (RepF.put r s)
theorem RepF.get {f : Str} {t : T} : ∀ {gs : List (Str × V)} {fs : List (Str × T)}, RepF K ad as H gs fs → fs.lookup f = some t → ∃ v, gs.lookup f = some v ∧ Rep K ad as H v t
  | _, _, .nil, h => by simp at h
  | _, _, .cons (f := g) (v := v) q s, h => by
    rw [List.lookup_cons] at h ⊢
    cases e : (f == g)
    · rw [e] at h; exact RepF.get s h
    · rw [e] at h; cases h; exact ⟨v, rfl, q⟩
theorem RepF.none {f : Str} : ∀ {gs : List (Str × V)} {fs : List (Str × T)}, RepF K ad as H gs fs → fs.lookup f = none → gs.lookup f = none
  | _, _, .nil, h => rfl
  | _, _, .cons (f := g) (v := v) q s, h => by
    rw [List.lookup_cons] at h ⊢
    cases e : (f == g)
    · rw [e] at h; exact RepF.none s h
    · rw [e] at h; cases h
theorem RepF.length : ∀ {gs : List (Str × V)} {fs : List (Str × T)}, RepF K ad as H gs fs → gs.length = fs.length
  | _, _, .nil => rfl
  | _, _, .cons _ s => congrArg (· + 1) s.length
def insAt (st : Sto) (c : Nat) (t : T) : Option (Nat × List (Str × T)) := match t with
  | .ref i => match st[i]? with
    | some (.ins d fs) => if d = c then some (i, fs) else none
    | _ => none
  | _ => none
theorem Rep.ins {c i : Nat} {fs : List (Str × T)} {v : V} {t : T} (A : Ab K ad as st H) (r : Rep K ad as H v t) (h : insAt st c t = some (i, fs)) :
    ∃ a dx gs, v = .ref a ∧ as[i]? = some a ∧ i < st.length ∧ H a = some (.ins (ad.fn c) dx gs) ∧ H dx = some (.own a) ∧ (dx ∈ as → False) ∧ RepF K ad as H gs fs := by
  unfold insAt at h
  split at h
  · split at h
    · rename_i d fs' e
      split at h
      · rename_i hd
        cases h
        subst hd
        obtain ⟨a, h2, dx, gs, h3, h4, h5, h6⟩ := A.get e
        cases r with
        | ref h7 =>
          rw [h2] at h7; cases h7
          exact ⟨_, dx, gs, rfl, h2, (List.getElem?_eq_some_iff.mp e).1, h3, h4, h5, h6⟩
      · cases h
    · cases h
  · cases h
end
section
variable {X : Cx} {ad : Ad} {W : WX} {pos p apos cpos tpos : Pos} {o e value : Expr} {es : List Expr} {c : Nat} {f : Str}
variable {k n : Nat} {fa : Addr} {fd : FuncData} {ps : List Str} {F : List T → Sto → R T} {x m : Str}
theorem GnOk.up {P : Program} {w : World} {K : PySem.W.Frag} {mg : Str → Option Value} {base : Heap} {fa : Addr} {fd : FuncData} {ps : List Str} {sp : Sp} {k : Nat} (G : GnOk P w K mg base k fa fd ps sp) : GnOk P w K mg base (k + 1) fa fd ps sp := G.mono (Nat.le_succ _)
end
end Mi
namespace Mi
open PySem L2 PySem.Spec PyProof.Rows
theorem meets_enumB (t : Bool) (l : Addr) (xs : Array Value) :
    Meets (Builtin.«enumerate.__new__» ⟨[.type "enumerate", .ref l], []⟩) (fun _ R s => SeqB s.heap t l xs ∧
      R (.ok (.ret (.ref (s.heap.push (itObj t l)).objs.size))) { s with heap := (s.heap.push (itObj t l)).push { cls := .type "enumerate", data := .fields #[.none, .bool false, .ref s.heap.objs.size, rawInt 0, .none, .none] } }) :=
  .of_wp fun prog w A R s h => by
    obtain ⟨hp, g, d, tk, os⟩ := s; obtain ⟨h1, h⟩ := h
    have hsub := sub_enumerate
    have q1 : ∀ {A' : Around} {E : Value → Shared → Prop} {Q : Value → Shared → Prop}, Q (.ref hp.objs.size) ⟨hp.push (itObj t l), g, d, tk, os⟩ → wpAny (model prog w) A' (pyIter (.ref l)) Q E ⟨hp, g, d, tk, os⟩ :=
      fun q => iter_B (s := ⟨hp, g, d, tk, os⟩) h1 q
    obtain ⟨o, ho, hc, hd⟩ : ∃ o, Heap.get? hp l = some o ∧ (∃ n, o.data = .seq xs n) ∧ o.cls = .type (bif t then "tuple" else "list") := by
      cases t
      · obtain ⟨o, e, c, n, d⟩ := h1; exact ⟨o, e, ⟨n, d⟩, c⟩
      · obtain ⟨o, e, c, n, d⟩ := h1; exact ⟨o, e, ⟨n, d⟩, c⟩
    wp_walk using q1
    refine wpAny_stack_any fun st => wpAny_pure ?_
    split
    · rename_i c _ _ _ _ _
      cases (c == Value.type "enumerate")
      · wp_walk using q1
        exact ⟨_, rfl, h⟩
      · wp_walk using q1
        exact ⟨_, rfl, h⟩
    · wp_walk using q1
      exact ⟨_, rfl, h⟩
section
variable {prog : Program} {w : World} {A : PySem.Around} {E : Value → Shared → Prop} {s : Shared}
theorem call_enumB {t : Bool} {l : Addr} {xs : Array Value} {Q : Value → Shared → Prop} (hl : SeqB s.heap t l xs)
    (h : ∀ h', IsEnum h' (s.heap.objs.size + 1) s.heap.objs.size 0 .none → ItO h' t s.heap.objs.size l 0 → h'.objs.size = s.heap.objs.size + 2 →
      (∀ b o, s.heap.get? b = some o → h'.get? b = some o) → Q (.ref (s.heap.objs.size + 1)) { s with heap := h' }) :
    wpAny (model prog w) A (call (.type "enumerate") [.ref l]) Q E s := by
  refine callType_new PySem.F.called_enumerate (by decide) (PySem.F.typeCall_enumerate_1 _) (PySem.F.newCall_enumerate_1 _) (fun obj => PySem.F.args_object_init_2 obj _) PySem.F.entry_enumerate_new
    (meets_enumB t l xs) ⟨hl, ?_⟩
  have hz : (s.heap.push (itObj t l)).objs.size = s.heap.objs.size + 1 := Heap.size_push ..
  show _ ∧ _
  rw [hz]
  have he : IsEnum ((s.heap.push (itObj t l)).push { cls := .type "enumerate", data := .fields #[.none, .bool false, .ref s.heap.objs.size, rawInt 0, .none, .none] }) (s.heap.objs.size + 1) s.heap.objs.size 0 .none := by
    have := Heap.get?_push_size (s.heap.push (itObj t l)) (o := { cls := .type "enumerate", data := .fields #[.none, .bool false, .ref s.heap.objs.size, rawInt 0, .none, .none] }) rfl
    rw [hz] at this; exact this
  have hit : ((s.heap.push (itObj t l)).push { cls := .type "enumerate", data := .fields #[.none, .bool false, .ref s.heap.objs.size, rawInt 0, .none, .none] }).get? s.heap.objs.size = some (itObj t l) := Heap.get?_push_of_some _ (Heap.get?_push_size _ rfl)
  refine ⟨⟨_, he, rfl⟩, h _ he ?_ (by rw [Heap.size_push, hz]) fun b o x => Heap.get?_push_of_some _ (Heap.get?_push_of_some _ x)⟩
  cases t
  · exact ⟨_, hit, rfl, rfl⟩
  · exact ⟨_, hit, rfl, rfl⟩
end
def DrB (t : Bool) (it l : Addr) (xs : Array Value) (m j : Nat) (h : Heap) : Prop := (j < xs.size → ItO h t it l j) ∧ (xs.size ≤ j → ItO h t it l j ∨ ItO h t it l m) ∧ SeqB h t l xs
theorem drawsB {prog : Program} {w : World} {A : PySem.Around} (hh : A.handled = none) (t : Bool) (it l : Addr) (hne : l ≠ it) (xs : Array Value) (m : Nat) (hm : xs.size ≤ m) :
    Draws prog w A it [it, l] xs.size (fun i v => xs[i]? = some v) (DrB t it l xs m) where
  live := fun j _ ⟨h1, h2, _⟩ => by
    have key : ∀ {h : Heap} {n}, ItO h t it l n → ∃ o, h.get? it = some o := fun q => let ⟨o, ho, _⟩ := q.obj; ⟨o, ho⟩
    rcases Nat.lt_or_ge j xs.size with hj | hj
    · exact key (h1 hj)
    · exact (h2 hj).elim key key
  frame := fun _ _ _ ⟨h1, h2, sq⟩ hk => ⟨fun h => (h1 h).ext fun o e => hk it (by simp) o e, fun h => (h2 h).imp (fun q => q.ext fun o e => hk it (by simp) o e) (fun q => q.ext fun o e => hk it (by simp) o e), sq.ext fun o e => hk l (by simp) o e⟩
  item := fun i s Q E hi ⟨h1, h2, sq⟩ hQ => by
    refine nextOf_A ((h1 hi).a sq) hne (x := xs[i]) (by simp [hi]) fun h' hit' hs' => ?_
    have sq := sq.ext fun o e => hs'.extBut _ _ hne e
    exact hQ _ h' s.toks (by simp [hi]) ⟨fun _ => hit'.o sq, fun _ => .inl (hit'.o sq), sq⟩ hs'
  done := fun s Q E ⟨h1, h2, sq⟩ hE => by
    rcases h2 (Nat.le_refl _) with q | q
    · exact nextOf_A_end hh (q.a sq) (by simp) hE
    · exact nextOf_A_end hh (q.a sq) (by simpa using hm) hE
def IteB (K : PySem.W.Frag) (t : Bool) (a : Addr) : It :=
  ⟨fun i H => ∃ (xs : List V) (x : V), SqB K t H a xs ∧ xs[i]? = some x, fun i H v H' => ∃ T x, v = .ref T ∧ H T = none ∧ H' = upd H T (.tup [.int (i : Nat), x]) ∧ ∀ xs, SqB K t H a xs → xs[i]? = some x, fun i H => ∃ xs : List V, SqB K t H a xs ∧ xs.length ≤ i⟩
theorem turn_enumB {P : Program} {w : World} {K : PySem.W.Frag} {elts : List Expr} {kk : Nat} {tpos : Pos} {t : Bool} (a e it : Addr) (hae : a ≠ e) (hai : a ≠ it) :
    Turn P w K (.Tuple elts kk tpos) (IteB K t a) [e, it] e (fun i h => (∃ old, IsEnum h e it ((i : Nat) : Int) old) ∧ ItO h t it a i ∧ e ≠ it) where
  mem := by simp
  obj := fun i h st b hb => by
    obtain ⟨⟨old, he⟩, hi, _⟩ := st
    have e' : b = e ∨ b = it := by simpa using hb
    rcases e' with z | z
    · rw [z]; exact ⟨_, he, fun v q => nomatch q⟩
    · rw [z]; exact hi.obj
  keep := fun i h h' st k => let ⟨⟨old, he⟩, hi, hne⟩ := st; ⟨⟨old, k e (by simp) _ he⟩, hi.ext fun o q => k it (by simp) o q, hne⟩
  item := by
    intro X hP hw hK hc i pins s σ H E I hf st hg
    subst hP hw hK
    obtain ⟨⟨old, he⟩, hit, hne⟩ := st
    obtain ⟨xs, x, hq, hx⟩ := hg
    obtain ⟨its, rv, p, _⟩ := SqB.real I hq
    obtain ⟨u, hu, ru⟩ := rv.get hx
    have hel : e < s.heap.objs.size := Heap.lt_size he
    have hil : it < s.heap.objs.size := by obtain ⟨_, q, _⟩ := hit.obj; exact Heap.lt_size q
    have hlt : i < its.toArray.size := by
      have := (List.getElem?_eq_some_iff.mp hu).1
      simpa using this
    refine wpAny_pyNext_enum_itemD (drawsB (A := X.A.in1) (show X.A.in1.handled = none from I.ok.hd hc) t it a hai its.toArray its.toArray.size (Nat.le_refl _)) he ⟨fun _ => hit, fun _ => .inl hit, p⟩ hlt hne (by simp [hne, Ne.symm hae]) fun x' h' tk hx' ho hs' hT hsz hk => ?_
    obtain ⟨hm1, hm2, hs2⟩ := hs'
    have hs3 : ItO h' t it a (i + 1) := by
      rcases Nat.lt_or_ge (i + 1) its.toArray.size with hj | hj
      · exact hm1 hj
      · have e : its.toArray.size = i + 1 := by omega
        rcases hm2 hj with q | q
        · exact q
        · rw [e] at q; exact q
    have ex : x' = u := by
      have h1 : its.toArray[i]? = some x' := hx'
      have h2 : its.toArray[i]? = some u := by simpa using hu
      rw [h1] at h2; cases h2; rfl
    subst ex
    refine ⟨_, rfl, wpAny_letOwnedTupleGo_enum (s := { s with heap := h', toks := tk + 1 }) ho fun h'' he' sb => ?_⟩
    have hT2 : h''.get? s.heap.objs.size = some { cls := .type "tuple", data := .seq #[.int i tk, x'] } := (sb.2 _ (Nat.ne_of_gt hel)).trans hT
    have new : ObjOk X.prog X.w (upd H s.heap.objs.size (.tup [.int (i : Nat), x])) h'' s.heap.objs.size (.tup [.int (i : Nat), x]) :=
      ⟨by show 2 ≤ sizeLine; decide, [.int i tk, x'], .cons ⟨_, rfl⟩ (.cons ru .nil), ⟨_, hT2, rfl, _, rfl⟩⟩
    have I1 : Inv X pins σ (upd H s.heap.objs.size (.tup [.int (i : Nat), x])) { s with heap := h'', toks := tk + 1 } :=
      I.turnedNew (ch := [e, it]) (fun b ob hb q => (sb.2 b (fun z => hb (by simp [z]))).trans (hk b ob (fun z => hb (by simp [z])) (fun z => hb (by simp [z])) q)) hf (Nat.le_refl _) new
    refine ⟨.ref s.heap.objs.size, _, I1, rfl, ⟨_, x, rfl, I.hok.fresh (Nat.le_refl _), rfl, fun ys hy => by rw [SqB.inj I hy hq]; exact hx⟩, ⟨⟨x', ?_⟩, hs3.ext fun o q => (sb.2 it (Ne.symm hne)).trans q, hne⟩, fun b hb => ?_⟩
    · have e1 : ((i + 1 : Nat) : Int) = (i : Int) + 1 := by omega
      rw [e1]; exact he'
    · have hb' : b < s.heap.objs.size := by
        have e' : b = e ∨ b = it := by simpa using hb
        rcases e' with z | z
        · rw [z]; exact hel
        · rw [z]; exact hil
      rw [upd_ne (Nat.ne_of_lt hb')]
      exact (hf b hb).1
  done := by
    intro X hP hw hK hc i pins s σ H E I hf st hg
    subst hP hw hK
    obtain ⟨⟨old, he⟩, hit, hne⟩ := st
    obtain ⟨xs, hq, hx⟩ := hg
    obtain ⟨its, rv, p, _⟩ := SqB.real I hq
    obtain ⟨f0, f1, f2, f3, f4, f5⟩ := hf it (by simp)
    have hl := rv.length
    exact wpAny_pyNext_enum_endD (drawsB (A := X.A.in1) (show X.A.in1.handled = none from I.ok.hd hc) t it a hai its.toArray i (by simp; omega)) he ⟨fun h => absurd h (Nat.lt_irrefl _), fun _ => .inr hit, p⟩ fun h' eb => ⟨rfl, I.turned (t' := s.toks) (fun b o hb q => eb b o hb q) f0 f1 f3 f4 f5⟩
  self := fun A i s Q E st h => let ⟨⟨_, he⟩, _⟩ := st; wpAny_pyIter_enum he h
def iEnumB (K : PySem.W.Frag) (ta : TA) : TI := fun σ H R => ta σ H fun vs H1 => ∃ a xs t, vs = [.ref a] ∧ SqB K t H1 a xs ∧ R (IteB K t a) H1
theorem pi_enumB {X : Cx} {e : Expr} {ta : TA} {p pos tpos : Pos} {elts : List Expr} {kk : Nat} (hg : Gl X "enumerate") (hm : X.mg "enumerate" = none) (ha : PA X [e] ta) (hs : starEach [e] X.env = [(false, eval e X.env)] := by rfl) :
    PI X (.Tuple elts kk tpos) (.Call (.Name "enumerate" p) [e] [] pos) (iEnumB X.K ta) := by
  refine ⟨fun pins s σ H R I h => ?_⟩
  refine Call_ (ld_blt I hg hm boot_enumerate (PyProof.Rows.callWith_type1 (thn (ha.run pos pins s σ H _ I h) fun us s1 ⟨vs, H1, I1, r1, q1⟩ => ?_) hs rfl))
  obtain ⟨a, xs, t, ex, hq, q⟩ := q1
  subst ex
  cases r1 with
  | cons r rr =>
    cases rr
    cases r
    obtain ⟨its, rv, p', hlt⟩ := SqB.real I1 hq
    refine call_enumB p' fun h' he hit hsz hk => wpAny_pyIter_enum he ?_
    have I2 : Inv X pins σ H1 { s1 with heap := h' } := I1.kept (t' := s1.toks) hk
    refine ⟨s1.heap.objs.size + 1, [s1.heap.objs.size + 1, s1.heap.objs.size], _, _, H1, rfl, I2, turn_enumB a (s1.heap.objs.size + 1) s1.heap.objs.size (Nat.ne_of_lt (Nat.lt_succ_of_lt hlt)) (Nat.ne_of_lt hlt), ⟨⟨.none, he⟩, hit, Nat.succ_ne_self _⟩, fun b hb => ?_, q⟩
    have e' : b = s1.heap.objs.size + 1 ∨ b = s1.heap.objs.size := by simpa using hb
    have hle : s1.heap.objs.size ≤ b := by
      rcases e' with z | z
      · rw [z]; exact Nat.le_add_right _ _
      · rw [z]; exact Nat.le_refl _
    exact I1.fpOk hle (I1.hok.fresh hle)
def enumT (i : Nat) : List T → List T
  | [] => []
  | t :: ts => .tup [.int (i : Nat), t] :: enumT (i + 1) ts
theorem enumT_get : ∀ (ts : List T) (j i : Nat), (enumT j ts)[i]? = (ts[i]?).map fun t => T.tup [.int ((j + i : Nat) : Int), t]
  | [], j, i => by simp [enumT]
  | t :: ts, j, 0 => by simp [enumT]
  | t :: ts, j, i + 1 => by
    have e : j + 1 + i = j + (i + 1) := by omega
    simp only [enumT, List.getElem?_cons_succ, enumT_get ts (j + 1) i, e]
def enumAt (r : Nat) (st : Sto) (i : Nat) : Option (Option T) := match st[r]? with
  | some (.lst ts) => some ((ts[i]?).map fun t => .tup [.int (i : Nat), t])
  | _ => none
def itEnum1 (x : T) (st : Sto) : R Wk := match atS st x with
  | some (r, ts) => .ok (.dyn (ts.length + 1) (enumAt r)) st
  | none => .bad
def itEnum (ts : List T) (st : Sto) : R Wk := match ts with
  | [x] => match seqF x with
    | some xs => .ok (.seq (enumT 0 xs)) st
    | none => itEnum1 x st
  | _ => .bad
def mEnum (m : M (List T)) : M Wk := fun ρ st => (m ρ st).bind itEnum
theorem itOk_enum {K : PySem.W.Frag} {ad : Ad} {as : List Addr} {H : Hp} {t1 : Bool} {a : Addr} {xs : List V} {ts : List T} (h1 : ∀ as' H', Ext as H as' H' → SqB K t1 H' a xs) (r1 : Reps K ad as H xs ts) : ItOk K ad (IteB K t1 a) as H (.seq (enumT 0 ts)) := fun hd hh i as1 st1 H1 A e => by
  have l1 := r1.length
  rw [enumT_get]
  cases et : ts[i]? with
  | none => exact ⟨xs, h1 _ _ e, by have := List.getElem?_eq_none_iff.mp et; omega⟩
  | some t =>
    obtain ⟨x, g1, g2⟩ := r1.get et
    refine ⟨⟨xs, x, h1 _ _ e, g1⟩, fun v H' ⟨p, x', ev, hp, eH, f1⟩ => ?_⟩
    subst ev; subst eH
    have q1 := f1 xs (h1 _ _ e)
    rw [g1] at q1; cases q1
    refine ⟨A.fresh hp, Ext.fresh hp, ?_⟩
    rw [Nat.zero_add]
    exact rep_newTup A hp (.cons (.int _) (.cons (g2.extH e hh) .nil))
theorem itOk_enumAt {K : PySem.W.Frag} {ad : Ad} {as : List Addr} {H : Hp} {a : Addr} {r n : Nat} (h : as[r]? = some a) : ItOk K ad (IteB K false a) as H (.dyn n (enumAt r)) := fun hd hh i as1 st1 H1 A e z hz => by
  unfold enumAt at hz
  split at hz
  · rename_i ts hs
    cases hz
    obtain ⟨b, h2, xs, h3, h4⟩ := A.get hs
    rw [e.get h] at h2; cases h2
    have l1 := h4.length
    cases et : ts[i]? with
    | none => exact ⟨xs, SqL.of h3, by have := List.getElem?_eq_none_iff.mp et; omega⟩
    | some t =>
      obtain ⟨x, g1, g2⟩ := h4.get et
      refine ⟨⟨xs, x, SqL.of h3, g1⟩, fun v H' ⟨p, x', ev, hp, eH, f1⟩ => ?_⟩
      subst ev; subst eH
      have q1 := f1 xs (SqL.of h3)
      rw [g1] at q1; cases q1
      exact ⟨A.fresh hp, Ext.fresh hp, rep_newTup A hp (.cons (.int _) (.cons g2 .nil))⟩
  · cases hz
theorem tEnum {X : Cx} {ad : Ad} {W : WX} {m : M (List T)} : ∀ σ H R, tI X.K ad W (mEnum m) σ H R → iEnumB X.K (tM X.K ad (Reps X.K) W m) σ H R := fun σ H R ⟨hd, ρ, as, st, A, E, q⟩ =>
  ⟨hd, ρ, as, st, A, E, Post.step q fun ts st1 as1 H1 vs A1 e1 r1 q1 => by
    unfold itEnum at q1
    split at q1
    · split at q1
      · rename_i h1
        obtain ⟨v, rfl, rv⟩ := r1.one
        obtain ⟨t1, a, xs, rfl, s1, p1⟩ := rv.seqF h1
        exact ⟨a, xs, t1, rfl, s1 _ _ Ext.refl, Post.at A1 (itOk_enum s1 p1) q1⟩
      · obtain ⟨v, rfl, rv⟩ := r1.one
        unfold itEnum1 at q1
        split at q1
        · rename_i h1
          obtain ⟨a, xs, rfl, g1, g2, g3, g4⟩ := rv.atS A1 h1
          exact ⟨a, xs, false, rfl, SqL.of g3, Post.at A1 (itOk_enumAt g1) q1⟩
        · exact q1.elim
    · exact q1.elim⟩
theorem pmi_enum {X : Cx} {ad : Ad} {W : WX} {e : Expr} {m : M (List T)} {p pos tpos : Pos} {elts : List Expr} {kk : Nat} (hg : Gl X "enumerate") (hm : X.mg "enumerate" = none) (ha : PMA X ad W [e] m) (hs : starEach [e] X.env = [(false, eval e X.env)] := by rfl) :
    PMI X ad W (.Tuple elts kk tpos) (.Call (.Name "enumerate" p) [e] [] pos) (mEnum m) := piW (pi_enumB hg hm ha hs) tEnum
@[simp] theorem Ok_enum {E : Exn → Sto → Prop} {ρ : Sl} {y0 : Option T} {st : Sto} {Q : Wk → Sto → Prop} (m : M (List T)) : Ok (mEnum m (y0 :: ρ) st) Q E ↔ Ok (m (y0 :: ρ) st) (fun ts st1 => Ok (itEnum ts st1) Q E) E := by unfold mEnum; simp only [Ok_bind]
@[simp] theorem Ok_itEnT {E : Exn → Sto → Prop} {st : Sto} {Q : Wk → Sto → Prop} (ts : List T) : Ok (itEnum [.tup ts] st) Q E ↔ Q (.seq (enumT 0 ts)) st := Iff.rfl
@[simp] theorem Ok_itEnL {E : Exn → Sto → Prop} {st : Sto} {Q : Wk → Sto → Prop} (ts : List T) : Ok (itEnum [.lst ts] st) Q E ↔ Q (.seq (enumT 0 ts)) st := Iff.rfl
end Mi
namespace Mi
open PySem L2
def btw (t : T) (lo hi : Int) : Bool := match t with
  | .int i => decide (lo ≤ i) && decide (i ≤ hi)
  | _ => false
structure Gd (t : T) : Prop where
  tr : t.tr = true
  nd : t.nd = true
  dp : t.dep ≤ 64
  wt : t.wt ≤ 1000000
theorem Gd.mem {ts : List T} {t : T} (h : Gd (.tup ts)) (m : t ∈ ts) : Gd t := by
  obtain ⟨h1, h2, h3, h4⟩ := h
  simp only [T.tr] at h1
  simp only [T.nd] at h2
  simp only [T.dep] at h3
  simp only [T.wt] at h4
  exact ⟨T.trs_all.mp h1 t m, T.nds_all.mp h2 t m, Nat.le_trans (T.deps_le.mp (Nat.le_refl _) t m) (by omega), by have := T.wt_mem m; omega⟩
theorem Ok.ex {α : Type} {r : R α} {a : α} {st : Sto} (h : Ok r (fun b s => b = a ∧ ∃ l, s = st ++ l) noE) : ∃ l, r = .ok a (st ++ l) := by
  cases r with
  | ok b s => obtain ⟨h1, l, h2⟩ := h; exact ⟨l, by rw [h1, h2]⟩
  | exc e st => exact h.elim
  | bad => exact h.elim
@[simp] theorem Ok_eqStr {st : Sto} {Q : T → Sto → Prop} {E : Exn → Sto → Prop} (a b : Str) : Ok (opEqB false (.str a) (.str b) st) Q E ↔ Q (.bl (a == b)) st := Iff.rfl
theorem Frm.at {i p : Nat} {st st' : Sto} {o : O} (h : Frm i st st') (hp : p ≠ i) (e : st[p]? = some o) : st'[p]? = some o := h.2 p o hp e
def Fr2 (i p : Nat) (st st' : Sto) : Prop := st.length ≤ st'.length ∧ ∀ j o, j ≠ i → j < p → st[j]? = some o → st'[j]? = some o
theorem Fr2.refl {i p : Nat} {st : Sto} : Fr2 i p st st := ⟨Nat.le_refl _, fun _ _ _ _ h => h⟩
theorem Fr2.trans {i p : Nat} {a b c : Sto} (h : Fr2 i p a b) (h2 : Fr2 i p b c) : Fr2 i p a c := ⟨Nat.le_trans h.1 h2.1, fun j o n q e => h2.2 j o n q (h.2 j o n q e)⟩
theorem Fr2.set {i p : Nat} {st : Sto} (o : O) : Fr2 i p st (st.set p o) := ⟨by simp, fun j u n q e => by rw [List.getElem?_set_ne (by omega)]; exact e⟩
structure LS (n w : Nat) (ts : List T) : Prop where
  tr : T.trs ts = true
  nd : T.nds ts = true
  dp : T.deps ts ≤ n
  wt : T.wts ts ≤ w
structure BT (n w : Nat) (t : T) : Prop where
  tr : t.tr = true
  nd : t.nd = true
  dp : t.dep ≤ n
  wt : t.wt ≤ w
theorem LS.nil {n w : Nat} : LS n w [] := ⟨rfl, rfl, by simp [T.deps], by simp [T.wts]⟩
theorem LS.cons {n w v k : Nat} {t : T} {ts : List T} (h : BT n w t) (h2 : LS n v ts) (e : w + 2 + v ≤ k) : LS n k (t :: ts) := by
  refine ⟨by simp [T.trs, h.tr, h2.tr], by simp [T.nds, h.nd, h2.nd], ?_, ?_⟩
  · have := h.dp; have := h2.dp; simp only [T.deps]; omega
  · have := h.wt; have := h2.wt; simp only [T.wts]; omega
theorem LS.app {n w v : Nat} {a b : List T} (h : LS n w a) (h2 : LS n v b) : LS n (w + v) (a ++ b) := by
  refine ⟨T.trs_all.mpr fun t ht => ?_, T.nds_all.mpr fun t ht => ?_, T.deps_le.mpr fun t ht => ?_, ?_⟩
  · exact (List.mem_append.mp ht).elim (T.trs_all.mp h.tr t) (T.trs_all.mp h2.tr t)
  · exact (List.mem_append.mp ht).elim (T.nds_all.mp h.nd t) (T.nds_all.mp h2.nd t)
  · exact (List.mem_append.mp ht).elim (fun q => Nat.le_trans (T.deps_le.mp (Nat.le_refl _) t q) h.dp) (fun q => Nat.le_trans (T.deps_le.mp (Nat.le_refl _) t q) h2.dp)
  · rw [T.wts_app]; have := h.wt; have := h2.wt; omega
theorem LS.sub {n w : Nat} {a b : List T} (h : LS n w a) (hm : ∀ t ∈ b, t ∈ a) (hw : T.wts b ≤ w) : LS n w b :=
  ⟨T.trs_all.mpr fun t ht => T.trs_all.mp h.tr t (hm t ht), T.nds_all.mpr fun t ht => T.nds_all.mp h.nd t (hm t ht), T.deps_le.mpr fun t ht => Nat.le_trans (T.deps_le.mp (Nat.le_refl _) t (hm t ht)) h.dp, hw⟩
theorem LS.self {n w : Nat} {a : List T} (h : LS n w a) : LS n (T.wts a) a := ⟨h.tr, h.nd, h.dp, Nat.le_refl _⟩
theorem LS.mono {n w n' w' : Nat} {a : List T} (h : LS n w a) (hn : n ≤ n') (hw : w ≤ w') : LS n' w' a := ⟨h.tr, h.nd, Nat.le_trans h.dp hn, Nat.le_trans h.wt hw⟩
theorem BT.mono {n w n' w' : Nat} {a : T} (h : BT n w a) (hn : n ≤ n') (hw : w ≤ w') : BT n' w' a := ⟨h.tr, h.nd, Nat.le_trans h.dp hn, Nat.le_trans h.wt hw⟩
theorem LS.tup {n w : Nat} {a : List T} (h : LS n w a) : BT (n + 1) (w + 3) (.tup a) := ⟨by simp [T.tr, h.tr], by simp [T.nd, h.nd], by have := h.dp; simp only [T.dep]; omega, by have := h.wt; simp only [T.wt]; omega⟩
theorem LS.lst {n w : Nat} {a : List T} (h : LS n w a) : BT (n + 1) (w + 3) (.lst a) := ⟨by simp [T.tr, h.tr], by simp [T.nd, h.nd], by have := h.dp; simp only [T.dep]; omega, by have := h.wt; simp only [T.wt]; omega⟩
theorem BT.two {n w v : Nat} {a b : T} (h : BT n w a) (h2 : BT n v b) : BT (n + 1) (w + v + 7) (.tup [a, b]) := (LS.cons h (LS.cons h2 LS.nil (Nat.le_refl (v + 2 + 0))) (Nat.le_refl _)).tup.mono (Nat.le_refl _) (by omega)
theorem BT.gd {n w : Nat} {t : T} (h : BT n w t) (hn : n ≤ 64) (hw : w ≤ 1000000) : Gd t := ⟨h.tr, h.nd, Nat.le_trans h.dp hn, Nat.le_trans h.wt hw⟩
theorem BT.int {v : Int} (h : v.natAbs < 32) : BT 0 7 (.int v) := by
  have : v.natAbs.log2 < 5 ∨ v.natAbs = 0 := by
    by_cases hz : v.natAbs = 0
    · exact .inr hz
    · exact .inl (by rw [Nat.log2_lt hz]; omega)
  have h2 : v.natAbs.log2 ≤ 5 := by
    rcases this with h | h
    · omega
    · rw [h]; decide
  exact ⟨by simp only [T.tr, decide_eq_true_eq]; omega, rfl, by simp [T.dep], by simp only [T.wt]; omega⟩
@[simp] theorem Ok_slT {st : Sto} {Q : T → Sto → Prop} {E : Exn → Sto → Prop} (ts : List T) (lo hi : Option Int) : Ok (opSl (.tup ts) lo hi st) Q E ↔ Q (.tup (cutT ts lo hi)) st := Iff.rfl
@[simp] theorem Ok_fIntB {Q : T → Sto → Prop} {E : Exn → Sto → Prop} {st : Sto} (b : Bool) : Ok (fInt [.bl b] st) Q E ↔ Q (.int (if b then 1 else 0)) st := Iff.rfl
@[simp] theorem OkS_nx {N : Sl → Sto → Prop} {Rt : T → Sto → Prop} {B C : Sl → Sto → Prop} {E : Exn → Sl → Sto → Prop} {ρ : Sl} {st : Sto} : OkS (.nx ρ st) N Rt B C E ↔ N ρ st := Iff.rfl
@[simp] theorem OkS_rt {N : Sl → Sto → Prop} {Rt : T → Sto → Prop} {B C : Sl → Sto → Prop} {E : Exn → Sl → Sto → Prop} {t : T} {st : Sto} : OkS (.rt t st) N Rt B C E ↔ Rt t st := Iff.rfl
@[simp] theorem Ok_ixLst {Q : T → Sto → Prop} {E : Exn → Sto → Prop} {st : Sto} (ts : List T) (i : Int) : Ok (opIx (.lst ts) (.int i) st) Q E ↔ ∃ t, atI ts i = some t ∧ Q t st := Ok_ixL i rfl
@[simp] theorem Ok_neStr {st : Sto} {Q : T → Sto → Prop} {E : Exn → Sto → Prop} (a b : Str) : Ok (opEqB true (.str a) (.str b) st) Q E ↔ Q (.bl (!(a == b))) st := Iff.rfl
end Mi
namespace Mi
open PySem L2
@[simp] theorem n_draw_seq : (("draw" : Str) = "seq") = False := eq_false (by decide +kernel)
@[simp] theorem n_draw_par : (("draw" : Str) = "par") = False := eq_false (by decide +kernel)
@[simp] theorem n_draw_named : (("draw" : Str) = "named") = False := eq_false (by decide +kernel)
@[simp] theorem n_draw_retry : (("draw" : Str) = "retry") = False := eq_false (by decide +kernel)
@[simp] theorem n_draw_split : (("draw" : Str) = "split") = False := eq_false (by decide +kernel)
@[simp] theorem n_seq_draw : (("seq" : Str) = "draw") = False := eq_false (by decide +kernel)
@[simp] theorem n_seq_par : (("seq" : Str) = "par") = False := eq_false (by decide +kernel)
@[simp] theorem n_seq_named : (("seq" : Str) = "named") = False := eq_false (by decide +kernel)
@[simp] theorem n_seq_retry : (("seq" : Str) = "retry") = False := eq_false (by decide +kernel)
@[simp] theorem n_seq_split : (("seq" : Str) = "split") = False := eq_false (by decide +kernel)
@[simp] theorem n_par_draw : (("par" : Str) = "draw") = False := eq_false (by decide +kernel)
@[simp] theorem n_par_seq : (("par" : Str) = "seq") = False := eq_false (by decide +kernel)
@[simp] theorem n_par_named : (("par" : Str) = "named") = False := eq_false (by decide +kernel)
@[simp] theorem n_par_retry : (("par" : Str) = "retry") = False := eq_false (by decide +kernel)
@[simp] theorem n_par_split : (("par" : Str) = "split") = False := eq_false (by decide +kernel)
@[simp] theorem n_named_draw : (("named" : Str) = "draw") = False := eq_false (by decide +kernel)
@[simp] theorem n_named_seq : (("named" : Str) = "seq") = False := eq_false (by decide +kernel)
@[simp] theorem n_named_par : (("named" : Str) = "par") = False := eq_false (by decide +kernel)
@[simp] theorem n_named_retry : (("named" : Str) = "retry") = False := eq_false (by decide +kernel)
@[simp] theorem n_named_split : (("named" : Str) = "split") = False := eq_false (by decide +kernel)
@[simp] theorem n_retry_draw : (("retry" : Str) = "draw") = False := eq_false (by decide +kernel)
@[simp] theorem n_retry_seq : (("retry" : Str) = "seq") = False := eq_false (by decide +kernel)
@[simp] theorem n_retry_par : (("retry" : Str) = "par") = False := eq_false (by decide +kernel)
@[simp] theorem n_retry_named : (("retry" : Str) = "named") = False := eq_false (by decide +kernel)
@[simp] theorem n_retry_split : (("retry" : Str) = "split") = False := eq_false (by decide +kernel)
@[simp] theorem n_split_draw : (("split" : Str) = "draw") = False := eq_false (by decide +kernel)
@[simp] theorem n_split_seq : (("split" : Str) = "seq") = False := eq_false (by decide +kernel)
@[simp] theorem n_split_par : (("split" : Str) = "par") = False := eq_false (by decide +kernel)
@[simp] theorem n_split_named : (("split" : Str) = "named") = False := eq_false (by decide +kernel)
@[simp] theorem n_split_retry : (("split" : Str) = "retry") = False := eq_false (by decide +kernel)
structure Sz where
  o : Nat
  r : Nat
  n : Nat
  k : Nat
  deriving DecidableEq
def Sz.add (a b : Sz) : Sz := ⟨a.o + b.o, a.r + b.r, a.n + b.n, max a.k (b.k + 1)⟩
def spl (t : T) : Bool := match t with
  | .tup (.str w :: _) => decide (w = "split")
  | _ => false
def headP (w : Str) (ps : List T) : Option (Bool × List T × Sz) :=
  if w = "seq" then (if ps.length ≤ 12 then some (false, ps, ⟨0, 0, 1, 1⟩) else none)
  else if w = "par" then (if ps.length ≤ 12 then some (true, ps, ⟨0, 0, 1, 1⟩) else none)
  else if w = "named" then (match ps with | [a, b] => if btw a 0 9 = true then some (false, [b], ⟨0, 0, 1, 1⟩) else none | _ => none)
  else if w = "retry" then (match ps with | [a] => some (false, [a], ⟨0, 1, 1, 1⟩) | _ => none)
  else if w = "split" then (match ps with | [a] => some (false, [a], ⟨1, 0, 1, 1⟩) | _ => none)
  else none
def szL (f : T → Option Sz) (par : Bool) : List T → Sz → Option Sz
  | [], a => some a
  | p :: ps, a => match f p with
    | none => none
    | some s => if (spl p && !par) = true then none else szL f par ps (a.add s)
def sz : Nat → T → Option Sz
  | 0, _ => none
  | d + 1, .tup (.str w :: ps) => if w = "draw" then (match ps with | [a] => if btw a 0 9 = true then some ⟨1, 0, 1, 1⟩ else none | _ => none)
    else match headP w ps with
      | none => none
      | some (par, inner, a) => szL (sz d) par inner a
  | _ + 1, _ => none
theorem szL_k {f : T → Option Sz} {par : Bool} {d : Nat} (hf : ∀ t s, f t = some s → s.k ≤ d) : ∀ {ps : List T} {a s : Sz}, szL f par ps a = some s → a.k ≤ d + 1 → s.k ≤ d + 1
  | [], a, s, h, ha => by simp only [szL, Option.some.injEq] at h; subst h; exact ha
  | p :: ps, a, s, h, ha => by
    simp only [szL] at h
    split at h
    · cases h
    · rename_i u hu
      split at h
      · cases h
      · exact szL_k hf h (by have := hf _ _ hu; simp only [Sz.add]; omega)
theorem headP_k {w : Str} {ps inner : List T} {par : Bool} {a : Sz} (h : headP w ps = some (par, inner, a)) : a.k = 1 := by
  unfold headP at h
  repeat' split at h
  all_goals first | (cases h; done) | (cases h; rfl)
theorem sz_k : ∀ {d : Nat} {t : T} {s : Sz}, sz d t = some s → s.k ≤ d
  | 0, t, s, h => by simp [sz] at h
  | d + 1, t, s, h => by
    unfold sz at h
    split at h
    · rename_i e; cases e
    · split at h
      · split at h
        · split at h
          · cases h; simp
          · cases h
        · cases h
      · split at h
        · cases h
        · rename_i d' w ps e hne _ par inner a hh
          cases e
          exact szL_k (fun t s h => sz_k h) h (by rw [headP_k hh]; omega)
    · cases h
theorem szL_mono {f g : T → Option Sz} {par : Bool} {d : Nat} (hf : ∀ t s, f t = some s → s.k ≤ d → g t = some s) : ∀ {ps : List T} {a s : Sz}, szL f par ps a = some s → s.k ≤ d + 1 → szL g par ps a = some s ∧ a.k ≤ s.k
  | [], a, s, h, ha => by simp only [szL, Option.some.injEq] at h; subst h; exact ⟨rfl, Nat.le_refl _⟩
  | p :: ps, a, s, h, ha => by
    simp only [szL] at h ⊢
    split at h
    · cases h
    · rename_i u hu
      split at h
      · cases h
      · rename_i hs
        obtain ⟨h1, h2⟩ := szL_mono hf h ha
        simp only [Sz.add] at h2
        rw [hf _ _ hu (by omega)]
        simp only
        rw [if_neg hs]
        exact ⟨h1, by omega⟩
theorem sz_at : ∀ {n : Nat} {t : T} {s : Sz}, sz n t = some s → ∀ d, s.k ≤ d → sz d t = some s
  | 0, t, s, h, d, hd => by simp [sz] at h
  | n + 1, t, s, h, d, hd => by
    unfold sz at h
    split at h
    · rename_i e; cases e
    · rename_i n' w ps e
      cases e
      split at h
      · rename_i hw
        split at h
        · split at h
          · rename_i hb
            cases h
            obtain ⟨d, rfl⟩ : ∃ j, d = j + 1 := ⟨d - 1, by simp only at hd; omega⟩
            simp [sz, hw, hb]
          · cases h
        · cases h
      · rename_i hw
        split at h
        · cases h
        · rename_i par inner a hh
          have hk := headP_k hh
          have ha : a.k ≤ s.k := (szL_mono (g := sz n) (d := n) (fun _ _ h _ => h) h (szL_k (fun t s h => sz_k h) h (by rw [hk]; omega))).2
          obtain ⟨d, rfl⟩ : ∃ j, d = j + 1 := ⟨d - 1, by omega⟩
          simp only [sz]
          rw [if_neg hw, hh]
          exact (szL_mono (fun t u hu hk => sz_at hu d hk) h hd).1
    · cases h
theorem Gd.tail {t : T} {ts : List T} (h : Gd (.tup (t :: ts))) : ∀ u ∈ ts, Gd u := fun u hu => h.mem (List.mem_cons_of_mem _ hu)
def wrd (w : Str) : Prop := w = "draw" ∨ w = "seq" ∨ w = "par" ∨ w = "named" ∨ w = "retry" ∨ w = "split"
theorem headP_wrd {w : Str} {ps inner : List T} {par : Bool} {a : Sz} (h : headP w ps = some (par, inner, a)) :
    (w = "seq" ∧ par = false ∧ inner = ps ∧ a = ⟨0, 0, 1, 1⟩ ∧ ps.length ≤ 12) ∨ (w = "par" ∧ par = true ∧ inner = ps ∧ a = ⟨0, 0, 1, 1⟩ ∧ ps.length ≤ 12) ∨
    (w = "named" ∧ par = false ∧ a = ⟨0, 0, 1, 1⟩ ∧ ∃ x y, ps = [x, y] ∧ btw x 0 9 = true ∧ inner = [y]) ∨ (w = "retry" ∧ par = false ∧ a = ⟨0, 1, 1, 1⟩ ∧ ∃ y, ps = [y] ∧ inner = [y]) ∨
    (w = "split" ∧ par = false ∧ a = ⟨1, 0, 1, 1⟩ ∧ ∃ y, ps = [y] ∧ inner = [y]) := by
  unfold headP at h
  split at h
  · split at h
    · cases h; exact .inl ⟨by assumption, rfl, rfl, rfl, by assumption⟩
    · cases h
  · split at h
    · split at h
      · cases h; exact .inr (.inl ⟨by assumption, rfl, rfl, rfl, by assumption⟩)
      · cases h
    · split at h
      · split at h
        · split at h
          · cases h; exact .inr (.inr (.inl ⟨by assumption, rfl, rfl, _, _, rfl, by assumption, rfl⟩))
          · cases h
        · cases h
      · split at h
        · split at h
          · cases h; exact .inr (.inr (.inr (.inl ⟨by assumption, rfl, rfl, _, rfl, rfl⟩)))
          · cases h
        · split at h
          · split at h
            · cases h; exact .inr (.inr (.inr (.inr ⟨by assumption, rfl, rfl, _, rfl, rfl⟩)))
            · cases h
          · cases h
theorem sz_shape {d : Nat} {t : T} {s : Sz} (h : sz d t = some s) : ∃ w ps, t = .tup (.str w :: ps) ∧ ((w = "draw" ∧ ∃ a, ps = [a] ∧ btw a 0 9 = true ∧ s = ⟨1, 0, 1, 1⟩) ∨
    (¬ w = "draw" ∧ ∃ par inner a e, d = e + 1 ∧ headP w ps = some (par, inner, a) ∧ szL (sz e) par inner a = some s)) := by
  unfold sz at h
  split at h
  · cases h
  · rename_i e w ps
    refine ⟨w, ps, rfl, ?_⟩
    split at h
    · rename_i hw
      split at h
      · rename_i a
        split at h
        · rename_i hb
          cases h
          exact .inl ⟨hw, a, rfl, hb, rfl⟩
        · cases h
      · cases h
    · rename_i hw
      split at h
      · cases h
      · rename_i par inner a hh
        exact .inr ⟨hw, par, inner, a, e, rfl, hh, h⟩
  · cases h
theorem szL_snoc {f : T → Option Sz} {par : Bool} {e : T} {u : Sz} (he : f e = some u) (hs : (spl e && !par) = false) : ∀ {es : List T} {a s : Sz}, szL f par es a = some s → szL f par (es ++ [e]) a = some (s.add u)
  | [], a, s, h => by
    simp only [szL, Option.some.injEq] at h
    subst h
    simp [szL, he, hs]
  | p :: ps, a, s, h => by
    simp only [szL, List.cons_append] at h ⊢
    split at h
    · cases h
    · rename_i v hv
      split at h
      · cases h
      · rename_i hh
        rw [if_neg hh]
        exact szL_snoc he hs h
structure GenOk (room deep : Nat) (t : T) (s : Sz) : Prop where
  sz : sz 64 t = some s
  sp : spl t = false
  o1 : 1 ≤ s.o
  o2 : s.o ≤ room
  k2 : s.k + 1 ≤ deep
  n2 : s.n ≤ 2 * (room * deep)
structure PartOk (par : Bool) (size deep : Nat) (t : T) (s : Sz) : Prop where
  sz : sz 64 t = some s
  sp : (spl t && !par) = false
  o1 : 1 ≤ s.o
  o2 : s.o ≤ size
  k2 : s.k + 2 ≤ deep
  n2 : s.n ≤ 2 * (size * (deep - 1))
theorem GenOk.part {par : Bool} {size d : Nat} {t : T} {s : Sz} (g : GenOk size (d + 3) t s) : PartOk par size (d + 4) t s := ⟨g.sz, by simp [g.sp], g.o1, g.o2, by have := g.k2; omega, g.n2⟩
theorem headP_split {q : T} : headP "split" [q] = some (false, [q], ⟨1, 0, 1, 1⟩) := by simp [headP]
theorem GenOk.split {size d : Nat} {t : T} {s : Sz} (g : GenOk size (d + 2) t s) (hd : d ≤ 40) : PartOk true (size + 1) (d + 4) (.tup [.str "split", t]) (Sz.add ⟨1, 0, 1, 1⟩ s) := by
  have hk := g.k2
  have hn := g.n2
  have e1 : size * (d + 2) ≤ (size + 1) * (d + 3) := Nat.mul_le_mul (by omega) (by omega)
  have e2 : (size + 1) * (d + 3) = size * (d + 2) + size + (d + 3) := by simp only [Nat.add_mul, Nat.mul_add]; omega
  refine ⟨?_, by simp, by simp only [Sz.add]; omega, by have := g.o2; simp only [Sz.add]; omega, by simp only [Sz.add]; omega, ?_⟩
  · simp only [Mi.sz]
    rw [if_neg (by simp), headP_split]
    simp only [szL]
    rw [sz_at g.sz 63 (by omega)]
    simp [g.sp]
  · simp only [Sz.add]
    have : d + 4 - 1 = d + 3 := by omega
    rw [this]; omega
structure AccOk (par : Bool) (used deep : Nat) (es : List T) (a : Sz) : Prop where
  sz : szL (Mi.sz 64) par es ⟨0, 0, 1, 1⟩ = some a
  o2 : a.o ≤ used
  k2 : a.k + 1 ≤ deep
  n2 : a.n ≤ 1 + 2 * (used * (deep - 1))
theorem AccOk.nil {par : Bool} {deep : Nat} (h : 2 ≤ deep) : AccOk par 0 deep [] ⟨0, 0, 1, 1⟩ := ⟨rfl, by simp, by simpa using h, by simp⟩
theorem AccOk.snoc {par : Bool} {used size deep : Nat} {es : List T} {a s : Sz} {t : T} (h : AccOk par used deep es a) (p : PartOk par size deep t s) : AccOk par (used + size) deep (es ++ [t]) (a.add s) := by
  have h1 := h.o2
  have h2 := h.k2
  have h3 := h.n2
  have p1 := p.o2
  have p2 := p.k2
  have p3 := p.n2
  refine ⟨szL_snoc p.sz p.sp h.sz, by simp only [Sz.add]; omega, by simp only [Sz.add]; omega, ?_⟩
  simp only [Sz.add, Nat.add_mul]; omega
theorem btw_int {t : T} (h : btw t 0 9 = true) : ∃ v : Int, t = .int v ∧ 0 ≤ v ∧ v ≤ 9 := by
  cases t <;> simp [btw] at h
  exact ⟨_, rfl, h⟩
theorem word_bt {w : Str} (h : wrd w) : (T.str w).tr = true ∧ (T.str w).wt ≤ 52 := by
  rcases h with rfl | rfl | rfl | rfl | rfl | rfl <;> exact ⟨by decide +kernel, by decide +kernel⟩
theorem szL_ls {f : T → Option Sz} {par : Bool} (hf : ∀ t u, f t = some u → t.tr = true ∧ t.nd = true ∧ t.dep ≤ u.k ∧ t.wt + 2 ≤ 70 * u.n) : ∀ {ps : List T} {a s : Sz}, szL f par ps a = some s → 1 ≤ a.k →
    T.trs ps = true ∧ T.nds ps = true ∧ T.deps ps + 1 ≤ s.k ∧ T.wts ps + 70 * a.n ≤ 70 * s.n ∧ a.k ≤ s.k
  | [], a, s, h, ha => by
    simp only [szL, Option.some.injEq] at h
    subst h
    simp [T.trs, T.nds, T.deps, T.wts, ha]
  | p :: ps, a, s, h, ha => by
    simp only [szL] at h
    split at h
    · cases h
    · rename_i u hu
      split at h
      · cases h
      · obtain ⟨h1, h2, h3, h4⟩ := hf _ _ hu
        obtain ⟨g1, g2, g3, g4, g5⟩ := szL_ls hf h (by simp only [Sz.add]; omega)
        simp only [Sz.add] at g4 g5
        refine ⟨by simp [T.trs, h1, g1], by simp [T.nds, h2, g2], by simp only [T.deps]; omega, by simp only [T.wts]; omega, by omega⟩
theorem sz_bt : ∀ {d : Nat} {t : T} {s : Sz}, sz d t = some s → t.tr = true ∧ t.nd = true ∧ t.dep ≤ s.k ∧ t.wt + 2 ≤ 70 * s.n
  | 0, t, s, h => by simp [sz] at h
  | d + 1, t, s, h => by
    have hs := sz_shape h
    clear h
    obtain ⟨w, ps, rfl, h⟩ := hs
    rcases h with ⟨rfl, a, rfl, hb, rfl⟩ | ⟨hw, par, inner, a, e, he, hh, h⟩
    · obtain ⟨v, rfl, v0, v9⟩ := btw_int hb
      have b := BT.int (v := v) (by omega)
      obtain ⟨w1, w2⟩ := word_bt (w := "draw") (.inl rfl)
      have b1 := b.tr
      have b2 := b.wt
      refine ⟨by simp [T.tr, T.trs] at w1 b1 ⊢; exact ⟨w1, b1⟩, by simp [T.nd, T.nds], by simp [T.dep, T.deps], by simp only [T.wt, T.wts] at w2 b2 ⊢; omega⟩
    · obtain rfl : d = e := by omega
      have ha := headP_k hh
      obtain ⟨g1, g2, g3, g4, g5⟩ := szL_ls (fun t u hu => sz_bt hu) h (by omega)
      have hww : wrd w := by
        rcases headP_wrd hh with ⟨rfl, _⟩ | ⟨rfl, _⟩ | ⟨rfl, _⟩ | ⟨rfl, _⟩ | ⟨rfl, _⟩ <;> simp [wrd]
      have han : a.n = 1 := by
        rcases headP_wrd hh with ⟨_, _, _, rfl, _⟩ | ⟨_, _, _, rfl, _⟩ | ⟨_, _, rfl, _⟩ | ⟨_, _, rfl, _⟩ | ⟨_, _, rfl, _⟩ <;> rfl
      obtain ⟨w1, w2⟩ := word_bt hww
      have key : T.trs ps = true ∧ T.nds ps = true ∧ T.deps ps + 1 ≤ s.k ∧ T.wts ps ≤ T.wts inner + 9 := by
        rcases headP_wrd hh with ⟨_, _, rfl, _⟩ | ⟨_, _, rfl, _⟩ | ⟨_, _, _, x, y, rfl, hb, rfl⟩ | ⟨_, _, _, y, rfl, rfl⟩ | ⟨_, _, _, y, rfl, rfl⟩
        · exact ⟨g1, g2, g3, by omega⟩
        · exact ⟨g1, g2, g3, by omega⟩
        · obtain ⟨v, rfl, v0, v9⟩ := btw_int hb
          have b := BT.int (v := v) (by omega)
          have b1 := b.tr
          have b2 := b.wt
          refine ⟨by simp only [T.trs, Bool.and_true] at g1 ⊢; rw [b1, g1]; rfl, by simp only [T.nds, T.nd, Bool.and_true, Bool.true_and] at g2 ⊢; exact g2, by simp only [T.deps, T.dep] at g3 ⊢; omega, by simp only [T.wts] at b2 ⊢; omega⟩
        · exact ⟨g1, g2, g3, by omega⟩
        · exact ⟨g1, g2, g3, by omega⟩
      obtain ⟨k1, k2, k3, k4⟩ := key
      refine ⟨by simp only [T.tr, T.trs] at w1 ⊢; simp [w1, k1], by simp only [T.nd, T.nds]; simp [k2], by simp only [T.dep, T.deps]; omega, by simp only [T.wt, T.wts] at w2 ⊢; omega⟩
theorem GenOk.bt {room deep : Nat} {t : T} {s : Sz} (g : GenOk room deep t s) : BT deep (140 * (room * deep)) t := by
  obtain ⟨h1, h2, h3, h4⟩ := sz_bt g.sz
  have := g.k2
  have := g.n2
  exact ⟨h1, h2, by omega, by omega⟩
end Mi
namespace Mi
open PySem L2 PySem.Builtin PySem.Builtin.Str PySem.StrLaws
inductive Hs (w : List Nat) : Nat → List Nat → Prop where
  | nil (l : List Nat) : Hs w 0 l
  | skip {n : Nat} {l : List Nat} (c : Nat) : Hs w n l → Hs w n (c :: l)
  | take {n : Nat} {l : List Nat} : Hs w n l → Hs w (n + 1) (w ++ l)
theorem Hs.skips {w : List Nat} {n : Nat} {l : List Nat} (h : Hs w n l) : ∀ k : List Nat, Hs w n (k ++ l)
  | [] => h
  | c :: k => (h.skips k).skip c
theorem Hs.less {w : List Nat} {n : Nat} {l : List Nat} (h : Hs w n l) : Hs w (n - 1) l := by
  induction h with
  | nil l => exact .nil l
  | skip c _ ih => exact ih.skip c
  | take h _ => exact h.skips w
theorem Hs.app {w : List Nat} {n m : Nat} {a b : List Nat} (h : Hs w n a) (g : Hs w m b) : Hs w (n + m) (a ++ b) := by
  induction h with
  | nil l => rw [Nat.zero_add]; exact g.skips l
  | skip c _ ih => exact ih.skip c
  | take h ih =>
    rename_i n l
    rw [List.append_assoc, show n + 1 + m = (n + m) + 1 by omega]
    exact ih.take
theorem Hs.drop {w : List Nat} {n : Nat} {l : List Nat} (h : Hs w n l) : ∀ {k : Nat}, k ≤ w.length → Hs w (n - 1) (l.drop k) := by
  induction h with
  | nil l => intro k _; exact .nil _
  | @skip n l c h ih =>
    intro k hk
    cases k with
    | zero => exact (h.skip c).less
    | succ k => exact ih (by omega)
  | @take n l h _ =>
    intro k hk
    have e : (w ++ l).drop k = w.drop k ++ l := by rw [List.drop_append_of_le_length hk]
    rw [e]
    exact h.skips _
theorem Hs.tail {w : List Nat} {n : Nat} {l : List Nat} (h : Hs w n l) (hn : ¬ w <+: l) : Hs w n l.tail := by
  cases h with
  | nil => exact .nil _
  | skip c h => exact h
  | take h => exact absurd (List.prefix_append _ _) hn
inductive HsL (w : List Nat) : Nat → List PySem.Str → Prop where
  | nil : HsL w 0 []
  | cons {n m : Nat} {t : PySem.Str} {ts : List PySem.Str} : Hs w n t.cps.toList → HsL w m ts → HsL w (n + m) (t :: ts)
theorem cpsApp (a b : PySem.Str) : (a ++ b).cps.toList = a.cps.toList ++ b.cps.toList := PyProof.Rows.cps_toList_append a b
theorem HsL.join {w : List Nat} {n : Nat} {ts : List PySem.Str} (sep : PySem.Str) (h : HsL w n ts) : Hs w n (Str.join sep ts).cps.toList := by
  induction h with
  | nil => exact .nil _
  | @cons n m t ts h1 h2 ih =>
    cases ts with
    | nil =>
      cases h2
      exact h1
    | cons u r =>
      show Hs w (n + m) ((t ++ sep ++ Str.join sep (u :: r)) : PySem.Str).cps.toList
      rw [cpsApp, cpsApp, List.append_assoc]
      exact h1.app (ih.skips _)
theorem HsL.tuple {w : List Nat} {n : Nat} {ts : List PySem.Str} (h : HsL w n ts) : Hs w n (tupleText ts).cps.toList := by
  unfold tupleText
  rw [cpsApp, cpsApp, List.append_assoc]
  exact Hs.skips ((h.join ", ").app (Hs.nil _)) _
structure PlanR (room : Nat) (t : T) (s : Sz) : Prop where
  sz : sz 10 t = some s
  sp : spl t = false
  o1 : 1 ≤ s.o
  o2 : s.o ≤ room
  r8 : s.r ≤ 8
  n50 : s.n ≤ 50
  k9 : s.k ≤ 9
theorem PlanR.bt {room : Nat} {t : T} {s : Sz} (g : PlanR room t s) : BT 10 3500 t := by
  obtain ⟨h1, h2, h3, h4⟩ := sz_bt g.sz
  have := sz_k g.sz
  have := g.n50
  exact ⟨h1, h2, by omega, by omega⟩
end Mi
namespace Mi
open PySem L2
section
variable {Q : T → Sto → Prop} {E : Exn → Sto → Prop} {ρ : Sl} {y0 : Option T} {st : Sto} {N : Sl → Sto → Prop} {Rt : T → Sto → Prop} {B C : Sl → Sto → Prop} {Ex : Exn → Sl → Sto → Prop}
end
def numL (b : List Nat) : T := .lst (b.map fun (n : Nat) => .int n)
structure Gs where
  u : List T
  h : List (List Int)
  b : List (List Nat)
  r : List (List Nat)
  w : List (Nat × List Nat)
  l : Nat
def Gs.nil : Gs := ⟨[], [], [], [], [], 0⟩
section
variable {pre post : Sto} {s : Gs} {n : Nat} {l : Int}
variable {Q : T → Sto → Prop} {E : Exn → Sto → Prop}
def putN (w : List (Nat × List Nat)) (n : Nat) (v : List Nat) : List (Nat × List Nat) :=
  if (w.any fun p => decide (p.1 = n)) = true then w.map (fun p => if p.1 = n then (p.1, v) else p) else w ++ [(n, v)]
end
def gPut (a : T) (key : List Int) (bef ret : List Nat) (s : Gs) : Gs := ⟨s.u ++ [a], s.h ++ [key], s.b ++ [bef], s.r ++ [ret], s.w, s.l⟩
abbrev AddF := T → List Int → List Nat → List Nat → Gs → Gs
def gSpl (key : List Int) (bef ret : List Nat) (n0 : Nat) : List T → Gs → Gs
  | [], s => s
  | p :: ps, s => if spl p then gSpl key bef ret n0 ps (gPut .non key (bef ++ List.range' n0 (s.u.length - n0)) ret s) else gSpl key bef ret n0 ps s
def gSeq (A : AddF) (key : List Int) (bef ret : List Nat) (n0 : Nat) : List T → Gs → Gs
  | [], s => s
  | p :: ps, s => gSeq A key bef ret n0 ps (A p key (bef ++ List.range' n0 (s.u.length - n0)) ret s)
def inner1 : T → T
  | .tup [_, q] => q
  | _ => .non
def isRetry : T → Bool
  | .tup (.str w :: _) => decide (w = "retry")
  | _ => false
def gPar (A : AddF) (key : List Int) (bef ret : List Nat) : List T → Nat → Gs → Gs
  | [], _, s => s
  | p :: ps, j, s => if spl p then gPar A key bef ret ps (j + 1) (A (inner1 p) [(j : Int)] bef ret { s with w := putN s.w j (if isRetry (inner1 p) then ret ++ [s.l] else ret) })
    else gPar A key bef ret ps j (A p key bef ret s)
def nspl (ps : List T) : Nat := (ps.filter spl).length
structure Grw (s s' : Gs) (o q x : Nat) : Prop where
  u : s'.u.length = s.u.length + o
  h : s'.h.length = s.h.length + o
  b : s'.b.length = s.b.length + o
  r : s'.r.length = s.r.length + o
  w : s'.w.length ≤ s.w.length + x
  l : s'.l = s.l + q
theorem Grw.refl {s : Gs} : Grw s s 0 0 0 := ⟨rfl, rfl, rfl, rfl, Nat.le_refl _, rfl⟩
theorem Grw.trans {s s1 s2 : Gs} {o r x o' r' x' : Nat} (a : Grw s s1 o r x) (b : Grw s1 s2 o' r' x') : Grw s s2 (o + o') (r + r') (x + x') :=
  ⟨by rw [b.u, a.u]; omega, by rw [b.h, a.h]; omega, by rw [b.b, a.b]; omega, by rw [b.r, a.r]; omega, by have := a.w; have := b.w; omega, by rw [b.l, a.l]; omega⟩
theorem Grw.to {s s1 : Gs} {o r x o' r' x' : Nat} (a : Grw s s1 o r x) (h1 : o = o') (h2 : r = r') (h3 : x ≤ x') : Grw s s1 o' r' x' := by
  subst h1; subst h2; exact ⟨a.u, a.h, a.b, a.r, by have := a.w; omega, a.l⟩
section
variable {d : Nat} {A : AddF} (hA : ∀ t z, sz d t = some z → spl t = false → ∀ key bef ret s, Grw s (A t key bef ret s) z.o z.r z.o)
include hA
end
section
variable {Q : T → Sto → Prop} {E : Exn → Sto → Prop} {st : Sto}
@[simp] theorem Ok_addN (a b : List Nat) : Ok (opAdd (numL a) (numL b) st) Q E ↔ a.length + b.length ≤ sizeLine ∧ Q (numL (a ++ b)) st := by
  show Ok (opAdd (.lst _) (.lst _) st) Q E ↔ _
  rw [Ok_addL]
  simp [numL]
@[simp] theorem seqR_num (k : List Nat) : seqR st (numL k) = some (k.map fun (n : Nat) => .int n) := rfl
end
end Mi
namespace Mi
open PySem L2
def LAt (st : Sto) (x : T) (es : List T) : Prop := x = .lst es ∨ ∃ i, x = .ref i ∧ st[i]? = some (.lst es)
theorem LAt.ext {st g : Sto} {x : T} {es : List T} (h : LAt st x es) : LAt (st ++ g) x es := by
  rcases h with rfl | ⟨i, rfl, h⟩
  · exact .inl rfl
  · refine .inr ⟨i, rfl, ?_⟩
    rw [List.getElem?_append_left (List.getElem?_eq_some_iff.mp h).1]; exact h
theorem LAt.lstR {st : Sto} {x : T} {es : List T} (h : LAt st x es) : lstR st x = some es := by
  rcases h with rfl | ⟨i, rfl, h⟩
  · rfl
  · simp [Mi.lstR, h]
theorem LAt.lstD {st : Sto} {x : T} {es : List T} (h : LAt st x es) : lstD st x = some es := by
  rcases h with rfl | ⟨i, rfl, h⟩
  · rfl
  · simp [Mi.lstD, h]
theorem LAt.len {st : Sto} {x : T} {es : List T} (h : LAt st x es) : fLen [x] st = .ok (.int es.length) st := by
  rcases h with rfl | ⟨i, rfl, h⟩
  · rfl
  · simp [fLen, seqR, Mi.lstR, h]
theorem LAt.add {st : Sto} {x y : T} {a b : List T} (h : LAt st x a) (g : LAt st y b) (hz : a.length + b.length ≤ sizeLine) : opAdd x y st = .ok (.lst (a ++ b)) st := by
  have h1 := h.lstD
  have h2 := g.lstD
  rcases h with rfl | ⟨i, rfl, h⟩ <;> rcases g with rfl | ⟨j, rfl, g⟩ <;> simp [opAdd, h1, h2, hz]
abbrev LisF := T → List T → List T → List T → List T
def usesOf : Nat → T → List T
  | 0 => fun _ => []
  | d + 1 => fun t => match t with
    | .tup (.str w :: ps) =>
      if w = "draw" then (match ps with | [a] => [a] | _ => [])
      else if w = "named" then (match ps with | [_, p] => usesOf d p | _ => [])
      else if w = "retry" then (match ps with | [p] => usesOf d p | _ => [])
      else List.replicate (nspl ps) .non ++ (ps.map fun p => usesOf d (if spl p then inner1 p else p)).flatten
    | _ => []
def useT : T → T
  | .tup (a :: _) => a
  | _ => .non
section
variable {d : Nat} {L : LisF} (hL : ∀ t z, sz d t = some z → spl t = false → ∀ home marks node, (L t home marks node).map useT = usesOf d t)
include hL
end
section
variable {d : Nat} {A : AddF} (hA : ∀ t z, sz d t = some z → spl t = false → ∀ key bef ret s, (A t key bef ret s).u = s.u ++ usesOf d t)
include hA
end
end Mi
namespace Mi
open PySem L2
section
variable {X : Cx}
end
end Mi
namespace Mi
open PySem L2 PySem.Spec PyProof.Rows
section
variable {X : Cx}
end
section
variable {Q : T → Sto → Prop} {E : Exn → Sto → Prop} {st : Sto} {r : Int → Int → Bool} {z : Nat → Nat → Bool}
end
end Mi
namespace Mi
open PySem L2
mutual
inductive P where
  | draw (u : Int)
  | seq (ps : Ps)
  | par (ps : Ps)
  | named (n : Int) (p : P)
  | retry (p : P)
/-- parts; true: a split part -/
inductive Ps where
  | nil
  | cons (b : Bool) (p : P) (ps : Ps)
end
mutual
/-- the tuple -/
def P.t : P → T
  | .draw u => .tup [.str "draw", .int u]
  | .seq ps => .tup (.str "seq" :: ps.ts)
  | .par ps => .tup (.str "par" :: ps.ts)
  | .named n p => .tup [.str "named", .int n, p.t]
  | .retry p => .tup [.str "retry", p.t]
def Ps.ts : Ps → List T
  | .nil => []
  | .cons b p ps => (if b then .tup [.str "split", p.t] else p.t) :: ps.ts
end
mutual
/-- depth -/
def P.dep : P → Nat
  | .draw _ => 1
  | .seq ps => ps.dep + 1
  | .par ps => ps.dep + 1
  | .named _ p => p.dep + 1
  | .retry p => p.dep + 1
def Ps.dep : Ps → Nat
  | .nil => 0
  | .cons b p ps => max (if b then p.dep + 1 else p.dep) ps.dep
end
def Ps.len : Ps → Nat
  | .nil => 0
  | .cons _ _ ps => ps.len + 1
def Ps.k : Ps → Nat
  | .nil => 0
  | .cons b _ ps => (if b then 1 else 0) + ps.k
mutual
/-- operations -/
def P.o : P → Nat
  | .draw _ => 1
  | .seq ps => ps.o
  | .par ps => ps.k + ps.o
  | .named _ p => p.o
  | .retry p => p.o
def Ps.o : Ps → Nat
  | .nil => 0
  | .cons _ p ps => p.o + ps.o
end
mutual
/-- retries -/
def P.q : P → Nat
  | .draw _ => 0
  | .seq ps => ps.q
  | .par ps => ps.q
  | .named _ p => p.q
  | .retry p => p.q + 1
def Ps.q : Ps → Nat
  | .nil => 0
  | .cons _ p ps => p.q + ps.q
end
mutual
/-- tuples -/
def P.tn : P → Nat
  | .draw _ => 1
  | .seq ps => ps.tn + 1
  | .par ps => ps.tn + 1
  | .named _ p => p.tn + 1
  | .retry p => p.tn + 1
def Ps.tn : Ps → Nat
  | .nil => 0
  | .cons b p ps => (if b then 1 else 0) + p.tn + ps.tn
end
mutual
/-- uses and names from 0 to 9, no split part in a seq, at most twelve parts -/
def P.wf : P → Bool
  | .draw u => decide (0 ≤ u ∧ u ≤ 9)
  | .seq ps => decide (ps.k = 0) && decide (ps.len ≤ 12) && ps.wf
  | .par ps => decide (ps.len ≤ 12) && ps.wf
  | .named n p => decide (0 ≤ n ∧ n ≤ 9) && p.wf
  | .retry p => p.wf
def Ps.wf : Ps → Bool
  | .nil => true
  | .cons _ p ps => p.wf && ps.wf
end
theorem spl_t : ∀ p : P, spl p.t = false
  | .draw _ | .seq _ | .par _ | .named _ _ | .retry _ => by simp [P.t, spl]
theorem spl_s (p : P) : spl (.tup [.str "split", p.t]) = true := by simp [spl]
mutual
/-- the uses -/
def P.us : P → List T
  | .draw u => [.int u]
  | .seq ps => ps.us
  | .par ps => List.replicate ps.k .non ++ ps.us
  | .named _ p => p.us
  | .retry p => p.us
def Ps.us : Ps → List T
  | .nil => []
  | .cons _ p ps => p.us ++ ps.us
end
mutual
/-- the keys of the streams; n: the number of the first operation; of parts, j: that of the next split -/
def P.hs : P → List Int → Nat → List (List Int)
  | .draw _, key, _ => [key]
  | .seq ps, key, n => ps.hs key 0 n
  | .par ps, key, n => List.replicate ps.k key ++ ps.hs key n (n + ps.k)
  | .named a p, key, n => p.hs (key ++ [a]) n
  | .retry p, key, n => p.hs key n
def Ps.hs : Ps → List Int → Nat → Nat → List (List Int)
  | .nil, _, _, _ => []
  | .cons b p ps, key, j, n => (if b then p.hs [(j : Int)] n else p.hs key n) ++ ps.hs key (if b then j + 1 else j) (n + p.o)
end
mutual
/-- what each operation is after -/
def P.bs : P → List Nat → Nat → List (List Nat)
  | .draw _, bef, _ => [bef]
  | .seq ps, bef, n => ps.bs false bef n n
  | .par ps, bef, n => (List.range ps.k).map (fun i => bef ++ List.range' n i) ++ ps.bs true (bef ++ List.range' n ps.k) n (n + ps.k)
  | .named _ p, bef, n => p.bs bef n
  | .retry p, bef, n => p.bs bef n
def Ps.bs : Ps → Bool → List Nat → Nat → Nat → List (List Nat)
  | .nil, _, _, _, _ => []
  | .cons _ p ps, par, bef, n0, n => p.bs (if par then bef else bef ++ List.range' n0 (n - n0)) n ++ ps.bs par bef n0 (n + p.o)
end
mutual
/-- the retries that it is in -/
def P.rs : P → List Nat → Nat → List (List Nat)
  | .draw _, ret, _ => [ret]
  | .seq ps, ret, l => ps.rs ret l
  | .par ps, ret, l => List.replicate ps.k ret ++ ps.rs ret l
  | .named _ p, ret, l => p.rs ret l
  | .retry p, ret, l => p.rs (ret ++ [l]) (l + 1)
def Ps.rs : Ps → List Nat → Nat → List (List Nat)
  | .nil, _, _ => []
  | .cons _ p ps, ret, l => p.rs ret l ++ ps.rs ret (l + p.q)
end
mutual
theorem P.us_len : ∀ p : P, p.us.length = p.o
  | .draw _ => rfl
  | .seq ps => by simp only [P.us, P.o, Ps.us_len ps]
  | .par ps => by simp only [P.us, P.o, List.length_append, List.length_replicate, Ps.us_len ps]
  | .named _ p => by simp only [P.us, P.o, P.us_len p]
  | .retry p => by simp only [P.us, P.o, P.us_len p]
theorem Ps.us_len : ∀ ps : Ps, ps.us.length = ps.o
  | .nil => rfl
  | .cons _ p ps => by simp only [Ps.us, Ps.o, List.length_append, P.us_len p, Ps.us_len ps]
end
mutual
theorem P.bs_len : ∀ (p : P) (bef : List Nat) (n : Nat), (p.bs bef n).length = p.o
  | .draw _, _, _ => rfl
  | .seq ps, _, _ => by simp only [P.bs, P.o, Ps.bs_len ps]
  | .par ps, _, _ => by simp only [P.bs, P.o, List.length_append, List.length_map, List.length_range, Ps.bs_len ps]
  | .named _ p, _, _ => by simp only [P.bs, P.o, P.bs_len p]
  | .retry p, _, _ => by simp only [P.bs, P.o, P.bs_len p]
theorem Ps.bs_len : ∀ (ps : Ps) (par : Bool) (bef : List Nat) (n0 n : Nat), (ps.bs par bef n0 n).length = ps.o
  | .nil, _, _, _, _ => rfl
  | .cons b p ps, _, _, _, _ => by simp only [Ps.bs, Ps.o, List.length_append, P.bs_len p, Ps.bs_len ps]
end
structure GP (s s' : Gs) (us : List T) (hs : List (List Int)) (bs rs : List (List Nat)) (q : Nat) : Prop where
  u : s'.u = s.u ++ us
  h : s'.h = s.h ++ hs
  b : s'.b = s.b ++ bs
  r : s'.r = s.r ++ rs
  l : s'.l = s.l + q
theorem GP.refl (s : Gs) : GP s s [] [] [] [] 0 := ⟨by simp, by simp, by simp, by simp, rfl⟩
theorem GP.trans {s s1 s2 : Gs} {us us' : List T} {hs hs' : List (List Int)} {bs bs' rs rs' : List (List Nat)} {q q' : Nat} (a : GP s s1 us hs bs rs q) (b : GP s1 s2 us' hs' bs' rs' q') :
    GP s s2 (us ++ us') (hs ++ hs') (bs ++ bs') (rs ++ rs') (q + q') :=
  ⟨by rw [b.u, a.u, List.append_assoc], by rw [b.h, a.h, List.append_assoc], by rw [b.b, a.b, List.append_assoc], by rw [b.r, a.r, List.append_assoc], by rw [b.l, a.l]; omega⟩
theorem GP.put (a : T) (key : List Int) (bef ret : List Nat) (s : Gs) : GP s (gPut a key bef ret s) [a] [key] [bef] [ret] 0 := ⟨rfl, rfl, rfl, rfl, rfl⟩
theorem GP.spl (key : List Int) (bef ret : List Nat) (n0 : Nat) : ∀ (ps : Ps) (s : Gs), n0 ≤ s.u.length → GP s (gSpl key bef ret n0 ps.ts s) (List.replicate ps.k .non) (List.replicate ps.k key) ((List.range' (s.u.length - n0) ps.k).map fun i => bef ++ List.range' n0 i) (List.replicate ps.k ret) 0
  | .nil, s, _ => by simpa [Ps.ts, gSpl, Ps.k] using GP.refl s
  | .cons b p ps, s, h0 => by
    cases b with
    | false =>
      simp only [Ps.ts, gSpl, Ps.k, spl_t, if_false, Nat.zero_add, Bool.false_eq_true]
      exact GP.spl key bef ret n0 ps s h0
    | true =>
      simp only [Ps.ts, gSpl, Ps.k, spl_s, if_true, Nat.add_comm 1]
      have h := (GP.put .non key (bef ++ List.range' n0 (s.u.length - n0)) ret s).trans (GP.spl key bef ret n0 ps _ (by simp [gPut]; omega))
      simp only [List.replicate_succ, List.range'_succ, List.map_cons]
      have e : (gPut .non key (bef ++ List.range' n0 (s.u.length - n0)) ret s).u.length - n0 = s.u.length - n0 + 1 := by simp [gPut]; omega
      rw [e] at h
      exact h
section
variable {d : Nat} {A : AddF} (hA : ∀ (p : P) key bef ret s, p.wf = true → p.dep ≤ d → GP s (A p.t key bef ret s) p.us (p.hs key s.u.length) (p.bs bef s.u.length) (p.rs ret s.l) p.q)
include hA
theorem GP.seq (key : List Int) (bef ret : List Nat) (n0 : Nat) : ∀ (ps : Ps) (s : Gs), ps.wf = true → ps.dep ≤ d → ps.k = 0 → GP s (gSeq A key bef ret n0 ps.ts s) ps.us (ps.hs key 0 s.u.length) (ps.bs false bef n0 s.u.length) (ps.rs ret s.l) ps.q
  | .nil, s, _, _, _ => GP.refl s
  | .cons b p ps, s, hw, hd, hk => by
    simp only [Ps.wf, Bool.and_eq_true] at hw
    cases b with
    | true => simp only [Ps.k, if_true] at hk; omega
    | false =>
      simp only [Ps.k, if_false, Bool.false_eq_true] at hk
      simp only [Ps.dep, if_false, Bool.false_eq_true] at hd
      simp only [Ps.ts, gSeq, if_false, Bool.false_eq_true, Ps.us, Ps.hs, Ps.bs, Ps.rs, Ps.q]
      have h1 := hA p key (bef ++ List.range' n0 (s.u.length - n0)) ret s hw.1 (by omega)
      have h2 := GP.seq key bef ret n0 ps (A p.t key (bef ++ List.range' n0 (s.u.length - n0)) ret s) hw.2 (by omega) (by omega)
      have e : (A p.t key (bef ++ List.range' n0 (s.u.length - n0)) ret s).u.length = s.u.length + p.o := by rw [h1.u, List.length_append, P.us_len]
      rw [e, h1.l] at h2
      exact h1.trans h2
theorem GP.par (key : List Int) (bef ret : List Nat) (n0 : Nat) : ∀ (ps : Ps) (j : Nat) (s : Gs), ps.wf = true → ps.dep ≤ d → GP s (gPar A key bef ret ps.ts j s) ps.us (ps.hs key j s.u.length) (ps.bs true bef n0 s.u.length) (ps.rs ret s.l) ps.q
  | .nil, j, s, _, _ => GP.refl s
  | .cons b p ps, j, s, hw, hd => by
    simp only [Ps.wf, Bool.and_eq_true] at hw
    cases b with
    | true =>
      simp only [Ps.dep, if_true] at hd
      simp only [Ps.ts, gPar, if_true, spl_s, Ps.us, Ps.hs, Ps.bs, Ps.rs, Ps.q, inner1]
      have h1 := hA p [(j : Int)] bef ret { s with w := putN s.w j (if isRetry p.t then ret ++ [s.l] else ret) } hw.1 (by omega)
      have h2 := GP.par key bef ret n0 ps (j + 1) (A p.t [(j : Int)] bef ret { s with w := putN s.w j (if isRetry p.t then ret ++ [s.l] else ret) }) hw.2 (by omega)
      have e : (A p.t [(j : Int)] bef ret { s with w := putN s.w j (if isRetry p.t then ret ++ [s.l] else ret) }).u.length = s.u.length + p.o := by rw [h1.u, List.length_append, P.us_len]
      rw [e, h1.l] at h2
      have h0 : GP s { s with w := putN s.w j (if isRetry p.t then ret ++ [s.l] else ret) } [] [] [] [] 0 := ⟨by simp, by simp, by simp, by simp, rfl⟩
      have h3 := h0.trans (h1.trans h2)
      rw [Nat.zero_add] at h3
      exact h3
    | false =>
      simp only [Ps.dep, if_false, Bool.false_eq_true] at hd
      simp only [Ps.ts, gPar, if_false, spl_t, Bool.false_eq_true, Ps.us, Ps.hs, Ps.bs, Ps.rs, Ps.q, if_true]
      have h1 := hA p key bef ret s hw.1 (by omega)
      have h2 := GP.par key bef ret n0 ps j (A p.t key bef ret s) hw.2 (by omega)
      have e : (A p.t key bef ret s).u.length = s.u.length + p.o := by rw [h1.u, List.length_append, P.us_len]
      rw [e, h1.l] at h2
      exact h1.trans h2
end
end Mi
namespace Mi
open PySem L2
abbrev Mark := List Nat × Nat × Nat
structure Hm where
  key : List Int
  r : Option (List Nat)
  ns : List Int
structure Al where
  no : Nat
  use : T
  h : Hm
  bef : List Nat
  ret : List Nat
  ms : List Mark
  own : Option (List Nat)
def Al.push (m : Mark) (a : Al) : Al := { a with ms := m :: a.ms }
def Ps.spl (h : Hm) (bef : List Nat) (n0 : Nat) (node : List Nat) (ret : List Nat) : Ps → Nat → Nat → List Al
  | .nil, _, _ => []
  | .cons b _ ps, a, i => if b then ⟨n0 + a, .non, h, bef ++ List.range' n0 a, ret, [(node, 1, a)], some (node ++ [i])⟩ :: Ps.spl h bef n0 node ret ps (a + 1) (i + 1) else Ps.spl h bef n0 node ret ps a (i + 1)
mutual
def P.all : P → Hm → List Nat → Nat → List Nat → List Nat → Nat → List Al
  | .draw u, h, bef, n, node, ret, l => [⟨n, .int u, h, bef, ret, [], none⟩]
  | .seq ps, h, bef, n, node, ret, l => ps.all false h bef n 0 n node 0 ret l
  | .par ps, h, bef, n, node, ret, l => ps.spl h bef n node ret 0 0 ++ ps.all true h (bef ++ List.range' n ps.k) n n (n + ps.k) node 0 ret l
  | .named a p, h, bef, n, node, ret, l => p.all ⟨h.key ++ [a], h.r, h.ns ++ [a]⟩ bef n (node ++ [0]) ret l
  | .retry p, h, bef, n, node, ret, l => p.all h bef n (node ++ [0]) (ret ++ [l]) (l + 1)
def Ps.all : Ps → Bool → Hm → List Nat → Nat → Nat → Nat → List Nat → Nat → List Nat → Nat → List Al
  | .nil, _, _, _, _, _, _, _, _, _, _ => []
  | .cons b p ps, par, h, bef, n0, j, n, node, i, ret, l =>
    (p.all (if b then ⟨[(j : Int)], some (node ++ [i]), []⟩ else h) (if par then bef else bef ++ List.range' n0 (n - n0)) n (node ++ [i]) ret l).map (Al.push (node, if par then 2 else 0, i)) ++
      ps.all par h bef n0 (if b then j + 1 else j) (n + p.o) node (i + 1) ret (l + p.q)
end
theorem map_push {α : Type} (f : Al → α) (hf : ∀ m a, f (Al.push m a) = f a) (m : Mark) (l : List Al) : (l.map (Al.push m)).map f = l.map f := by
  rw [List.map_map]
  exact List.map_congr_left fun a _ => hf m a
theorem Ps.spl_no (h : Hm) (bef : List Nat) (n0 : Nat) (node ret : List Nat) : ∀ (ps : Ps) (a i : Nat), (ps.spl h bef n0 node ret a i).map Al.no = List.range' (n0 + a) ps.k
  | .nil, _, _ => rfl
  | .cons true p ps, a, i => by simp [Ps.spl, Ps.k, Ps.spl_no h bef n0 node ret ps, Nat.add_comm 1, List.range'_succ, Nat.add_assoc]
  | .cons false p ps, a, i => by simp [Ps.spl, Ps.k, Ps.spl_no h bef n0 node ret ps]
theorem Ps.spl_mem {h : Hm} {bef : List Nat} {n0 : Nat} {node ret : List Nat} : ∀ {ps : Ps} {a i : Nat} {x : Al}, x ∈ ps.spl h bef n0 node ret a i → ∃ c e, a ≤ c ∧ c < a + ps.k ∧ i ≤ e ∧ e < i + ps.len ∧ x = ⟨n0 + c, .non, h, bef ++ List.range' n0 c, ret, [(node, 1, c)], some (node ++ [e])⟩
  | .nil, _, _, x, hx => by cases hx
  | .cons true p ps, a, i, x, hx => by
    simp only [Ps.spl, if_true, List.mem_cons] at hx
    rcases hx with rfl | hx
    · exact ⟨a, i, Nat.le_refl _, by simp only [Ps.k, if_true]; omega, Nat.le_refl _, by simp only [Ps.len]; omega, rfl⟩
    · obtain ⟨c, e, h1, h2, h3, h4, rfl⟩ := Ps.spl_mem hx
      exact ⟨c, e, by omega, by simp [Ps.k]; omega, by omega, by simp [Ps.len]; omega, rfl⟩
  | .cons false p ps, a, i, x, hx => by
    simp only [Ps.spl, if_false, Bool.false_eq_true] at hx
    obtain ⟨c, e, h1, h2, h3, h4, rfl⟩ := Ps.spl_mem hx
    exact ⟨c, e, by omega, by simp [Ps.k]; omega, by omega, by simp [Ps.len]; omega, rfl⟩
mutual
theorem P.all_no : ∀ (p : P) (h : Hm) (bef : List Nat) (n : Nat) (node ret : List Nat) (l : Nat), (p.all h bef n node ret l).map Al.no = List.range' n p.o
  | .draw _, _, _, _, _, _, _ => rfl
  | .seq ps, h, bef, n, node, ret, l => by simp only [P.all, P.o, Ps.all_no ps]
  | .par ps, h, bef, n, node, ret, l => by
    simp only [P.all, P.o, List.map_append, Ps.all_no ps, Ps.spl_no, Nat.add_zero]
    rw [List.range'_append_1]
  | .named a p, h, bef, n, node, ret, l => by simp only [P.all, P.o, P.all_no p]
  | .retry p, h, bef, n, node, ret, l => by simp only [P.all, P.o, P.all_no p]
theorem Ps.all_no : ∀ (ps : Ps) (par : Bool) (h : Hm) (bef : List Nat) (n0 j n : Nat) (node : List Nat) (i : Nat) (ret : List Nat) (l : Nat), (ps.all par h bef n0 j n node i ret l).map Al.no = List.range' n ps.o
  | .nil, _, _, _, _, _, _, _, _, _, _ => rfl
  | .cons b p ps, par, h, bef, n0, j, n, node, i, ret, l => by
    simp only [Ps.all, Ps.o, List.map_append]
    rw [map_push Al.no (fun _ _ => rfl), P.all_no p, Ps.all_no ps, List.range'_append_1]
end
mutual
theorem P.all_bef : ∀ (p : P) (h : Hm) (bef : List Nat) (n : Nat) (node ret : List Nat) (l : Nat), (p.all h bef n node ret l).map Al.bef = p.bs bef n
  | .draw _, _, _, _, _, _, _ => rfl
  | .seq ps, h, bef, n, node, ret, l => by simp only [P.all, P.bs, Ps.all_bef ps]
  | .par ps, h, bef, n, node, ret, l => by
    have e : ∀ (ps : Ps) (a i : Nat), (ps.spl h bef n node ret a i).map Al.bef = (List.range' a ps.k).map (fun i => bef ++ List.range' n i) := by
      intro ps
      induction ps using Ps.rec (motive_1 := fun _ => True) with
      | nil => intro a i; rfl
      | cons b p ps _ ih => intro a i; cases b <;> simp [Ps.spl, Ps.k, ih, Nat.add_comm 1, List.range'_succ]
      | _ => trivial
    simp only [P.all, P.bs, List.map_append, Ps.all_bef ps, e, List.range_eq_range']
  | .named a p, h, bef, n, node, ret, l => by simp only [P.all, P.bs, P.all_bef p]
  | .retry p, h, bef, n, node, ret, l => by simp only [P.all, P.bs, P.all_bef p]
theorem Ps.all_bef : ∀ (ps : Ps) (par : Bool) (h : Hm) (bef : List Nat) (n0 j n : Nat) (node : List Nat) (i : Nat) (ret : List Nat) (l : Nat), (ps.all par h bef n0 j n node i ret l).map Al.bef = ps.bs par bef n0 n
  | .nil, _, _, _, _, _, _, _, _, _, _ => rfl
  | .cons b p ps, par, h, bef, n0, j, n, node, i, ret, l => by
    simp only [Ps.all, Ps.bs, List.map_append]
    rw [map_push Al.bef (fun _ _ => rfl), P.all_bef p, Ps.all_bef ps]
end
structure BefOk (bef : List Nat) (n : Nat) (x : Al) : Prop where
  lt : ∀ m ∈ x.bef, m < x.no
  low : ∀ m, m < n → (m ∈ x.bef ↔ m ∈ bef)
mutual
theorem P.all_befOk : ∀ (p : P) (h : Hm) (bef : List Nat) (n : Nat) (node ret : List Nat) (l : Nat), (∀ m ∈ bef, m < n) → ∀ x ∈ p.all h bef n node ret l, BefOk bef n x
  | .draw _, h, bef, n, node, ret, l, hb => fun x hx => by
    simp only [P.all, List.mem_singleton] at hx
    subst hx
    exact ⟨hb, fun m _ => Iff.rfl⟩
  | .seq ps, h, bef, n, node, ret, l, hb => fun x hx => by
    simp only [P.all] at hx
    obtain ⟨h1, h2⟩ := Ps.all_befOk ps false h bef n 0 n node 0 ret l (Nat.le_refl _) hb x hx
    exact ⟨h1, fun m hm => by rw [h2 m hm]; simp⟩
  | .par ps, h, bef, n, node, ret, l, hb => fun x hx => by
    simp only [P.all, List.mem_append] at hx
    rcases hx with hx | hx
    · obtain ⟨c, e, h1, h2, h3, h4, rfl⟩ := Ps.spl_mem hx
      refine ⟨fun m hm => ?_, fun m hm => ?_⟩
      · simp only [List.mem_append, List.mem_range'_1] at hm
        show m < n + c
        rcases hm with hm | hm
        · have := hb m hm; omega
        · omega
      · simp only [List.mem_append, List.mem_range'_1]
        constructor
        · rintro (h | h)
          · exact h
          · omega
        · exact fun h => .inl h
    · obtain ⟨h1, h2⟩ := Ps.all_befOk ps true h (bef ++ List.range' n ps.k) n n (n + ps.k) node 0 ret l (by omega) (fun m hm => by
        simp only [List.mem_append, List.mem_range'_1] at hm
        rcases hm with hm | hm
        · have := hb m hm; omega
        · omega) x hx
      refine ⟨h1, fun m hm => ?_⟩
      rw [h2 m (by omega)]
      simp only [if_true, List.mem_append, List.mem_range'_1]
      constructor
      · rintro (h | h)
        · exact h
        · omega
      · exact fun h => .inl h
  | .named a p, h, bef, n, node, ret, l, hb => fun x hx => P.all_befOk p _ bef n _ ret l hb x (by simpa only [P.all] using hx)
  | .retry p, h, bef, n, node, ret, l, hb => fun x hx => P.all_befOk p _ bef n _ _ _ hb x (by simpa only [P.all] using hx)
theorem Ps.all_befOk : ∀ (ps : Ps) (par : Bool) (h : Hm) (bef : List Nat) (n0 j n : Nat) (node : List Nat) (i : Nat) (ret : List Nat) (l : Nat), n0 ≤ n → (∀ m ∈ bef, m < n) → ∀ x ∈ ps.all par h bef n0 j n node i ret l, BefOk (if par then bef else bef ++ List.range' n0 (n - n0)) n x
  | .nil, par, h, bef, n0, j, n, node, i, ret, l, h0, hb => fun x hx => by simp only [Ps.all] at hx; cases hx
  | .cons b p ps, par, h, bef, n0, j, n, node, i, ret, l, h0, hb => fun x hx => by
    simp only [Ps.all, List.mem_append, List.mem_map] at hx
    have hB : ∀ m ∈ (if par = true then bef else bef ++ List.range' n0 (n - n0)), m < n := fun m hm => by
      cases par with
      | true => exact hb m hm
      | false =>
        simp only [if_false, Bool.false_eq_true, List.mem_append, List.mem_range'_1] at hm
        rcases hm with hm | hm
        · exact hb m hm
        · omega
    rcases hx with ⟨y, hy, rfl⟩ | hx
    · obtain ⟨h1, h2⟩ := P.all_befOk p _ _ n _ ret l hB y hy
      exact ⟨h1, h2⟩
    · obtain ⟨h1, h2⟩ := Ps.all_befOk ps par h bef n0 _ (n + p.o) node (i + 1) ret _ (by omega) (fun m hm => by have := hb m hm; omega) x hx
      refine ⟨h1, fun m hm => ?_⟩
      rw [h2 m (by omega)]
      cases par with
      | true => exact Iff.rfl
      | false =>
        simp only [if_false, Bool.false_eq_true, List.mem_append, List.mem_range'_1]
        constructor
        · rintro (h | h)
          · exact .inl h
          · right; omega
        · rintro (h | h)
          · exact .inl h
          · right; omega
end
end Mi
namespace Mi
open PySem L2
def nodeT (l : List Nat) : List T := l.map fun (n : Nat) => .int n
def ownT : Option (List Nat) → T
  | none => .non
  | some l => .tup (nodeT l)
def homeT (h : Hm) : List T := ownT h.r :: h.ns.map .int
def markT (m : Mark) : T := .tup [.tup (nodeT m.1), .int (m.2.1 : Nat), .int (m.2.2 : Nat)]
def Al.tT (marks : List T) (a : Al) : T := .tup [a.use, .tup (homeT a.h), .tup (marks ++ a.ms.map markT), ownT a.own]
section
variable {d : Nat} {L : LisF} (hL : ∀ (p : P) (h : Hm) bef n node ret l marks, p.wf = true → p.dep ≤ d → L p.t (homeT h) marks (nodeT node) = (p.all h bef n node ret l).map (Al.tT marks))
include hL
end
abbrev hm0 : Hm := ⟨[-1], none, []⟩
abbrev P.al (p : P) : List Al := p.all hm0 [] 0 [] [] 0
theorem P.al_len (p : P) : p.al.length = p.o := by
  have := congrArg List.length (P.all_no p hm0 [] 0 [] [] 0)
  simpa using this
theorem P.al_no (p : P) (i : Nat) (h : i < p.al.length) : p.al[i].no = i := by
  have e := P.all_no p hm0 [] 0 [] [] 0
  have : (p.al.map Al.no)[i]'(by simpa using h) = (List.range' 0 p.o)[i]'(by simpa [P.al_len] using h) := by
    simp only [e]
  simpa using this
structure Mok (m : Mark) : Prop where
  n : ∀ a ∈ m.1, a < 32
  k : m.2.1 < 32
  i : m.2.2 < 32
structure Aok (x : Al) : Prop where
  ms : ∀ m ∈ x.ms, Mok m
  own : ∀ o, x.own = some o → ∀ a ∈ o, a < 32
theorem snoc32 {l : List Nat} {i : Nat} (h : ∀ a ∈ l, a < 32) (hi : i < 32) : ∀ a ∈ l ++ [i], a < 32 := fun a ha => by
  rcases List.mem_append.mp ha with ha | ha
  · exact h a ha
  · rw [List.mem_singleton] at ha
    omega
theorem Ps.k_le : ∀ ps : Ps, ps.k ≤ ps.len
  | .nil => Nat.le_refl _
  | .cons b p ps => by
    have := Ps.k_le ps
    cases b <;> simp only [Ps.k, Ps.len, if_true, if_false, Bool.false_eq_true] <;> omega
mutual
theorem P.all_ok : ∀ (p : P) (h : Hm) (bef : List Nat) (n : Nat) (node ret : List Nat) (l : Nat), p.wf = true → (∀ a ∈ node, a < 32) → ∀ x ∈ p.all h bef n node ret l, Aok x
  | .draw _, h, bef, n, node, ret, l, hw, hn => fun x hx => by
    simp only [P.all, List.mem_singleton] at hx
    subst hx
    exact ⟨by simp, by simp⟩
  | .seq ps, h, bef, n, node, ret, l, hw, hn => fun x hx => by
    simp only [P.wf, Bool.and_eq_true, decide_eq_true_eq] at hw
    simp only [P.all] at hx
    exact Ps.all_ok ps false h bef n 0 n node 0 ret l hw.2 hn (by omega) x hx
  | .par ps, h, bef, n, node, ret, l, hw, hn => fun x hx => by
    simp only [P.wf, Bool.and_eq_true, decide_eq_true_eq] at hw
    simp only [P.all, List.mem_append] at hx
    rcases hx with hx | hx
    · obtain ⟨c, e, h1, h2, h3, h4, rfl⟩ := Ps.spl_mem hx
      have := ps.k_le
      refine ⟨fun m hm => ?_, fun o ho a ha => ?_⟩
      · rw [List.mem_singleton] at hm
        subst hm
        exact ⟨hn, show 1 < 32 by decide, by show c < 32; omega⟩
      · cases ho
        rcases List.mem_append.mp ha with ha | ha
        · exact hn a ha
        · rw [List.mem_singleton] at ha
          omega
    · exact Ps.all_ok ps true h _ n n (n + ps.k) node 0 ret l hw.2 hn (by omega) x hx
  | .named a p, h, bef, n, node, ret, l, hw, hn => fun x hx => by
    simp only [P.wf, Bool.and_eq_true, decide_eq_true_eq] at hw
    exact P.all_ok p _ bef n _ ret l hw.2 (snoc32 (i := 0) hn (by decide)) x (by simpa only [P.all] using hx)
  | .retry p, h, bef, n, node, ret, l, hw, hn => fun x hx => by
    simp only [P.wf] at hw
    exact P.all_ok p _ bef n _ _ _ hw (snoc32 (i := 0) hn (by decide)) x (by simpa only [P.all] using hx)
theorem Ps.all_ok : ∀ (ps : Ps) (par : Bool) (h : Hm) (bef : List Nat) (n0 j n : Nat) (node : List Nat) (i : Nat) (ret : List Nat) (l : Nat), ps.wf = true → (∀ a ∈ node, a < 32) → i + ps.len < 32 → ∀ x ∈ ps.all par h bef n0 j n node i ret l, Aok x
  | .nil, par, h, bef, n0, j, n, node, i, ret, l, hw, hn, hi => fun x hx => by simp only [Ps.all] at hx; cases hx
  | .cons b p ps, par, h, bef, n0, j, n, node, i, ret, l, hw, hn, hi => fun x hx => by
    simp only [Ps.wf, Bool.and_eq_true] at hw
    simp only [Ps.len] at hi
    simp only [Ps.all, List.mem_append, List.mem_map] at hx
    rcases hx with ⟨y, hy, rfl⟩ | hx
    · obtain ⟨h1, h2⟩ := P.all_ok p _ _ n (node ++ [i]) ret l hw.1 (snoc32 hn (by omega)) y hy
      refine ⟨fun m hm => ?_, h2⟩
      rcases List.mem_cons.mp hm with rfl | hm
      · exact ⟨hn, show (if par = true then 2 else 0) < 32 by split <;> decide, by show i < 32; omega⟩
      · exact h1 m hm
    · exact Ps.all_ok ps par h bef n0 _ _ node (i + 1) ret _ hw.2 hn (by omega) x hx
end
end Mi
namespace Mi
open PySem L2
theorem BT.bl (b : Bool) : BT 0 7 (.bl b) := by cases b <;> exact ⟨rfl, rfl, Nat.le_refl _, by decide⟩
end Mi
namespace Mi
open PySem L2
section
variable {X : Cx}
end
end Mi
namespace Mi
open PySem L2 PySem.W PyProof.Rows
section
variable {X : Cx}
end
end Mi
namespace Mi
open PySem L2 PySem.W PyProof.Rows
section
variable {P : Program} {w : World} {A : PySem.Around} {E : Value → Shared → Prop} {s : Shared}
end
end Mi
namespace Mi
open PySem L2 PySem.W PyProof.Rows
def leK (a b : List Int) : Bool := decide (a ≤ b)
def sortK (ks : List (List Int)) : List (List Int) := ks.mergeSort leK
section
variable {X : Cx}
end
end Mi
namespace Mi
open PySem L2
def HomeOk (h : Hm) (l : List Al) (x : Al) : Prop :=
  (∃ ns, x.h.r = h.r ∧ x.h.ns = h.ns ++ ns ∧ x.h.key = h.key ++ ns) ∨ ∃ y ∈ l, ∃ o, y.own = some o ∧ x.h.r = some o ∧ x.h.key = (y.no : Int) :: x.h.ns
theorem HomeOk.sub {h : Hm} {l l' : List Al} {x : Al} (a : HomeOk h l x) (hs : ∀ y ∈ l, y ∈ l') : HomeOk h l' x := by
  rcases a with a | ⟨y, hy, r⟩
  · exact .inl a
  · exact .inr ⟨y, hs y hy, r⟩
theorem HomeOk.push {h : Hm} {l : List Al} {x : Al} {m : Mark} (a : HomeOk h l x) : HomeOk h (l.map (Al.push m)) (x.push m) := by
  rcases a with a | ⟨y, hy, r⟩
  · exact .inl a
  · exact .inr ⟨y.push m, List.mem_map_of_mem hy, r⟩
end Mi
namespace Mi
open PySem L2
mutual
def P.ad : P → List Int → List (List Int)
  | .draw _, _ => []
  | .seq ps, at' => sortK (ps.ad false at' 0)
  | .par ps, at' => sortK (ps.ad true at' 0)
  | .named _ p, at' => p.ad (at' ++ [0])
  | .retry p, at' => p.ad (at' ++ [0])
def Ps.ad : Ps → Bool → List Int → Nat → List (List Int)
  | .nil, _, _, _ => []
  | .cons b p ps, par, at', i => (if par && !b then [at' ++ [(i : Int)]] else []) ++ p.ad (at' ++ [(i : Int)]) ++ ps.ad par at' (i + 1)
end
mutual
def P.ws (some' : List (List Int)) : P → List Int → P
  | .draw u, _ => .draw u
  | .seq ps, at' => .seq (ps.ws some' at' 0)
  | .par ps, at' => .par (ps.ws some' at' 0)
  | .named n p, at' => .named n (p.ws some' (at' ++ [0]))
  | .retry p, at' => .retry (p.ws some' (at' ++ [0]))
def Ps.ws (some' : List (List Int)) : Ps → List Int → Nat → Ps
  | .nil, _, _ => .nil
  | .cons b p ps, at', i => .cons (b || decide (at' ++ [(i : Int)] ∈ some')) (p.ws some' (at' ++ [(i : Int)])) (ps.ws some' at' (i + 1))
end
def Stp (m : Nat) (a : List Int) : Prop := a.length ≤ m ∧ ∀ s ∈ a, 0 ≤ s ∧ s ≤ 11
theorem Stp.snoc {m : Nat} {a : List Int} {i : Nat} (h : Stp m a) (hi : i ≤ 11) : Stp (m + 1) (a ++ [(i : Int)]) := by
  refine ⟨by have := h.1; simp; omega, fun s hs => ?_⟩
  rcases List.mem_append.mp hs with hs | hs
  · exact h.2 s hs
  · rw [List.mem_singleton] at hs; omega
theorem Stp.mono {m n : Nat} {a : List Int} (h : Stp m a) (hn : m ≤ n) : Stp n a := ⟨Nat.le_trans h.1 hn, h.2⟩
mutual
def P.wu : P → Bool
  | .draw u => decide (0 ≤ u ∧ u ≤ 9)
  | .seq ps => ps.wu
  | .par ps => ps.wu
  | .named n p => decide (0 ≤ n ∧ n ≤ 9) && p.wu
  | .retry p => p.wu
def Ps.wu : Ps → Bool
  | .nil => true
  | .cons _ p ps => p.wu && ps.wu
end
mutual
/-- how the tuple reads -/
theorem P.bt : ∀ p : P, p.wu = true → p.t.tr = true ∧ p.t.nd = true ∧ p.t.dep ≤ p.dep ∧ p.t.wt + 2 ≤ 70 * p.tn
  | .draw u, h => by
    simp only [P.wu, decide_eq_true_eq] at h
    have b := BT.int (v := u) (by omega)
    have et : PyData.strOk ("draw" : Str) = true := by decide +kernel
    have bt := b.tr
    simp only [T.tr] at bt
    refine ⟨by simp only [P.t, T.tr, T.trs, bt, et]; rfl, rfl, by simp [P.t, T.dep, T.deps, P.dep], ?_⟩
    have := b.wt
    have e : (T.str "draw").wt = 42 := by decide +kernel
    simp only [P.t, T.wt, T.wts, P.tn] at *
    omega
  | .seq ps, h => by
    obtain ⟨h1, h2, h3, h4⟩ := Ps.bt ps h
    have e : (T.str "seq").wt = 32 := by decide +kernel
    have et : PyData.strOk ("seq" : Str) = true := by decide +kernel
    refine ⟨by simp only [P.t, T.tr, T.trs, h1, et]; rfl, by simp only [P.t, T.nd, T.nds, h2]; rfl, by simp only [P.t, T.dep, T.deps, P.dep]; omega, ?_⟩
    simp only [P.t, T.wt, T.wts, P.tn] at *
    omega
  | .par ps, h => by
    obtain ⟨h1, h2, h3, h4⟩ := Ps.bt ps h
    have e : (T.str "par").wt = 32 := by decide +kernel
    have et : PyData.strOk ("par" : Str) = true := by decide +kernel
    refine ⟨by simp only [P.t, T.tr, T.trs, h1, et]; rfl, by simp only [P.t, T.nd, T.nds, h2]; rfl, by simp only [P.t, T.dep, T.deps, P.dep]; omega, ?_⟩
    simp only [P.t, T.wt, T.wts, P.tn] at *
    omega
  | .named n p, h => by
    simp only [P.wu, Bool.and_eq_true, decide_eq_true_eq] at h
    obtain ⟨h1, h2, h3, h4⟩ := P.bt p h.2
    have b := BT.int (v := n) (by omega)
    have bw := b.wt
    have bt := b.tr
    simp only [T.tr] at bt
    have e : (T.str "named").wt = 52 := by decide +kernel
    have et : PyData.strOk ("named" : Str) = true := by decide +kernel
    refine ⟨by simp only [P.t, T.tr, T.trs, h1, et, bt]; rfl, by simp only [P.t, T.nd, T.nds, h2]; rfl, by simp only [P.t, T.dep, T.deps, P.dep]; omega, ?_⟩
    simp only [P.t, T.wt, T.wts, P.tn] at *
    omega
  | .retry p, h => by
    obtain ⟨h1, h2, h3, h4⟩ := P.bt p h
    have e : (T.str "retry").wt = 52 := by decide +kernel
    have et : PyData.strOk ("retry" : Str) = true := by decide +kernel
    refine ⟨by simp only [P.t, T.tr, T.trs, h1, et]; rfl, by simp only [P.t, T.nd, T.nds, h2]; rfl, by simp only [P.t, T.dep, T.deps, P.dep]; omega, ?_⟩
    simp only [P.t, T.wt, T.wts, P.tn] at *
    omega
theorem Ps.bt : ∀ ps : Ps, ps.wu = true → T.trs ps.ts = true ∧ T.nds ps.ts = true ∧ T.deps ps.ts ≤ ps.dep ∧ T.wts ps.ts ≤ 70 * ps.tn
  | .nil, _ => ⟨rfl, rfl, Nat.le_refl _, Nat.le_refl _⟩
  | .cons b p ps, h => by
    simp only [Ps.wu, Bool.and_eq_true] at h
    obtain ⟨h1, h2, h3, h4⟩ := P.bt p h.1
    obtain ⟨g1, g2, g3, g4⟩ := Ps.bt ps h.2
    have e : (T.str "split").wt = 52 := by decide +kernel
    have et : PyData.strOk ("split" : Str) = true := by decide +kernel
    cases b with
    | true =>
      refine ⟨by simp only [Ps.ts, if_true, T.tr, T.trs, h1, et, g1]; rfl, by simp only [Ps.ts, if_true, T.nd, T.nds, h2, g2]; rfl, by simp only [Ps.ts, if_true, T.dep, T.deps, Ps.dep]; omega, ?_⟩
      simp only [Ps.ts, if_true, T.wt, T.wts, Ps.tn] at *
      omega
    | false =>
      refine ⟨by simp only [Ps.ts, if_false, Bool.false_eq_true, T.trs, h1, g1]; rfl, by simp only [Ps.ts, if_false, Bool.false_eq_true, T.nds, h2, g2]; rfl, by simp only [Ps.ts, if_false, Bool.false_eq_true, T.deps, Ps.dep]; omega, ?_⟩
      simp only [Ps.ts, if_false, Bool.false_eq_true, T.wts, Ps.tn] at *
      omega
end
theorem P.gd {p : P} (h : p.wu = true) (hd : p.dep ≤ 64) (hn : p.tn ≤ 1000) : Gd p.t := by
  obtain ⟨h1, h2, h3, h4⟩ := P.bt p h
  exact ⟨h1, h2, by omega, by omega⟩
end Mi
namespace Mi
open PySem L2 PySem.Spec PyProof.Rows
section
variable {X : Cx} {ad : Ad} {W : WX} {pos : Pos}
def OpMA (X : Cx) (ad : Ad) (f : Value → Value → Sem Value) (op : T → T → Sto → R T) : Prop :=
  ∃ r : R2, OpR X f r ∧ ∀ hd as st H x y tx ty Q W, Ab X.K (ad.hide hd) as st H → Rep X.K (ad.hide hd) as H x tx → Rep X.K (ad.hide hd) as H y ty → Post X.K (ad.hide hd) (Rep X.K (ad.hide hd)) as H Q W (op tx ty st) → r x y H Q
theorem OpMA.alt {f : Value → Value → Sem Value} {op op' op2 : T → T → Sto → R T} (h : OpMA X ad f op) (h' : OpMA X ad f op')
    (c : ∀ x y st, op2 x y st = op x y st ∨ op2 x y st = op' x y st) : OpMA X ad f op2 := by
  obtain ⟨r, h1, h2⟩ := h
  obtain ⟨r', h1', h2'⟩ := h'
  refine ⟨_, OpR.alt h1 h1', fun hd as st H x y tx ty Q W A rx ry q => ?_⟩
  rcases c tx ty st with e | e
  · rw [e] at q
    exact .inl (h2 hd as st H x y tx ty Q W A rx ry q)
  · rw [e] at q
    exact .inr (h2' hd as st H x y tx ty Q W A rx ry q)
variable {k : Nat} {fa : Addr} {fd : FuncData} {ps : List Str} {F : List T → Sto → R T} {c : Nat}
theorem Sit.none (S : Sit X W k) : Sit X W0 k := ⟨S.calm, S.gd, S.rm, takes0, S.po, S.sm⟩
theorem Post.noExc {α β : Type} {K : PySem.W.Frag} {ad : Ad} {as : List Addr} {H : Hp} {Rl : List Addr → Hp → β → α → Prop} {Q : β → Hp → Prop} {W W' : XK} {r : R α} (h : Post K ad Rl as H Q W (Mi.noExc r)) : Post K ad Rl as H Q W' r := by
  cases r with
  | ok t st => exact h
  | exc e st => exact h.elim
  | bad => exact h
def CallMA (X : Cx) (ad : Ad) (f : Value) (op : List T → Sto → R T) : Prop :=
  ∃ r, CallR X f r ∧ ∀ hd as st H xs ts Q W, Ab X.K (ad.hide hd) as st H → Reps X.K (ad.hide hd) as H xs ts → Post X.K (ad.hide hd) (Rep X.K (ad.hide hd)) as H Q W (op ts st) → r xs H Q
theorem tAppA {r : List V → Hp → VK → Prop} {op : List T → Sto → R T} {m : M (List T)} (hop : ∀ hd as st H xs ts Q W, Ab X.K (ad.hide hd) as st H → Reps X.K (ad.hide hd) as H xs ts → Post X.K (ad.hide hd) (Rep X.K (ad.hide hd)) as H Q W (op ts st) → r xs H Q) :
    ∀ σ H Q, tM X.K ad (Rep X.K) W (mApp op m) σ H Q → tCB r (tM X.K ad (Reps X.K) W m) σ H Q := fun σ H Q ⟨hd, ρ, as, st, A, E, q⟩ =>
  ⟨hd, ρ, as, st, A, E, Post.step q fun x st1 as1 H1 vx A1 e1 r1 q1 => hop hd as1 st1 H1 vx x Q _ A1 r1 q1⟩
theorem pm_callBA {e : Expr} {es : List Expr} {p : Pos} {x : Str} {id : String} {op : List T → Sto → R T} {m : M (List T)} (hc : CallMA X ad (.builtin id) op) (hg : Gl X x) (hm : X.mg x = none) (hv : bootBuiltins x = some (.builtin id)) (ha : PMA X ad W (e :: es) m) (hn : x ≠ "__name__" := by decide)
    (hdb : (x == ("__debug__" : Str)) = false := by decide) (he : starEach (e :: es) X.env = (false, eval e X.env) :: starEach es X.env := by rfl) (hpl : (backTo pos (starEach es X.env)).any (·.1) = false := by rfl) :
    PM X ad W (.Call (.Name x p) (e :: es) [] pos) (mApp op m) := by
  obtain ⟨r, h1, h2⟩ := hc
  exact peW (pe_callB h1 hg hm hv ha hn hdb he hpl) (tAppA h2)
end
end Mi
namespace Mi
open PySem L2 PySem.Spec PyProof.Rows
section
variable {X : Cx} {ad : Ad} {W : WX} {pos : Pos} {k : Nat} {e : Expr}
end
end Mi
namespace Mi
open PySem L2 PySem.Spec PyProof.Rows ClX
section
variable {X : Cx} {ad : Ad} {W : WX} {pos p apos : Pos} {k n c : Nat} {e o : Expr} {es : List Expr} {x m : Str} {fa pa C : Addr} {fd : FuncData} {ps : List Str} {F : List T → Sto → R T}
def mAdr (c : Nat) : M T := fun _ st => .ok (.adr c) st
theorem pm_adr (hg : Gl X x) (hm : X.mg x = some (.ref (ad.fn c))) (hdb : (x == ("__debug__" : Str)) = false := by decide) : PM X ad W (.Name x p) (mAdr c) :=
  ⟨fun pins s σ H Q I ⟨hd, ρ, as, st, A, E, q⟩ => ld_glob I hg hm ⟨.ref (ad.fn c), H, I, rfl, Post.at A (.adr (ad := ad.hide hd) c) q⟩ hdb⟩
theorem Rep.adrI {K : PySem.W.Frag} {ad : Ad} {as : List Addr} {H : Hp} {v : V} {i : Nat} (r : Rep K ad as H v (.adr i)) : v = .ref (ad.fn i) := by
  cases r; rfl
section
variable {pl : Sem Bool} {mc : Value} {mo : M T} {ma : M (List T)}
end
end
end Mi
namespace Mi
open PySem L2
section
variable {Q : T → Sto → Prop} {E : Exn → Sto → Prop} {ρ : Sl} {y0 : Option T} {st : Sto}
@[simp] theorem Ok_adr (c : Nat) : Ok (mAdr c (y0 :: ρ) st) Q E ↔ Q (.adr c) st := Iff.rfl
end
end Mi
namespace Mi
open PySem L2 PySem.Spec PyProof.Rows C8
section
variable {X : Cx} {ad : Ad} {c : Nat}
end
end Mi
namespace Mi
open PySem L2 PySem.Spec PyProof.Rows
abbrev excTail : List Value := [.type "Exception", .type "BaseException", .type "object"]
structure ExcX (K : PySem.W.Frag) (mg : Str → Option Value) (x : Str) (C : Addr) : Prop where
  q : PySem.W.excIn K C excTail "Exception.__new__" = true
  g : mg x = some (.ref C)
  k : PySem.W.keepIn K (.ref C) = true
  b : PySem.W.subIn K (.ref C) (.type "BaseException") = some true
  t : PySem.W.typeIn K (.ref C) = some (.type "type")
section
variable {X : Cx} {ad : Ad} {W : WX} {pos p p2 pos' : Pos} {k : Nat}
section
variable {N : Sl → Sto → Prop} {Rt : T → Sto → Prop} {B C : Sl → Sto → Prop} {E : Exn → Sl → Sto → Prop} {ρ : Sl} {st : Sto}
end
end
end Mi
namespace Mi
open PySem L2 PySem.Spec PyProof.Rows L2H
section
variable {X : Cx} {ad : Ad} {W : WX} {pos apos : Pos} {o e : Expr}
end
section
variable {P : Program} {w : World} {K : PySem.W.Frag} {mg : Str → Option Value} {base : Heap} {ad : Ad}
end
end Mi
namespace Mi
open PySem L2 PySem.Spec PyProof.Rows L2H LamX
section
variable {X : Cx} {pins : List (Addr × Obj)} {σ : L2.St} {H H2 : Hp} {s s2 : Shared} {scope : Scope} {params : Arguments} {body : Expr} {f c' : Addr} {pm ctv : Value} {k : Nat} {A2 : Around} {outer2 : List Env} {tb : XK → TE}
end
section
variable {X : Cx} {ad : Ad} {W : WX}
end
end Mi
namespace Mi
open PySem L2 PySem.Spec PyProof.Rows L2H LamX
section
variable {P : Program} {w : World} {K : PySem.W.Frag} {mg : Str → Option Value} {base : Heap} {ad : Ad}
end
end Mi
namespace Mi
open PySem L2 PySem.Spec PyProof.Rows L2H LamX
section
variable {K : PySem.W.Frag} {ad : Ad}
end
section
variable {X : Cx} {ad : Ad} {W : WX}
end
section
variable {X : Cx} {ad : Ad} {W : WX}
end
end Mi
namespace Mi
open PySem L2 PySem.Spec PyProof.Rows L2H LamX
section
variable {P : Program} {w : World} {K : PySem.W.Frag} {mg : Str → Option Value} {base : Heap} {ad : Ad}
end
end Mi
namespace Mi
open PySem L2 PySem.Spec PyProof.Rows LamX
end Mi
namespace Mi
open PySem L2 PySem.Spec PyProof.Rows
section
variable {X : Cx} {ad : Ad} {W : WX} {pos p : Pos} {k n c : Nat} {e : Expr} {f x : Str} {fa pa : Addr} {fd : FuncData} {ps : List Str} {F : List T → Sto → R T}
end
end Mi
namespace Mi
open PySem L2 PySem.Spec PyProof.Rows LamX
end Mi
namespace Mi
open PySem L2 PySem.Spec PyProof.Rows LamX L2H
end Mi
namespace Mi
open PySem PySem.Spec PySem.Calls PyProof.Rows PySem.W
variable {prog : Program} {w : World} {M : Model} {A : Around} {E : Value → Shared → Prop} {s : Shared} {K : Frag} {x C L f : Addr} {h₀ : Heap} {m : Str → Option Value} {ox : Obj} {od : Option Obj} {nm T : String}
end Mi
namespace Mi
open PySem L2 PySem.Spec PyProof.Rows
section
variable {X : Cx} {ad : Ad} {W : WX} {pos : Pos} {k c : Nat} {fa : Addr} {fd : FuncData} {ps : List Str} {F : List T → Sto → R T}
end
end Mi
namespace Mi
open PySem L2 PySem.Spec PyProof.Rows
section
variable {X : Cx} {ad : Ad} {W : WX} {pos : Pos} {k c : Nat} {fa : Addr} {fd : FuncData} {ps : List Str} {F : List T → Sto → R T}
end
end Mi
namespace Mi
open PySem PySem.Spec PySem.Calls PyProof.Rows PySem.W
section
variable {prog : Program} {w : World} {M : Model} {A : Around} {E : Value → Shared → Prop} {s : Shared} {K : Frag} {x dx C L f : Addr} {h₀ : Heap} {m : Str → Option Value} {ox : Obj} {od : Option Obj} {nm T : String}
end
end Mi
namespace Mi
open PySem PySem.Spec PySem.Calls PyProof.Rows PySem.W
section
variable {prog : Program} {w : World} {M : Model} {A : Around} {E : Value → Shared → Prop} {s : Shared} {K : Frag} {x C L f : Addr} {h₀ : Heap} {m : Str → Option Value} {ox : Obj} {od : Option Obj} {nm T : String}
end
end Mi
namespace Mi
open PySem L2 PySem.Spec PyProof.Rows
section
variable {X : Cx} {ad : Ad} {W : WX} {pos : Pos} {k c : Nat} {fa : Addr} {fd : FuncData} {ps : List Str} {F : List T → Sto → R T}
end
end Mi
namespace Mi
open PySem L2 PySem.Spec PyProof.Rows PySem.W
section
variable {X : Cx}
end
section
variable {X : Cx} {ad : Ad} {W : WX} {pos : Pos} {k c : Nat} {fa : Addr} {fd : FuncData} {ps : List Str} {F : List T → Sto → R T} {x : Str} {e : Expr}
end
end Mi
namespace Mi
open PySem L2
section
variable {Q : T → Sto → Prop} {E : Exn → Sto → Prop} {ρ : Sl} {y0 : Option T} {st : Sto} {c : Nat} {F : List T → Sto → R T}
end
section
variable {N : Sl → Sto → Prop} {Rt : T → Sto → Prop} {B C : Sl → Sto → Prop} {Ex : Exn → Sl → Sto → Prop} {ρ : Sl} {y0 : Option T} {st : Sto}
end
end Mi
namespace Mi
open PySem L2 PySem.Spec PyProof.Rows
section
variable {X : Cx} {ad : Ad} {W : WX} {pos p1 p2 p3 : Pos} {e : Expr}
end
section
variable {Q : T → Sto → Prop} {E : Exn → Sto → Prop} {st : Sto}
end
end Mi
namespace Mi
open PySem L2 PySem.Spec PyProof.Rows
section
variable {X : Cx} {ad : Ad} {c : Nat}
end
section
variable {c : Nat} {st : Sto}
end
end Mi
namespace Mi
open PySem L2
section
variable {κ : Type} [DecidableEq κ]
def valG (kvs : List (κ × T)) (k : κ) : Option T := (kvs.find? fun kv => decide (kv.1 = k)).map (·.2)
def putG (kvs : List (κ × T)) (k : κ) (v : T) : List (κ × T) :=
  if (kvs.any fun kv => decide (kv.1 = k)) = true then kvs.map (fun kv => if kv.1 = k then (kv.1, v) else kv) else kvs ++ [(k, v)]
variable {K : PySem.W.Frag} {ad : Ad} {as : List Addr} {H : Hp}
end
section
variable {X : Cx} {ad : Ad} {W : WX} {pos p apos cpos tpos : Pos} {o e value : Expr} {es : List Expr} {c : Nat}
variable {k n : Nat} {fa : Addr} {fd : FuncData} {ps : List Str} {F : List T → Sto → R T} {x m : Str}
end
section
variable {X : Cx} {ad : Ad} {W : WX} {pos tpos : Pos} {o i c a b : Expr} {es : List Expr}
end
section
variable {Q : T → Sto → Prop} {E : Exn → Sto → Prop} {ρ : Sl} {y0 : Option T} {st : Sto} {N : Sl → Sto → Prop} {Rt : T → Sto → Prop} {B C : Sl → Sto → Prop} {Ex : Exn → Sl → Sto → Prop}
end
end Mi
namespace Mi
open PySem L2 PySem.Spec PyProof.Rows
section
variable {X : Cx} {ad : Ad} {W : WX} {pos p tpos : Pos}
end
inductive EsM (K : PySem.W.Frag) : List DictEntry → List (Str × T) → Prop
  | nil : EsM K [] []
  | cons {h : Int} {z : Str} {t : Tok} {u : Value} {c : T} {es : List DictEntry} {kvs : List (Str × T)} : Cst K u c → EsM K es kvs → EsM K (⟨h, .str z t, u⟩ :: es) ((z, c) :: kvs)
def dctVal (kvs : List (Str × T)) (z : Str) : Option T := (kvs.find? fun p => decide (p.1 = z)).map (·.2)
theorem EsM.find {K : PySem.W.Frag} (z : Str) : ∀ {es : List DictEntry} {kvs : List (Str × T)}, EsM K es kvs → match dctVal kvs z with
    | some c => ∃ e, es.find? (·.key.isStr z) = some e ∧ Cst K e.val c
    | none => es.find? (·.key.isStr z) = none
  | _, _, .nil => rfl
  | _, _, .cons (z := y) (c := c) (kvs := kvs) hc h => by
    have ih := h.find z
    unfold dctVal at ih ⊢
    rw [List.find?_cons, List.find?_cons]
    by_cases e : y = z
    · subst e
      simp only [decide_true, Value.isStr, beq_self_eq_true, Option.map_some]
      exact ⟨_, rfl, hc⟩
    · have e' : (y == z) = false := by simpa using e
      simp only [e, decide_false, Value.isStr, e']
      exact ih
section
variable {X : Cx} {ad : Ad} {W : WX} {pos p tpos : Pos} {x : Str} {kvs : List (Str × T)} {i : Expr} {mi : M T}
end
section
variable {Q : T → Sto → Prop} {E : Exn → Sto → Prop} {ρ : Sl} {y0 : Option T} {st : Sto}
end
end Mi
namespace Mi
open PySem L2 PySem.Spec PyProof.Rows
section
variable {X : Cx} {pins : List (Addr × Obj)} {σ : L2.St} {H : Hp} {s : Shared} {ad : Ad} {as : List Addr}
mutual
theorem rep_nested (I : L2.Inv X pins σ H s) : ∀ {k : NestedKey} {v : V} {u : Value}, Rep X.K ad as H v (kT k) → RelV v u → NestedIs s.heap k u
  | .none, _, u, r, e => by
    rw [kT] at r
    obtain rfl := r.nonI
    obtain rfl : u = Value.none := e
    exact .none
  | .num i, _, u, r, e => by
    rw [kT] at r
    obtain rfl := r.intI
    obtain ⟨t, rfl⟩ := e
    exact .int i t
  | .text x, _, u, r, e => by
    rw [kT] at r
    obtain rfl := r.strI
    obtain ⟨t, rfl⟩ := e
    exact .text x t
  | .tup ks, _, u, r, e => by
    rw [kT] at r
    obtain ⟨a, xs, rfl, h1, h2⟩ := r.tupI
    obtain rfl : u = Value.ref a := e
    obtain ⟨its, r2, ⟨o, ho, hc, n, hd⟩, _⟩ := I.tuple h1
    exact .tup ho hc hd (by simpa using reps_nested I h2 r2)
theorem reps_nested (I : L2.Inv X pins σ H s) : ∀ {ks : List NestedKey} {vs : List V} {us : List Value}, Reps X.K ad as H vs (kTs ks) → Vals vs us → NestedAll s.heap ks us
  | [], _, _, r, e => by
    rw [kTs] at r
    cases r; cases e
    exact .nil
  | k :: ks, _, _, r, e => by
    rw [kTs] at r
    cases r with
    | cons r1 r2 =>
      cases e with
      | cons e1 e2 => exact .cons (rep_nested I r1 e1) (reps_nested I r2 e2)
end
end
structure NAt (K : PySem.W.Frag) (ad : Ad) (as : List Addr) (H : Hp) (a : Addr) (xs : List (NestedKey × Addr × V)) : Prop where
  at_ : H a = some (DN a xs)
  low : (a == sysModules) = false
  len : xs.length ≤ sizeLine
  nd : (xs.map (·.1)).Nodup
  ok : ∀ x ∈ xs, nkOk x.1 = true
  ks : ∀ x ∈ xs, Rep K ad as H (.ref x.2.1) (kT x.1)
abbrev NRel : List (NestedKey × Addr × V) → List (NestedKey × Addr × Value) → Prop := Paired fun p q => p.1 = q.1 ∧ p.2.1 = q.2.1 ∧ RelV p.2.2 q.2.2
def valX (xs : List (NestedKey × Addr × V)) (k : NestedKey) : Option V := (xs.find? fun x => decide (x.1 = k)).map (·.2.2)
def putX (xs : List (NestedKey × Addr × V)) (k : NestedKey) (b : Addr) (v : V) : List (NestedKey × Addr × V) :=
  if (xs.any fun x => decide (x.1 = k)) = true then xs.map (fun x => if x.1 = k then (x.1, x.2.1, v) else x) else xs ++ [(k, b, v)]
theorem NRel.val {xs : List (NestedKey × Addr × V)} {ys : List (NestedKey × Addr × Value)} (r : NRel xs ys) (k : NestedKey) : RelO (valX xs k) ((atKey ys k).map (·.2)) := by
  induction r with
  | nil => exact True.intro
  | @cons p q ps qs h t ih =>
    obtain ⟨h1, _, h2⟩ := h
    by_cases e : p.1 = k
    · have e' : q.1 = k := h1.symm.trans e
      have b : atKey (q :: qs) k = some q.2 := by simp [atKey, List.find?_cons, e']
      have a : valX (p :: ps) k = some p.2.2 := by simp [valX, List.find?_cons, e]
      rw [a, b]; exact h2
    · have e' : ¬ q.1 = k := fun z => e (h1.trans z)
      have b : atKey (q :: qs) k = atKey qs k := by simp [atKey, List.find?_cons, e']
      have a : valX (p :: ps) k = valX ps k := by simp [valX, List.find?_cons, e]
      rw [a, b]; exact ih
theorem NRel.any {xs : List (NestedKey × Addr × V)} {ys : List (NestedKey × Addr × Value)} (r : NRel xs ys) (k : NestedKey) : (xs.any fun x => decide (x.1 = k)) = (atKey ys k).isSome := by
  induction r with
  | nil => rfl
  | @cons p q ps qs h t ih =>
    rw [List.any_cons, ih, h.1]
    by_cases e : q.1 = k
    · simp [atKey, List.find?_cons, e]
    · simp [atKey, List.find?_cons, e]
theorem NRel.repl {xs : List (NestedKey × Addr × V)} {ys : List (NestedKey × Addr × Value)} (r : NRel xs ys) (k : NestedKey) {v : V} {u : Value} (rv : RelV v u) : NRel (xs.map fun x => if x.1 = k then (x.1, x.2.1, v) else x) (ys.map (putAt k u)) := by
  induction r with
  | nil => exact .nil
  | @cons p q ps qs h t ih =>
    rw [List.map_cons, List.map_cons]
    refine .cons ?_ ih
    obtain ⟨h1, h2, h3⟩ := h
    unfold putAt
    by_cases e : p.1 = k
    · rw [if_pos e, if_pos (h1.symm.trans e)]; exact ⟨h1, h2, rv⟩
    · rw [if_neg e, if_neg (fun z => e (h1.trans z))]; exact ⟨h1, h2, h3⟩
theorem NRel.put {xs : List (NestedKey × Addr × V)} {ys : List (NestedKey × Addr × Value)} (r : NRel xs ys) (k : NestedKey) (b : Addr) {v : V} {u : Value} (rv : RelV v u) : NRel (putX xs k b v) (storedH ys k b u) := by
  unfold putX storedH
  rw [r.any k]
  by_cases q : (atKey ys k).isSome = true
  · rw [if_pos q, if_pos q]
    exact r.repl k rv
  · rw [if_neg q, if_neg q]
    exact Paired.snoc r ⟨rfl, rfl, rv⟩
section
variable {X : Cx} {pins : List (Addr × Obj)} {σ : L2.St} {H : Hp} {s : Shared} {ad : Ad} {as : List Addr} {a : Addr} {xs : List (NestedKey × Addr × V)}
theorem NAt.dict (I : L2.Inv X pins σ H s) (n : NAt X.K ad as H a xs) : ∃ ys : List (NestedKey × Addr × Value), NRel xs ys ∧ s.heap.DictOfH (nestedKind X.prog X.w) a ys := by
  obtain ⟨⟨o, es, ep, h1, h2, h3, h4⟩, _⟩ := (show ObjOk X.prog X.w H s.heap a (DN a xs) from I.hok a _ n.at_)
  have key : ∀ {l : List (NestedKey × Addr × V)} {m : List DictEntry}, Paired (fun (p : NestedKey × Addr × V) (e : DictEntry) => e.key = .ref p.2.1 ∧ RelV p.2.2 e.val ∧ ∀ w, e.hash = p.1.hash w) l m →
      ∃ ys : List (NestedKey × Addr × Value), NRel l ys ∧ m = ys.map (entryOfKey (nestedKind X.prog X.w)) := by
    intro l m r
    induction r with
    | nil => exact ⟨[], .nil, rfl⟩
    | @cons p q ps qs h t ih =>
      obtain ⟨ys, r1, r2⟩ := ih
      obtain ⟨e1, e2, e3⟩ := h
      refine ⟨(p.1, p.2.1, q.val) :: ys, .cons ⟨rfl, rfl, e2⟩ r1, ?_⟩
      rw [List.map_cons, r2]
      congr 1
      obtain ⟨qh, qk, qv⟩ := q
      simp only at e1
      subst e1
      show (⟨qh, _, qv⟩ : DictEntry) = ⟨p.1.hash X.w, _, qv⟩
      have := e3 X.w
      simp only at this
      rw [this]
  obtain ⟨ys, r, e⟩ := key h4
  refine ⟨ys, r, o, es, ep, h1, h2, h3, e, fun y hy => ?_, ?_⟩
  · have : ∃ x ∈ xs, x.1 = y.1 ∧ x.2.1 = y.2.1 := by
      clear e h4 key
      have n' := n.nd
      clear n'
      revert r
      generalize xs = l
      intro r
      induction r with
      | nil => cases hy
      | @cons p q ps qs h t ih =>
        rcases List.mem_cons.mp hy with rfl | hy
        · exact ⟨p, List.mem_cons_self, h.1, h.2.1⟩
        · obtain ⟨x, hx, e⟩ := ih hy
          exact ⟨x, List.mem_cons_of_mem _ hx, e⟩
    obtain ⟨x, hx, e1, e2⟩ := this
    have ok := n.ok x hx
    unfold nkOk at ok
    rw [Bool.and_eq_true, decide_eq_true_eq] at ok
    rw [← e1, ← e2]
    exact ⟨rep_nested I (n.ks x hx) rfl, ok.2⟩
  · have : ys.map (·.1) = xs.map (·.1) := by
      clear e h4 key
      have n' := n.nd
      clear n'
      revert r
      generalize xs = l
      intro r
      induction r with
      | nil => rfl
      | cons h t ih => rw [List.map_cons, List.map_cons, ih, h.1]
    rw [this]
    exact n.nd

theorem putX_keys {xs : List (NestedKey × Addr × V)} {k : NestedKey} {b : Addr} {v : V} : ∀ x ∈ putX xs k b v, (∃ y ∈ xs, x.1 = y.1 ∧ x.2.1 = y.2.1) ∨ x.1 = k ∧ x.2.1 = b := by
  intro x hx
  unfold putX at hx
  split at hx
  · obtain ⟨y, hy, rfl⟩ := List.mem_map.mp hx
    refine .inl ⟨y, hy, ?_⟩
    split <;> exact ⟨rfl, rfl⟩
  · rcases List.mem_append.mp hx with hx | hx
    · exact .inl ⟨x, hx, rfl, rfl⟩
    · rw [List.mem_singleton] at hx
      subst hx
      exact .inr ⟨rfl, rfl⟩
theorem putX_len {xs : List (NestedKey × Addr × V)} {k : NestedKey} {b : Addr} {v : V} : (putX xs k b v).length ≤ xs.length + 1 := by
  unfold putX
  split
  · simp
  · simp
theorem putX_fst {xs : List (NestedKey × Addr × V)} {k : NestedKey} {b : Addr} {v : V} : (putX xs k b v).map (·.1) = if (xs.any fun x => decide (x.1 = k)) = true then xs.map (·.1) else xs.map (·.1) ++ [k] := by
  unfold putX
  split
  · rw [List.map_map]
    refine List.map_congr_left fun x _ => ?_
    simp only [Function.comp]
    split <;> rfl
  · simp
theorem putX_nd {xs : List (NestedKey × Addr × V)} {k : NestedKey} {b : Addr} {v : V} (h : (xs.map (·.1)).Nodup) : ((putX xs k b v).map (·.1)).Nodup := by
  rw [putX_fst]
  split
  · exact h
  · rename_i hn
    rw [List.nodup_append]
    refine ⟨h, by simp, fun x hx y hy => ?_⟩
    rw [List.mem_singleton] at hy
    subst hy
    rintro rfl
    obtain ⟨z, hz, e⟩ := List.mem_map.mp hx
    exact hn (List.any_eq_true.mpr ⟨z, hz, by simpa using e⟩)
variable {y v : V} {u r : Value} {o : Option V} {A : Around} {E : Value → Shared → Prop}
end
section
variable {X : Cx} {o i e f value : Expr} {pos tpos apos : Pos} {td ty tv tx : TE}
end
end Mi
namespace PySem
section
variable {prog : Program} {w : World} {K : Type} [DecidableEq K] {knd : HeapKind prog w K} {A : Around} {E : Value → Shared → Prop} {s : Shared}
end
end PySem
namespace Mi
open PySem L2 PySem.Spec PyProof.Rows
section
variable {X : Cx} {de ke ve : Expr} {pos : Pos} {td tk tv : TE}
end
section
variable {K : PySem.W.Frag} {ad : Ad} {as : List Addr} {H : Hp} {st : Sto}
theorem NAt.put {a : Addr} {xs : List (NestedKey × Addr × V)} {k : NestedKey} {b : Addr} {v : V} {H' : Hp} {as' : List Addr} (n : NAt K ad as H a xs) (hl : xs.length < sizeLine) (ok : nkOk k = true) (rk : Rep K ad as H (.ref b) (kT k)) (e : Ext as H as' H') (h' : H' a = some (DN a (putX xs k b v))) : NAt K ad as' H' a (putX xs k b v) := by
  refine ⟨h', n.low, Nat.le_trans putX_len hl, putX_nd n.nd, fun x hx => ?_, fun x hx => ?_⟩
  · rcases putX_keys x hx with ⟨z, hz, e, _⟩ | ⟨e, _⟩
    · rw [e]; exact n.ok z hz
    · rw [e]; exact ok
  · rcases putX_keys x hx with ⟨z, hz, e1, e2⟩ | ⟨e1, e2⟩
    · rw [e1, e2]; exact (n.ks z hz).ext e
    · rw [e1, e2]; exact rk.ext e
end
section
variable {X : Cx} {ad : Ad} {W : WX} {pos tpos apos : Pos} {o i e f value : Expr}
end
end Mi
namespace Mi
open PySem L2
section
variable {X : Cx} {ad : Ad} {W : WX} {pos p p' pos' : Pos} {a b : Expr} {ma mb : M T}
end
section
variable {m m' : M T} {ρ : Sl} {st : Sto} {Q : T → Sto → Prop} {E : Exn → Sto → Prop}
end
end Mi
namespace Mi
open PySem L2
section
variable {X : Cx} {W : WX} {k : Nat}
end
section
variable {st : Sto} {ρ : Sl} {y0 : Option T} {Q : T → Sto → Prop} {E : Exn → Sto → Prop} {N : Sl → Sto → Prop} {Rt : T → Sto → Prop} {B C : Sl → Sto → Prop} {Ex : Exn → Sl → Sto → Prop}
end
def nkI (k : List Int) : NestedKey := .tup (k.map .num)
theorem nkI_inj {a b : List Int} : nkI a = nkI b ↔ a = b := by
  unfold nkI
  constructor
  · intro h
    injection h with h
    exact (List.map_inj_right (fun x y e => by injection e)).mp h
  · rintro rfl; rfl
end Mi
namespace Mi
open PySem L2
def P.be (p : P) (i : Nat) : List Nat := (p.bs [] 0).getD i []
def P.ke (p : P) (i : Nat) : List Int := (p.hs [-1] 0).getD i []
theorem P.be_al (p : P) (i : Nat) (h : i < p.al.length) : p.be i = p.al[i].bef := by
  have e : p.al.map Al.bef = p.bs [] 0 := P.all_bef p hm0 [] 0 [] [] 0
  unfold P.be
  rw [← e]
  simp [h]
theorem P.be_lt (p : P) {i j : Nat} (h : j ∈ p.be i) : j < i ∧ i < p.o := by
  by_cases hi : i < p.al.length
  · rw [P.be_al p i hi] at h
    have := (P.all_befOk p hm0 [] 0 [] [] 0 (by simp) p.al[i] (List.getElem_mem _)).lt j h
    rw [P.al_no] at this
    exact ⟨this, by rw [← P.al_len p]; exact hi⟩
  · unfold P.be at h
    rw [List.getD_eq_getElem?_getD, List.getElem?_eq_none (by rw [P.bs_len, ← P.al_len p]; omega)] at h
    cases h
structure Pre (p : P) (l : List Nat) : Prop where
  nd : l.Nodup
  lt : ∀ i ∈ l, i < p.o
  be : ∀ a i b, l = a ++ i :: b → ∀ j ∈ p.be i, j ∈ a
theorem Pre.nil (p : P) : Pre p [] := ⟨.nil, by simp, fun a i b h => by simp at h⟩
theorem nd_sub {α : Type} [DecidableEq α] : ∀ {l m : List α}, l.Nodup → (∀ a ∈ l, a ∈ m) → l.length ≤ m.length
  | [], m, _, _ => Nat.zero_le _
  | a :: l, m, hn, hs => by
    rw [List.nodup_cons] at hn
    have h1 := hs a (List.mem_cons_self ..)
    have := nd_sub (m := m.erase a) hn.2 fun b hb => (List.mem_erase_of_ne (fun e => hn.1 (by rw [← e]; exact hb))).mpr (hs b (List.mem_cons_of_mem _ hb))
    rw [List.length_erase_of_mem h1] at this
    have := List.length_pos_of_mem h1
    rw [List.length_cons]
    omega
theorem Pre.len {p : P} {l : List Nat} (h : Pre p l) : l.length ≤ p.o := by
  have := nd_sub h.nd (m := List.range p.o) fun i hi => List.mem_range.mpr (h.lt i hi)
  simpa using this
theorem Pre.all {p : P} {l : List Nat} (h : Pre p l) (hl : l.length = p.o) {i : Nat} (hi : i < p.o) : i ∈ l := by
  apply Classical.byContradiction
  intro hn
  have := nd_sub (List.nodup_cons.mpr ⟨hn, h.nd⟩) (m := List.range p.o) fun j hj => List.mem_range.mpr (by
    rcases List.mem_cons.mp hj with rfl | hj
    · exact hi
    · exact h.lt j hj)
  simp at this
  omega
theorem least {Q : Nat → Prop} : ∀ n, Q n → ∃ m, Q m ∧ m ≤ n ∧ ∀ j, j < m → ¬ Q j := by
  intro n
  induction n using Nat.strongRecOn with
  | _ n ih =>
    intro hn
    by_cases h : ∃ j, j < n ∧ Q j
    · obtain ⟨j, h1, h2⟩ := h
      obtain ⟨m, h3, h4, h5⟩ := ih j h1 h2
      exact ⟨m, h3, by omega, h5⟩
    · exact ⟨n, hn, Nat.le_refl _, fun j hj hq => h ⟨j, hj, hq⟩⟩
def P.rdy (p : P) (l : List Nat) (i : Nat) : Bool := decide (i ∉ l) && (p.be i).all fun j => decide (j ∈ l)
def P.ready (p : P) (l : List Nat) : List Nat := (List.range p.o).filter (p.rdy l)
theorem P.mem_ready {p : P} {l : List Nat} {i : Nat} : i ∈ p.ready l ↔ i < p.o ∧ i ∉ l ∧ ∀ j ∈ p.be i, j ∈ l := by
  simp [P.ready, P.rdy]
theorem Pre.snoc {p : P} {l : List Nat} (h : Pre p l) {i : Nat} (hi : i ∈ p.ready l) : Pre p (l ++ [i]) := by
  obtain ⟨h1, h2, h3⟩ := P.mem_ready.mp hi
  refine ⟨List.nodup_append.mpr ⟨h.nd, by simp, fun a ha b hb => ?_⟩, fun j hj => ?_, fun a j b e k hk => ?_⟩
  · rw [List.mem_singleton] at hb
    subst hb
    exact fun e => h2 (e ▸ ha)
  · rcases List.mem_append.mp hj with hj | hj
    · exact h.lt j hj
    · rw [List.mem_singleton] at hj; omega
  · rcases List.eq_nil_or_concat b with rfl | ⟨b', c, rfl⟩
    · obtain ⟨e1, e2⟩ := List.append_inj' e rfl
      cases e2
      exact e1 ▸ h3 k hk
    · have e' : l ++ [i] = (a ++ j :: b') ++ [c] := by rw [e]; simp
      obtain ⟨e1, e2⟩ := List.append_inj' e' rfl
      exact h.be a j b' e1 k hk
theorem Pre.range (p : P) : Pre p (List.range p.o) := by
  refine ⟨List.nodup_range, fun i hi => List.mem_range.mp hi, fun a i b e j hj => ?_⟩
  have hl : (List.range p.o)[a.length]? = some i := by rw [e]; simp
  obtain ⟨h1, h2⟩ := List.getElem?_eq_some_iff.mp hl
  rw [List.getElem_range] at h2
  have hji := (P.be_lt p hj).1
  have h3 : (List.range p.o)[j]? = some j := by
    rw [List.getElem?_eq_some_iff]
    have : j < p.o := by have := (P.be_lt p hj).2; omega
    exact ⟨by simpa using this, by simp⟩
  rw [e, List.getElem?_append_left (by omega)] at h3
  exact List.mem_of_getElem? h3
theorem Pre.take {p : P} {l a b : List Nat} (h : Pre p l) (e : l = a ++ b) : Pre p a := by
  subst e
  refine ⟨(List.nodup_append.mp h.nd).1, fun i hi => h.lt i (List.mem_append_left _ hi), fun c i d e j hj => h.be c i (d ++ b) (by rw [e]; simp) j hj⟩
def onS (hs : List (List Int)) (l : List Nat) (k : List Int) : List Nat := l.filter fun i => decide (hs.getD i [] = k)
theorem onS_snoc (hs : List (List Int)) (l : List Nat) (i : Nat) (k : List Int) : onS hs (l ++ [i]) k = if hs.getD i [] = k then onS hs l k ++ [i] else onS hs l k := by
  unfold onS
  rw [List.filter_append]
  by_cases h : hs.getD i [] = k
  · rw [if_pos h, List.filter_cons_of_pos (by simpa using h), List.filter_nil]
  · rw [if_neg h, List.filter_cons_of_neg (by simpa using h), List.filter_nil, List.append_nil]
theorem valG_putG {κ : Type} [DecidableEq κ] (kvs : List (κ × T)) (k k' : κ) (v : T) : valG (putG kvs k v) k' = if k' = k then some v else valG kvs k' := by
  unfold putG
  split
  · rename_i h
    induction kvs with
    | nil => simp at h
    | cons x kvs ih =>
      unfold valG at ih ⊢
      rw [List.map_cons, List.find?_cons, List.find?_cons]
      by_cases e : x.1 = k
      · simp only [e, if_true]
        by_cases e2 : k' = k
        · subst e2; simp
        · have e3 : ¬ k = k' := fun h => e2 h.symm
          simp only [e2, e3, decide_false, if_false]
          clear ih h
          induction kvs with
          | nil => rfl
          | cons y kvs ih =>
            rw [List.map_cons, List.find?_cons, List.find?_cons]
            by_cases e4 : y.1 = k
            · simp only [e4, if_true, e3, decide_false]; exact ih
            · simp only [e4, if_false]
              by_cases e5 : y.1 = k'
              · simp [e5]
              · simp only [e5, decide_false]; exact ih
      · simp only [e, if_false]
        have h' : (kvs.any fun kv => decide (kv.1 = k)) = true := by simpa [e] using h
        by_cases e2 : x.1 = k'
        · have : ¬ k' = k := fun hh => e (e2.trans hh)
          simp [e2, this]
        · simp only [e2, decide_false]
          exact ih h'
  · rename_i h
    unfold valG
    rw [List.find?_append]
    by_cases e : k' = k
    · subst e
      have : kvs.find? (fun kv => decide (kv.1 = k')) = none := by
        rw [List.find?_eq_none]
        intro x hx hh
        exact h (List.any_eq_true.mpr ⟨x, hx, hh⟩)
      rw [this]; simp
    · have : ¬ k = k' := fun hh => e hh.symm
      simp [e, this]
theorem putG_keys {κ : Type} [DecidableEq κ] (kvs : List (κ × T)) (k : κ) (v : T) : (putG kvs k v).map (·.1) = if k ∈ kvs.map (·.1) then kvs.map (·.1) else kvs.map (·.1) ++ [k] := by
  have e : (kvs.any fun kv => decide (kv.1 = k)) = true ↔ k ∈ kvs.map (·.1) := by
    rw [List.any_eq_true]
    constructor
    · rintro ⟨x, hx, h⟩
      rw [← of_decide_eq_true h]
      exact List.mem_map_of_mem hx
    · intro h
      obtain ⟨x, hx, rfl⟩ := List.mem_map.mp h
      exact ⟨x, hx, by simp⟩
  unfold putG
  by_cases h : k ∈ kvs.map (·.1)
  · rw [if_pos (e.mpr h), if_pos h, List.map_map]
    refine List.map_congr_left fun x _ => ?_
    simp only [Function.comp_apply]
    split <;> rfl
  · rw [if_neg (fun hh => h (e.mp hh)), if_neg h, List.map_append]
    rfl
structure DictOf (hs : List (List Int)) (l : List Nat) (kvs : List (NestedKey × T)) : Prop where
  val : ∀ k, valG kvs (nkI k) = if onS hs l k = [] then none else some (numL (onS hs l k))
  keys : ∃ ks : List (List Int), kvs.map (·.1) = ks.map nkI ∧ ks.Nodup ∧ ∀ k ∈ ks, ∃ i ∈ l, hs.getD i [] = k
theorem DictOf.nil (hs : List (List Int)) : DictOf hs [] [] := ⟨fun k => rfl, [], rfl, .nil, by simp⟩
theorem DictOf.get {hs : List (List Int)} {l : List Nat} {kvs : List (NestedKey × T)} (h : DictOf hs l kvs) (k : List Int) : (valG kvs (nkI k)).getD (.lst []) = numL (onS hs l k) := by
  rw [h.val]
  split
  · rename_i e; rw [e]; rfl
  · rfl
theorem DictOf.add {hs : List (List Int)} {l : List Nat} {kvs : List (NestedKey × T)} (h : DictOf hs l kvs) (i : Nat) : DictOf hs (l ++ [i]) (putG kvs (nkI (hs.getD i [])) (numL (onS hs l (hs.getD i []) ++ [i]))) := by
  refine ⟨fun k => ?_, ?_⟩
  · rw [valG_putG, onS_snoc]
    by_cases e : hs.getD i [] = k
    · subst e; simp
    · have : ¬ k = hs.getD i [] := fun h => e h.symm
      rw [if_neg e, if_neg (fun hh => this (nkI_inj.mp hh)), h.val]
  · obtain ⟨ks, h1, h2, h3⟩ := h.keys
    rw [putG_keys, h1]
    by_cases e : hs.getD i [] ∈ ks
    · rw [if_pos (List.mem_map_of_mem e)]
      exact ⟨ks, rfl, h2, fun k hk => by
        obtain ⟨j, hj, hh⟩ := h3 k hk
        exact ⟨j, List.mem_append_left _ hj, hh⟩⟩
    · rw [if_neg (fun hh => by
        obtain ⟨x, hx, hh⟩ := List.mem_map.mp hh
        exact e (nkI_inj.mp hh ▸ hx))]
      refine ⟨ks ++ [hs.getD i []], by simp, List.nodup_append.mpr ⟨h2, by simp, fun a ha b hb => ?_⟩, fun k hk => ?_⟩
      · rw [List.mem_singleton] at hb
        subst hb
        exact fun hh => e (hh ▸ ha)
      · rcases List.mem_append.mp hk with hk | hk
        · obtain ⟨j, hj, hh⟩ := h3 k hk
          exact ⟨j, List.mem_append_left _ hj, hh⟩
        · rw [List.mem_singleton] at hk
          exact ⟨i, by simp, hk.symm⟩
theorem DictOf.len {hs : List (List Int)} {l : List Nat} {kvs : List (NestedKey × T)} (h : DictOf hs l kvs) : kvs.length ≤ l.length := by
  obtain ⟨ks, h1, h2, h3⟩ := h.keys
  have e : kvs.length = ks.length := by simpa using congrArg List.length h1
  have := nd_sub h2 (m := l.map fun i => hs.getD i []) fun k hk => by
    obtain ⟨i, hi, hh⟩ := h3 k hk
    exact List.mem_map.mpr ⟨i, hi, hh⟩
  rw [e]
  simpa using this
def ixS (hs : List (List Int)) (l : List Nat) (i : Nat) : Nat := (onS hs l (hs.getD i [])).idxOf i
theorem onS_mem {hs : List (List Int)} {l : List Nat} {i : Nat} (h : i ∈ l) : i ∈ onS hs l (hs.getD i []) := List.mem_filter.mpr ⟨h, by simp⟩
inductive PathR (hs : List (List Int)) (ix : Nat → Nat) : Nat → List Int → List Int → Prop where
  | root (m : Nat) : PathR hs ix m [-1] []
  | name {m : Nat} {k q : List Int} (a : Int) : k ≠ [] → PathR hs ix m k q → PathR hs ix (m + 1) (k ++ [a]) (q ++ [-1 - a])
  | split {m j : Nat} {q : List Int} : j < hs.length → PathR hs ix m (hs.getD j []) q → PathR hs ix (m + 1) [(j : Int)] (q ++ [(ix j : Int)])
theorem PathR.mono {hs : List (List Int)} {ix : Nat → Nat} {m m' : Nat} {k q : List Int} (h : PathR hs ix m k q) (hm : m ≤ m') : PathR hs ix m' k q := by
  induction h generalizing m' with
  | root m => exact .root _
  | name a hk _ ih =>
    obtain ⟨m', rfl⟩ : ∃ x, m' = x + 1 := ⟨m' - 1, by omega⟩
    exact .name a hk (ih (by omega))
  | split hj _ ih =>
    obtain ⟨m', rfl⟩ : ∃ x, m' = x + 1 := ⟨m' - 1, by omega⟩
    exact .split hj (ih (by omega))
theorem PathR.len {hs : List (List Int)} {ix : Nat → Nat} {m : Nat} {k q : List Int} (h : PathR hs ix m k q) : q.length ≤ m := by
  induction h with
  | root m => exact Nat.zero_le _
  | name a hk _ ih => simp; omega
  | split hj _ ih => simp; omega
section
variable {hs : List (List Int)} {ix : Nat → Nat}
end
end Mi
namespace Mi
open PySem L2 PySem.Spec PyProof.Rows
section
variable {X : Cx}
end
section
variable {K : PySem.W.Frag} {ad : Ad} {as as1 : List Addr} {H H1 : Hp} {st : Sto} {D : Addr} {w : World} {S : Int → Bool} {c : Nat}
structure ScAt (w : World) (D : Addr) (acc : List Int) (H : Hp) : Prop where
  ex : ∃ S c, H D = some (SetO w D S c) ∧ (∀ k, S k = true ↔ k ∈ acc) ∧ c ≤ acc.length
theorem ScAt.nil : ScAt w D [] (upd H D (SetO w D (fun _ => false) 0)) := ⟨_, _, upd_same, by simp, Nat.le_refl _⟩
end
section
variable {K : PySem.W.Frag} {ad : Ad} {W : WX} {w : World}
end
section
variable {X : Cx} {ad : Ad} {W : WX} {pos p pos2 : Pos}
end
end Mi
namespace Mi
open PySem L2
section
variable {X : Cx} {ad : Ad} {W : WX} {pos p apos : Pos} {e f o : Expr}
end
section
variable {st : Sto} {ρ : Sl} {y0 : Option T} {Q : T → Sto → Prop} {E : Exn → Sto → Prop}
end
section
variable {g : T → Sl → Option Sl} {tt : M Bool} {elt : M T} {ρ : Sl} {st : Sto} {r : Nat}
variable {y0 : Option T} {Q : T → Sto → Prop} {E : Exn → Sto → Prop}
end
section
variable {g : T → Sl → Option Sl} {tt : M Bool} {elt : M T} {ρ : Sl} {st : Sto} {Q : T → Sto → Prop} {E : Exn → Sto → Prop}
end
end Mi
namespace Mi
open PySem L2
section
variable {hs : List (List Int)} {ix : Nat → Nat}
structure IxOk (hs : List (List Int)) (ix : Nat → Nat) : Prop where
  inj : ∀ i j, i < hs.length → j < hs.length → hs.getD i [] = hs.getD j [] → ix i = ix j → i = j
inductive PathN (hs : List (List Int)) (ix : Nat → Nat) : List Int → List Int → Prop where
  | root : PathN hs ix [-1] []
  | name {k q : List Int} (a : Int) : 0 ≤ a → k ≠ [] → PathN hs ix k q → PathN hs ix (k ++ [a]) (q ++ [-1 - a])
  | split {j : Nat} {q : List Int} : j < hs.length → PathN hs ix (hs.getD j []) q → PathN hs ix [(j : Int)] (q ++ [(ix j : Int)])
theorem PathN.inj (ok : IxOk hs ix) {k k' q : List Int} (h : PathN hs ix k q) (h' : PathN hs ix k' q) : k = k' := by
  induction h generalizing k' with
  | root => 
    generalize e : ([] : List Int) = r at h'
    cases h' with
    | root => rfl
    | name a _ _ _ => simp at e
    | split _ _ => simp at e
  | @name k q a ha hk hq ih =>
    generalize e : q ++ [-1 - a] = r at h'
    cases h' with
    | root => simp at e
    | @name k2 q2 b hb hk2 hq2 =>
      obtain ⟨e1, e2⟩ := List.append_inj' e rfl
      have e2 : -1 - a = -1 - b := by simpa using e2
      subst e1
      rw [ih hq2, show a = b by omega]
    | @split j q2 hj hq2 =>
      obtain ⟨_, e2⟩ := List.append_inj' e rfl
      have e2 : -1 - a = (ix j : Int) := by simpa using e2
      omega
  | @split j q hj hq ih =>
    generalize e : q ++ [(ix j : Int)] = r at h'
    cases h' with
    | root => simp at e
    | @name k2 q2 b hb hk2 hq2 =>
      obtain ⟨_, e2⟩ := List.append_inj' e rfl
      have e2 : (ix j : Int) = -1 - b := by simpa using e2
      omega
    | @split j2 q2 hj2 hq2 =>
      obtain ⟨e1, e2⟩ := List.append_inj' e rfl
      have e2 : (ix j : Int) = (ix j2 : Int) := by simpa using e2
      subst e1
      rw [ok.inj j j2 hj hj2 (ih hq2) (by omega)]
theorem PathN.pre {k q : List Int} (h : PathN hs ix k q) : ∀ n, n ≤ q.length → ∃ k', PathN hs ix k' (q.take n) := by
  induction h with
  | root => exact fun n hn => ⟨[-1], by simpa using PathN.root⟩
  | @name k q a ha hk hq ih =>
    intro n hn
    by_cases e : n = (q ++ [-1 - a]).length
    · rw [e, List.take_length]; exact ⟨_, .name a ha hk hq⟩
    · simp at hn e
      rw [List.take_append_of_le_length (by omega)]
      exact ih n (by omega)
  | @split j q hj hq ih =>
    intro n hn
    by_cases e : n = (q ++ [(ix j : Int)]).length
    · rw [e, List.take_length]; exact ⟨_, .split hj hq⟩
    · simp at hn e
      rw [List.take_append_of_le_length (by omega)]
      exact ih n (by omega)
theorem PathN.step (ok : IxOk hs ix) {k k' q : List Int} {x : Int} (h : PathN hs ix k q) (h' : PathN hs ix k' (q ++ [x])) : (∃ a, 0 ≤ a ∧ x = -1 - a ∧ k' = k ++ [a]) ∨ ∃ j, j < hs.length ∧ hs.getD j [] = k ∧ x = (ix j : Int) ∧ k' = [(j : Int)] := by
  generalize e : q ++ [x] = r at h'
  cases h' with
  | root => simp at e
  | @name k2 q2 b hb hk2 hq2 =>
    obtain ⟨e1, e2⟩ := List.append_inj' e rfl
    subst e1
    rw [h.inj ok hq2]
    exact .inl ⟨b, hb, by simpa using e2, rfl⟩
  | @split j q2 hj hq2 =>
    obtain ⟨e1, e2⟩ := List.append_inj' e rfl
    subst e1
    exact .inr ⟨j, hj, (h.inj ok hq2).symm, by simpa using e2, rfl⟩
end
structure IDict (ks : List Int) (g : Int → T) (d : List (Key × T)) : Prop where
  val : ∀ x : Int, valG d (.inl x) = if x ∈ ks then some (g x) else none
  keys : ∃ l : List Int, d.map (·.1) = l.map Sum.inl ∧ l.Nodup ∧ ∀ x, x ∈ l ↔ x ∈ ks
theorem IDict.nil (g : Int → T) : IDict [] g [] := ⟨fun x => rfl, [], rfl, .nil, fun x => Iff.rfl⟩
theorem IDict.put {ks : List Int} {g : Int → T} {d : List (Key × T)} (h : IDict ks g d) (x : Int) : IDict (ks ++ [x]) g (putG d (.inl x) (g x)) := by
  refine ⟨fun y => ?_, ?_⟩
  · rw [valG_putG]
    by_cases e : y = x
    · subst e; simp
    · rw [if_neg (by intro h; exact e (Sum.inl.inj h)), h.val]
      simp [e]
  · obtain ⟨l, h1, h2, h3⟩ := h.keys
    rw [putG_keys, h1]
    by_cases e : x ∈ l
    · rw [if_pos (List.mem_map_of_mem e)]
      refine ⟨l, rfl, h2, fun y => ?_⟩
      rw [h3, List.mem_append, List.mem_singleton]
      constructor
      · exact .inl
      · rintro (h | rfl)
        · exact h
        · exact (h3 _).mp e
    · rw [if_neg (fun hh => by
        obtain ⟨z, hz, hh⟩ := List.mem_map.mp hh
        exact e (Sum.inl.inj hh ▸ hz))]
      refine ⟨l ++ [x], by simp, List.nodup_append.mpr ⟨h2, by simp, fun a ha b hb => ?_⟩, fun y => ?_⟩
      · rw [List.mem_singleton] at hb
        subst hb
        exact fun hh => e (hh ▸ ha)
      · simp only [List.mem_append, List.mem_singleton, h3]
theorem IDict.len {ks : List Int} {g : Int → T} {d : List (Key × T)} (h : IDict ks g d) : d.length ≤ ks.length := by
  obtain ⟨l, h1, h2, h3⟩ := h.keys
  have e : d.length = l.length := by simpa using congrArg List.length h1
  rw [e]
  exact nd_sub h2 fun x hx => (h3 x).mp hx
theorem PathN.fn {hs : List (List Int)} {ix : Nat → Nat} {k q q' : List Int} (h : PathN hs ix k q) (h' : PathN hs ix k q') : q = q' := by
  induction h generalizing q' with
  | root =>
    generalize e : [(-1 : Int)] = r at h'
    cases h' with
    | root => rfl
    | @name k2 q2 b hb hk2 hq2 =>
      have := congrArg List.length e
      simp at this
      exact absurd this hk2
    | @split j q2 hj hq2 => simp at e
  | @name k q a ha hk hq ih =>
    generalize e : k ++ [a] = r at h'
    cases h' with
    | root =>
      have := congrArg List.length e
      simp at this
      exact absurd this hk
    | @name k2 q2 b hb hk2 hq2 =>
      obtain ⟨e1, e2⟩ := List.append_inj' e rfl
      have e2 : a = b := by simpa using e2
      subst e1 e2
      rw [ih hq2]
    | @split j q2 hj hq2 =>
      have := congrArg List.length e
      simp at this
      exact absurd this hk
  | @split j q hj hq ih =>
    generalize e : [(j : Int)] = r at h'
    cases h' with
    | root => simp at e
    | @name k2 q2 b hb hk2 hq2 =>
      have := congrArg List.length e
      simp at this
      exact absurd this hk2
    | @split j2 q2 hj2 hq2 =>
      have e : j = j2 := by simp at e; omega
      subst e
      rw [ih hq2]
abbrev Mk := List Int × Nat × Int
structure RecOk (us : List T) (hs : List (List Int)) (l : List Nat) (pa : Nat → List Int) (ms : List Mk) : Prop where
  nd : l.Nodup
  mem : ∀ i, i ∈ l ↔ i < hs.length
  path : ∀ i, i < hs.length → PathN hs (ixS hs l) (hs.getD i []) (pa i)
  head : ∀ k ∈ hs, ∀ (j : Nat) (r : List Int), k = (j : Int) :: r → us.getD j .non = .non
  use : ∀ i, i < hs.length → us.getD i .non = .non ∨ ∃ u : Int, 0 ≤ u ∧ us.getD i .non = .int u
  mark : ∀ m, m ∈ ms ↔ ∃ i, i < hs.length ∧ ∃ u : Int, 0 < u ∧ us.getD i .non = .int u ∧ m = (pa i, ixS hs l i, u)
section
variable {us : List T} {hs : List (List Int)} {l : List Nat} {pa : Nat → List Int} {ms : List Mk}
theorem RecOk.ix (R : RecOk us hs l pa ms) : IxOk hs (ixS hs l) := ⟨fun i j hi hj e e2 => by
  have h1 : i ∈ onS hs l (hs.getD i []) := onS_mem ((R.mem i).mpr hi)
  have h2 : j ∈ onS hs l (hs.getD i []) := by rw [e]; exact onS_mem ((R.mem j).mpr hj)
  unfold ixS at e2
  rw [← e] at e2
  have a1 := List.getElem_idxOf (List.idxOf_lt_length_iff.mpr h1)
  have a2 := List.getElem_idxOf (List.idxOf_lt_length_iff.mpr h2)
  rw [← a1, ← a2]
  simp only [e2]⟩
theorem PathN.names {ix : Nat → Nat} {k p : List Int} (h : PathN hs ix k p) : ∀ x ∈ k.tail, 0 ≤ x := by
  induction h with
  | root => simp
  | @name k p a ha hk hq ih =>
    intro x hx
    cases k with
    | nil => exact absurd rfl hk
    | cons b k =>
      simp at hx
      rcases hx with hx | rfl
      · exact ih x hx
      · exact ha
  | split hj _ _ => simp
end
structure ST (n : Nat) (t : T) : Prop where
  tr : t.tr = true
  nd : t.nd = true
  dp : t.dep ≤ n
theorem ST.mono {n m : Nat} {t : T} (h : ST n t) (hn : n ≤ m) : ST m t := ⟨h.tr, h.nd, Nat.le_trans h.dp hn⟩
theorem STs {n : Nat} : ∀ {ts : List T}, (∀ t ∈ ts, ST n t) → T.trs ts = true ∧ T.nds ts = true ∧ T.deps ts ≤ n
  | [], _ => ⟨rfl, rfl, by simp [T.deps]⟩
  | t :: ts, h => by
    obtain ⟨a, b, c⟩ := STs fun u hu => h u (List.mem_cons_of_mem _ hu)
    have ht := h t (List.mem_cons_self ..)
    have := ht.dp
    exact ⟨by simp [T.trs, ht.tr, a], by simp [T.nds, ht.nd, b], by simp only [T.deps]; omega⟩
theorem ST.tup {n : Nat} {ts : List T} (h : ∀ t ∈ ts, ST n t) : ST (n + 1) (.tup ts) := by
  obtain ⟨a, b, c⟩ := STs h
  exact ⟨by simp [T.tr, a], by simp [T.nd, b], by simp only [T.dep]; omega⟩
theorem ST.lst {n : Nat} {ts : List T} (h : ∀ t ∈ ts, ST n t) : ST (n + 1) (.lst ts) := by
  obtain ⟨a, b, c⟩ := STs h
  exact ⟨by simp [T.tr, a], by simp [T.nd, b], by simp only [T.dep]; omega⟩
theorem ST.int {v : Int} (h : v.natAbs < 32) : ST 0 (.int v) := ⟨(BT.int h).tr, (BT.int h).nd, (BT.int h).dp⟩
end Mi
namespace Mi
open PySem L2 PySem.Spec PyProof.Rows
structure GsOk (P : Program) (w : World) (K : PySem.W.Frag) (mg : Str → Option Value) (base : Heap) (k n : Nat) (f : Addr) (sp : Sp) : Prop where
  run : ∀ (A : Around) (outer : List PySem.Env) (s : Shared) (H : Hp) (us : List Value) (ws rest : List V) (Q : VK) (E : XK),
    Room k A → A.guards = some [] → Env0 P w K mg base A outer s H → Vals (ws ++ rest) us → ws.length = n → rest.length ≤ sizeLine → (∀ p, H p = none → sp (ws ++ [.ref p]) (upd H p (.tup rest)) Q E) →
      codeAny (model P w) A (.call (.ref f) ⟨us, []⟩) (CR (MCX P w) outer P w H s Q E) s
section
variable {P : Program} {w : World} {K : PySem.W.Frag} {mg : Str → Option Value} {base : Heap} {ad : Ad}
theorem GsOk.mono {f : Addr} {sp : Sp} {j k n : Nat} (F : GsOk P w K mg base j n f sp) (h : j ≤ k) : GsOk P w K mg base k n f sp :=
  ⟨fun A outer s H us ws rest Q E hr => F.run A outer s H us ws rest Q E (hr.mono h)⟩
end
section
variable {X : Cx} {ad : Ad} {W : WX} {k n : Nat} {f : Addr} {F : List T → Sto → R T} {x : Str} {p pos : Pos} {e : Expr} {es : List Expr}
end
end Mi
namespace Mi
open PySem L2 PySem.Spec PyProof.Rows
section
variable {X : Cx}
def rCountD (K : PySem.W.Frag) : V → List V → Hp → VK → Prop := fun x xs H Q => ∃ (a : Addr) (y : V) (d : PyData) (ds : List PyData), x = V.ref a ∧ xs = [y] ∧ Dp K H (V.ref a) (.list ds) ∧ Dp K H y d ∧
  SeqAt.shaped (.list ds) = true ∧ SeqAt.shaped d = true ∧ Q (.int (ds.countP fun z => PyData.eqv z d : Nat)) H
theorem mt_countD (hu : X.A.units + 65 < cLine) : MtR X "list.count" (rCountD X.K) := by
  intro pins s σ H x xs v us Q I rx rxs h
  obtain ⟨a, y, d, ds, rfl, rfl, hl, hy, sl, sd, q⟩ := h
  cases rx
  cases rxs with
  | cons ry rt =>
    rename_i uy ut
    cases rt
    obtain ⟨bs, r1⟩ := Dp.reads I d y uy hy ry
    have hxs : PyData.canLayAll0 ds = true := SeqAt.canLay_of_shaped sl
    have hroom : X.A.units + 1 + min (PyData.depthAll ds) d.depth < cLine := room_in_shaped sd hu
    cases hl with
    | lst hs ha =>
      obtain ⟨its, rv, ⟨⟨cls, dd, data, sls⟩, n, ho, hc, hdn, hdt⟩, hlen⟩ := I.list hs
      simp only at hc hdt
      subst hc hdt
      obtain ⟨as, h4⟩ := Dp.readsAll I ds _ its ha rv
      have hmap : its.map (SeqAt.readOf s.heap) = ds := SeqAt.readsAll_map ds its as hxs h4
      refine call_meets PySem.F.slot_list_count ⟨_, ho, rfl⟩ PySem.F.entry_list_count (PySem.F.args_list_count_2 _ _)
        (SeqAt.list_countAt a its.toArray n dd sls uy (fun u => PyData.eqv (SeqAt.readOf s.heap u) d)) ⟨ho, SeqAt.items_eqAt (vs := its.toArray) (show ReadsAll s.heap its.toArray.toList ds as from h4) r1 hxs (SeqAt.canLay_of_shaped sd) hroom, ?_⟩
      refine ⟨.int (ds.countP fun z => PyData.eqv z d : Nat), H, I.tok _, ⟨s.toks, ?_⟩, q⟩
      have e : its.countP (fun u => PyData.eqv (SeqAt.readOf s.heap u) d) = ds.countP fun z => PyData.eqv z d := by
        rw [← hmap, List.countP_map]
        rfl
      show Value.int ((its.toArray.toList.countP (fun u => PyData.eqv (SeqAt.readOf s.heap u) d) : Nat) : Int) s.toks = _
      rw [show its.toArray.toList = its from rfl, e]
theorem pds_countP {y : T} {d : PyData} (hy : y.pd = some d) : ∀ {ts : List T} {ds : List PyData}, T.pds ts = some ds → ts.countP (fun t => T.eqv t y) = ds.countP fun z => PyData.eqv z d
  | [], ds, h => by simp only [T.pds, Option.some.injEq] at h; subst h; rfl
  | t :: ts, ds, h => by
    obtain ⟨a, b, h1, h2, rfl⟩ := T.pds_cons h
    rw [List.countP_cons, List.countP_cons, pds_countP hy h2, T.eqv_pd _ _ h1 hy]
def fCountD (x : T) (ys : List T) (st : Sto) : R T := match ys with
  | [y] => match lstR st x with
    | some ts => if shaped (.lst ts) = true ∧ shaped y = true then .ok (.int (ts.countP fun t => T.eqv t y : Nat)) st else .bad
    | none => .bad
  | _ => .bad
theorem mm_countD (hu : X.A.units + 65 < cLine) : MethM X "list.count" fCountD := by
  refine ⟨_, mt_countD hu, fun ad as st H x xs tx ts Q W A r rs q => ?_⟩
  unfold fCountD at q
  split at q
  · obtain ⟨v, rfl, rv⟩ := rs.one
    split at q
    · rename_i us e
      split at q
      · rename_i hs
        obtain ⟨a, vs, rfl, g1, g2⟩ := r.lstR A e
        obtain ⟨dl, h1, s1⟩ := shaped_pd hs.1
        obtain ⟨d, h2, s2⟩ := shaped_pd hs.2
        simp only [T.pd, Option.map_eq_some_iff] at h1
        obtain ⟨ds, h3, rfl⟩ := h1
        have hc := SeqAt.canLay_of_shaped s1
        simp only [PyData.canLay0] at hc
        refine ⟨a, v, d, ds, rfl, rfl, .lst g1 (g2.dps h3 hc), rv.dp h2 (SeqAt.canLay_of_shaped s2), s1, s2, ?_⟩
        rw [← pds_countP h2 h3]
        exact Post.at A (.int _) q
      · exact q.elim
    · exact q.elim
  · exact q.elim
end
end Mi
namespace Mi
open PySem L2 PySem.Spec PyProof.Rows
section
variable {X : Cx} {ad : Ad} {W : WX} {pos : Pos} {e : Expr} {c : Nat} {f : Str}
end
structure FnScopeS (N P : List Str) (sc : Scope) : Prop where
  kind : sc.kind = .function
  co : sc.isCoroutine = false
  gen : sc.isGenerator = false
  nd : N.Nodup
  pre : N.take P.length = P
  par : ∀ x ∈ P, sc.names.lookup x = some .local
  noc : ∀ y ∈ sc.names, y.2 ≠ .cell
  only : ∀ y ∈ sc.names, y.2 = .free → y.1 = ("__class__" : Str)
  frc : sc.names.lookup ("__class__" : Str) = some .free
  sup : sc.names.lookup ("super" : Str) = some .globalImplicit
structure FunS (K : PySem.W.Frag) (file : Str) (x qual : Str) (st : Stmt) (f : Addr) (fd : FuncData) (D : Addr) : Prop where
  ex : ∃ (oc : Value) (od : Option Addr) (dV kV doc pm : Value) (an : Option Addr) (cda : Addr) (ct : Value) (osl : Array (Option Value)) (cc : Addr),
    fd = PySem.W.ksFn x qual (defArgs st) (defBody st) (defScope st) dV kV doc pm an (.ref cda) ct cc ∧ K.lookup f = some ⟨oc, od, .func fd, osl⟩ ∧ PySem.W.codeIn K (.ref cda) qual = true ∧
    (∃ (ccl : Value) (cdd : Option Addr) (vs : Array Value) (ccs : Array (Option Value)) (tf : Tok), K.lookup cda = some ⟨ccl, cdd, .fields vs, ccs⟩ ∧ vs[2]? = some (.str file tf)) ∧
    ∃ (cl : Value) (cld : Option Addr) (csl : Array (Option Value)), K.lookup cc = some ⟨cl, cld, .cell (some (.ref D)), csl⟩
  kp : PySem.W.keepIn K (.ref f) = true
  cls : ∃ cd, PySem.W.clsIn K D = some cd
theorem lookup_rev_zip {y : Str} {v : Value} : ∀ {ps : List Str} {us : List Value} {i : Nat}, ps.Nodup → ps[i]? = some y → us[i]? = some v → (ps.zip us).reverse.lookup y = some v
  | [], _, _, _, h, _ => by simp at h
  | _ :: _, [], _, _, _, h => by simp at h
  | p :: ps, u :: us, i, nd, h1, h2 => by
    have nd' := List.nodup_cons.mp nd
    have app : ∀ {l m : List (Str × Value)}, (l ++ m).lookup y = (l.lookup y).or (m.lookup y) := fun {l m} => by
      induction l with
      | nil => simp
      | cons a l ih =>
        obtain ⟨k, z⟩ := a
        simp only [List.cons_append, List.lookup]
        split
        · rfl
        · exact ih
    rw [List.zip_cons_cons, List.reverse_cons, app]
    cases i with
    | zero =>
      simp at h1 h2
      subst h1; subst h2
      have : (ps.zip us).reverse.lookup p = none := by
        rw [List.lookup_eq_none_iff]
        rintro ⟨k, z⟩ hk
        have hk := List.of_mem_zip (List.mem_reverse.mp hk)
        simp only [Bool.not_eq_true', beq_eq_false_iff_ne, ne_eq, bne_iff_ne]
        intro e
        exact nd'.1 (by rw [e]; exact hk.1)
      rw [this]
      simp [List.lookup]
    | succ i =>
      rw [lookup_rev_zip nd'.2 (by simpa using h1) (by simpa using h2)]
      rfl

section
variable {P : Program} {w : World} {K : PySem.W.Frag} {mg : Str → Option Value} {base : Heap} {ad : Ad}
end
end Mi
namespace Mi
open PySem L2 PySem.Spec PyProof.Rows
inductive InitSt (self : Str) : List Stmt → List Str → Prop
  | nil : InitSt self [] []
  | cons {f : Str} {r : List Stmt} {fs : List Str} {q1 q2 q3 q4 : Pos} : InitSt self r fs → InitSt self (.Assign [.Attribute (.Name self q1) f q2] (.Name f q3) q4 :: r) (f :: fs)

structure ExcF (K : PySem.W.Frag) (C fI : Addr) (fs : List Str) : Prop where
  q : PySem.W.excInitIn K C excTail "Exception.__new__" = true
  ov : PySem.W.excOver K C excTail = true
  sa : PySem.W.findIn K (.ref C) "__setattr__" = some (some (.builtin "object.__setattr__"))
  hd : PySem.W.hasDictIn K C = true
  na : ∀ f ∈ fs, PySem.W.findIn K (.ref C) f = some none
  ii : PySem.W.findIn K (.ref C) "__init__" = some (some (.ref fI))
  ti : PySem.W.typeIn K (.ref fI) = some (.type "function")
  kp : PySem.W.keepIn K (.ref C) = true
  b : PySem.W.subIn K (.ref C) (.type "BaseException") = some true
  e : PySem.W.subIn K (.ref C) (.type "Exception") = some true
  t : PySem.W.typeIn K (.ref C) = some (.type "type")
  su : PySem.W.ks_superIn K C C "__init__" = some (some (.builtin "Exception.__init__"))
  mr : PySem.W.mroIn K C (.ref C) = some true
  any : PySem.W.nsIn K cStatics "thirdparty.any" = some none

abbrev exRec (C t : Addr) (d : Option Addr) : Obj := { cls := .ref C, dict := d, data := .fields #[.ref t, .none, .none, .none, .bool false, .none] }
def ExAt (h0 : Heap) (L : Addr) (h : Heap) (e C : Addr) (vs : List (Str × Value)) : Prop :=
  ∃ t, (vs = [] ∧ h.get? e = some (exRec C t none)) ∨ ∃ dx, h.get? e = some (exRec C t (some dx)) ∧ h0.get? dx = none ∧ dx ≠ e ∧ dx ≠ L ∧ h.Ns1 dx (fun f => vs.lookup f)

theorem lookup_cons_eq (f g : Str) (y : Value) (fs : List (Str × Value)) : ((f, y) :: fs).lookup g = if g = f then some y else fs.lookup g := by
  by_cases h : g = f
  · subst h; simp [List.lookup]
  · have e : (g == f) = false := by simpa using h
    rw [if_neg h]; simp [List.lookup, e]
theorem within_look : ∀ {vs : List (Str × Value)}, Within (fun f => vs.lookup f) (vs.map (·.1)) := fun {vs} y hy => by
  induction vs with
  | nil => exact absurd rfl hy
  | cons p l ih =>
    obtain ⟨f, z⟩ := p
    dsimp only at hy
    rw [lookup_cons_eq] at hy
    by_cases e : y = f
    · rw [e]; exact List.mem_cons_self
    · rw [if_neg e] at hy
      exact List.mem_cons_of_mem _ (ih hy)

section
open Builtin Builtin.ObjectAttr
variable {P : Program} {w : World} {A : Around} {E : Value → Shared → Prop} {K : PySem.W.Frag}
variable {h0 h : Heap} {g : Array GenState} {d : Drawn} {t : Nat} {os : OsState} {C fI e L : Addr} {fs : List Str} {vs : List (Str × Value)} {f : Str} {v : Value} {m : Str → Option Value}
theorem ex_store {Q : Unit → Shared → Prop} (T : ExcF K C fI fs) (hf : f ∈ fs) (X : K.In h0) (he : h0.get? e = none) (X0 : ExAt h0 L h e C vs) (hz : vs.length ≤ 900) (hL : h.Ns L m) (hLe : L ≠ e)
    (keep : ∀ b o, h0.get? b = some o → h.get? b = some o)
    (hq : ∀ h' t', (∀ b o, h0.get? b = some o → h'.get? b = some o) → h'.Ns L m → ExAt h0 L h' e C ((f, v) :: vs) → Q () ⟨h', g, d, t', os⟩) :
    wpAny (model P w) A (setAttr (.ref e) f v) Q E ⟨h, g, d, t, os⟩ := by
  have XK : K.In h := X.keeps keep
  have tk : PySem.W.takerIn K C f = some none := by unfold PySem.W.takerIn; rw [T.na f hf]; rfl
  have h0e : ∀ {b o}, h0.get? b = some o → b ≠ e := fun z y => by rw [y, he] at z; cases z
  obtain ⟨cd, hcd, hdd⟩ := PySem.W.any_some T.hd
  have hcls : PySem.W.Looks (model P w) h (classData C) cd := PySem.W.looks_clsIn XK hcd
  obtain ⟨nm, bs, mro, ns, qn, hd', sn, sb, ab, col, del⟩ := cd
  dsimp only at hdd
  subst hdd
  obtain ⟨t0, ⟨rfl, hx⟩ | ⟨dx, hx, h1, h2, h3, h4⟩⟩ := X0
  · have I : PySem.W.InstAt h e (exRec C t0 none) C none := ⟨hx, rfl, rfl, trivial⟩
    have hxs : e ≠ h.objs.size := Nat.ne_of_lt (Heap.lt_size hx)
    have hLs : L < h.objs.size := hL.lt
    refine PySem.W.set_plain XK I T.sa (PySem.W.osa_openX (s := ⟨h, g, d, t + 1, os⟩) (od := none) PySem.F.store_Exception XK I T.ov tk fun b => ?_)
    dsimp only
    unfold storeInOwnDict ownDictForStores
    repeat (first | with_reducible refine PySem.HandSPX.store_in_new ?_ ?_ | with_reducible refine wpAny_loadPart_at hx ?_ | with_reducible refine hcls.at ?_ | wp_step)
    · exact ⟨_, #[], _, (Heap.get?_update_ne _ _ _ _ hxs.symm).trans (Heap.get?_push_at rfl rfl), rfl, fun e he => absurd he (by simp), fun _ => rfl⟩
    · intro h' tk' hn' hs
      have oth : ∀ b o, b ≠ e → h.get? b = some o → h'.get? b = some o := fun b o hb z =>
        (hs.2 b (Nat.ne_of_lt (Heap.lt_size z))).trans ((Heap.get?_update_ne _ _ _ _ hb).trans (Heap.get?_push_of_some _ z))
      refine hq h' tk' (fun b o z => oth b o (h0e z) (keep b o z)) (hL.at fun o z => oth L o hLe z) ⟨t0, .inr ⟨h.objs.size, ?_, ?_, hxs.symm, Nat.ne_of_gt hLs, ?_⟩⟩
      · exact (hs.2 e hxs).trans (Heap.get?_update_self _ (Heap.get?_push_of_some _ hx) rfl)
      · cases z : h0.get? h.objs.size with
        | none => rfl
        | some o => exact absurd (Heap.lt_size (keep _ _ z)) (Nat.lt_irrefl _)
      · have ef : (fun y => List.lookup y [(f, v)]) = fun y => if y = f then some v else none := funext fun y => lookup_cons_eq f y v []
        rw [ef]
        exact hn'
  · obtain ⟨oD, esD, epD, hoD, hdD, hcD⟩ := h4.count within_look
    have I : PySem.W.InstAt h e (exRec C t0 (some dx)) C (some oD) := ⟨hx, rfl, rfl, hoD⟩
    refine PySem.W.set_plain XK I T.sa (PySem.W.osa_openX (s := ⟨h, g, d, t + 1, os⟩) (od := some oD) PySem.F.store_Exception XK I T.ov tk fun b => ?_)
    dsimp only
    unfold storeInOwnDict ownDictForStores
    repeat (first | with_reducible refine PySem.OEX.store_in_old h4 within_look (by rw [List.length_map]; omega) ?_ | with_reducible refine wpAny_loadPart_at hx ?_ | with_reducible refine hcls.at ?_ | wp_step)
    intro h' tk' hn' hs
    have oth : ∀ b o, b ≠ dx → h.get? b = some o → h'.get? b = some o := fun b o hb z => (hs.2 b hb).trans z
    have n0 : ∀ {b o}, h0.get? b = some o → b ≠ dx := fun z y => by rw [y, h1] at z; cases z
    refine hq h' tk' (fun b o z => oth b o (n0 z) (keep b o z)) (hL.at fun o z => oth L o h3.symm z) ⟨t0, .inr ⟨dx, oth e _ h2.symm hx, h1, h2, h3, ?_⟩⟩
    have ef : (fun y => List.lookup y ((f, v) :: vs)) = fun y => if y = f then some v else vs.lookup y := funext fun y => lookup_cons_eq f y v vs
    rw [ef]
    exact hn'

theorem ex_stores {self : Str} {env : PySem.Env} {Q : Flow → Shared → Prop} (T : ExcF K C fI fs) (X : K.In h0) (he : h0.get? e = none) (hLe : L ≠ e) (hk : env.scope.kind = .function) (hlo : env.locals = L) (hs : env.kindOf self = some .local) (hsd : (self == ("__debug__" : Str)) = false)
    (hms : m self = some (.ref e)) : ∀ {ss : List Stmt} {gs : List Str} (S : InitSt self ss gs) {us : List Value} {vs : List (Str × Value)} {h : Heap} {t : Nat}, (∀ f ∈ gs, f ∈ fs ∧ env.kindOf f = some .local ∧ (f == ("__debug__" : Str)) = false) → (∀ p ∈ gs.zip us, m p.1 = some p.2) →
    us.length = gs.length → vs.length + gs.length ≤ 900 → h.Ns L m → (∀ b o, h0.get? b = some o → h.get? b = some o) → ExAt h0 L h e C vs →
    (∀ h' t', (∀ b o, h0.get? b = some o → h'.get? b = some o) → ExAt h0 L h' e C ((gs.zip us).reverse ++ vs) → Q .next ⟨h', g, d, t', os⟩) → wpAny (model P w) A (execs ss env) Q E ⟨h, g, d, t, os⟩
  | _, _, .nil, us, vs, h, t, _, _, _, _, hL, keep, X0, hq => wpAny_execs_nil (hq h t keep (by simpa using X0))
  | _, _, .cons (f := f) (r := r) (fs := gs) S, [], vs, h, t, hg, hz, hl, hn, hL, keep, X0, hq => by cases hl
  | _, _, .cons (f := f) (r := r) (fs := gs) S, u :: us, vs, h, t, hg, hz, hl, hn, hL, keep, X0, hq => by
    obtain ⟨f1, f2, f3⟩ := hg f List.mem_cons_self
    have hn : vs.length + (gs.length + 1) ≤ 900 := hn
    refine wpAny_execs_cons (plainObj_wpAny_Assign_Attribute (wpAny_Name (wpAny_loadName_local (m := m) hk f2 (by rw [hlo]; exact hL) (hz (f, u) List.mem_cons_self) (wpAny_Name (wpAny_loadName_local (m := m) hk hs (by rw [hlo]; exact hL) hms ?_) hsd)) f3) rfl)
    refine ex_store T f1 X he X0 (by omega) hL hLe keep fun h' t' k' hL' X' => ?_
    refine ex_stores T X he hLe hk hlo hs hsd hms S (fun f hf => hg f (List.mem_cons_of_mem _ hf)) (fun p hp => hz p (List.mem_cons_of_mem _ hp)) (by simpa using hl) (by simp only [List.length_cons]; omega) hL' k' X' fun h2 t2 k2 X2 => hq h2 t2 k2 ?_
    rw [List.zip_cons_cons, List.reverse_cons, List.append_assoc]
    exact X2
end
structure InitD (K : PySem.W.Frag) (file : Str) (C fI : Addr) (fd : FuncData) (slf : Str) (fs : List Str) : Prop where
  ex : ∃ (x qual : Str) (st : Stmt) (ar : Arg) (p0 p1 p2 p3 p4 p5 : Pos) (m : Str) (j : Nat) (rest : List Stmt) (pl : Sem Bool), FunS K file x qual st fI fd C ∧ FnScopeS (slf :: fs) (slf :: fs) (defScope st) ∧
    defBody st = .Expr (.Call (.Attribute (.Call (.Name "super" p0) [] [] p1) "__init__" p2) [.Constant (.str m) j p5] [] p3) p4 :: rest ∧ InitSt slf rest fs ∧ ((defArgs st).posonlyargs ++ (defArgs st).args).head? = some ar ∧ ar.arg = slf ∧
    (∀ env : PySem.Env, eval (.Call (.Attribute (.Call (.Name "super" p0) [] [] p1) "__init__" p2) [.Constant (.str m) j p5] [] p3) env = (do
      let ov ← attributeBase (.Call (.Name "super" p0) [] [] p1) "__init__" env (eval (.Call (.Name "super" p0) [] [] p1) env)
      standAt p2.atName
      let (f, first) ← holding [ov] (getMethod ov "__init__" pl)
      callWith p3 f first (backTo p3 (starEach [.Constant (.str m) j p5] env)) [])) ∧
    (∀ env : PySem.Env, swapsWith (.Call (.Attribute (.Call (.Name "super" p0) [] [] p1) "__init__" p2) [.Constant (.str m) j p5] [] p3) none p4.line env = pure false)
  bi : Binds K fd (slf :: fs) []
  nd : ∀ f ∈ slf :: fs, (f == ("__debug__" : Str)) = false
  ln : fs.length ≤ 900
section
variable {A : Around} {R : Result → Shared → Prop} {X : Cx} {pins : List (Addr × Obj)} {σ : L2.St} {H : Hp} {s : Shared} {C fI e t0 : Addr} {fs : List Str} {us : List Value} {self file : Str} {fd : FuncData}
theorem ex_init (I : Inv X pins σ H s) (T : ExcF X.K C fI fs) (D : InitD X.K file C fI fd self fs) (hfile : X.prog.main.file = file) (hsup : X.mg "super" = none) (htop : (X.prog.main.scope.names.lookup ("super" : Str)).isSome = false) (hd : A.depth < recursionLimit)
    {h : Heap} {t : Nat} (keep : ∀ b o, s.heap.get? b = some o → h.get? b = some o) (he0 : s.heap.get? e = none) (heo : h.get? e = some (exRec C t0 none)) (hl : us.length = fs.length)
    (hq : ∀ L h' t', (∀ b o, s.heap.get? b = some o → h'.get? b = some o) → ExAt s.heap L h' e C (fs.zip us).reverse → R (.ok (.ret .none)) ⟨h', s.gens, s.drawn, t', s.os⟩) :
    codeAny (model X.prog X.w) A (.call (.ref fI) ⟨.ref e :: us, []⟩) R ⟨h, s.gens, s.drawn, t, s.os⟩ := by
  obtain ⟨x, qual, st, ar, p0, p1, p2, p3, p4, p5, m, j, rest, pl, FS, S, hst, hrest, har, hself, ht, hsw⟩ := D.ex
  obtain ⟨oc, od, dV, kV, doc, pm, an, cda, ct, osl, cc, rfl, lk, hcd, ⟨ccl, cdd, cvs, ccs, tf, hcode, hvs⟩, cl, cld, csl, hcell⟩ := FS.ex
  obtain ⟨cdC, hcC⟩ := FS.cls
  have K0 : X.K.In s.heap := I.kIn
  have KX : X.K.In h := K0.keeps keep
  have lim : h.NoLimit := (I.ok.mod.nolimit.keeps I.bk).keeps keep
  have hb := D.bi ⟨h, s.gens, s.drawn, t, s.os⟩ (.ref e :: us) KX (by simp [hl])
  have hloc : ∀ y ∈ (self :: fs).zip (Value.ref e :: us), (defScope st).names.lookup y.1 = some .local := fun ⟨n, v⟩ hy => S.par n (List.of_mem_zip hy).1
  refine ks_codeAny_call_defAt (fd := PySem.W.ksFn x qual (defArgs st) (defBody st) (defScope st) dV kV doc pm an (.ref cda) ct cc) (body := defBody st) (binds := (self :: fs).zip (Value.ref e :: us)) hd (KX _ _ lk) rfl lim (PySem.W.codeRec_of KX hcd) rfl
    (by simpa using hb) S.noc hloc (fun h₀ hns hkk => ?_) S.co S.gen S.kind
  have env_eq : (callEnv (PySem.W.ksFn x qual (defArgs st) (defBody st) (defScope st) dV kV doc pm an (.ref cda) ct cc) h.objs.size fI) = PySem.W.ksEnv qual (defScope st) h.objs.size fI (.ref cda) cc := rfl
  rw [env_eq]
  rw [hst]
  have hzl : ((self :: fs).zip (Value.ref e :: us)).length = fs.length + 1 := by simp [hl]
  refine PySem.ks_wpAt_execs_cons (PySem.ks_wpAt_Expr_any (PySem.ks_wpAt_MethodCall (pl := pl) ?_ (ht _)) (by simp [interactive, PySem.W.ksEnv, S.kind]) (hsw _))
  have X0 : X.K.In h₀ := KX.keeps hkk
  have k0 : ∀ b o, s.heap.get? b = some o → h₀.get? b = some o := fun b o z => hkk b o (keep b o z)
  have e0 : h₀.get? e = some (exRec C t0 none) := hkk _ _ heo
  have I0 : PySem.W.InstAt h₀ e (exRec C t0 none) C none := ⟨e0, rfl, rfl, trivial⟩
  obtain ⟨oD, hD1, hD2⟩ : ∃ oD, h₀.get? C = some oD ∧ oD.data = .cls cdC := by
    unfold PySem.W.clsIn at hcC
    split at hcC
    · rename_i c d cd' sl ho
      cases hcC
      exact ⟨_, X0 _ _ ho, rfl⟩
    · cases hcC
  have hms : ((self :: fs).zip (Value.ref e :: us)).reverse.lookup self = some (.ref e) := lookup_rev_zip S.nd (i := 0) rfl rfl
  have hpl : (defScope st).names.lookup self = some .local := S.par _ List.mem_cons_self
  refine PySem.ks_wpAt_super_base (env := PySem.W.ksEnv qual (defScope st) h.objs.size fI (.ref cda) cc) S.sup S.frc (by decide) rfl (X0 _ _ lk) rfl har rfl (X0 _ _ hcode) rfl hvs (by rw [hfile]; exact beq_self_eq_true _) htop ?_
  obtain ⟨mb, hbl1, hbl2⟩ := I.mod.blt
  have bk0 : ∀ b o, X.base.get? b = some o → h₀.get? b = some o := fun b o z => k0 b o (I.bk b o z)
  refine PySem.W.ks_loadName_global S.kind S.sup (Calls.loadGlobal_builtin (env := PySem.W.ksEnv qual (defScope st) h.objs.size fI (.ref cda) cc) (I.mod.glob.keeps bk0) hsup (hbl1.keeps bk0) ((hbl2 _ (by decide)).trans (by first | boot_by_name | rfl | kernel_rfl)) ⟨rfl, ?_⟩)
  refine wpAny_loadName_free S.kind S.frc rfl ⟨_, X0 _ _ hcell, rfl⟩ ?_
  rw [hself]
  refine wpAny_loadName_local S.kind hpl hns hms ?_
  refine PySem.ks_wpAny_isType_cls hD1 hD2 ⟨rfl, ?_⟩
  refine PySem.ks_wpAny_call_super hD1 hD2 e0 rfl ?nc (PySem.W.looks_mroIn X0 T.mr) fun hS eso k => ?_
  case nc => exact fun c z => nomatch z
  have X1 : X.K.In hS := X0.keeps k
  have I1 : PySem.W.InstAt hS e (exRec C t0 none) C none := ⟨k _ _ e0, rfl, rfl, trivial⟩
  have hsu := T.su
  unfold PySem.W.ks_superIn at hsu
  rw [hcC] at hsu
  refine PySem.ESX.getMethod_super eso (PySem.W.looks_opaque X1 T.any) (l₀ := cdC.mro) (fun A Q E s k q => wpAny_bind ((PySem.W.looks_clsIn X1 hcC) A _ E s k (wpAny_pure q))) rfl X1 hsu (PySem.W.ks_ne X1 I1 hcC) (by decide) (I1.type.andThen (PySem.W.looks_subIn X1 T.e)) ?_
  refine PySem.ESX.callWith_bound (x := e) ?_
  have hS0 : ∀ b o, s.heap.get? b = some o → (hS.push (PySem.ESX.bw e)).get? b = some o := fun b o z => Heap.get?_push_of_some _ (k b o (k0 b o z))
  have hbw : (hS.push (PySem.ESX.bw e)).get? hS.objs.size = some (PySem.ESX.bw e) := Heap.get?_push_at rfl rfl
  show wpAny _ _ (spliced ((false, eval (.Constant (.str m) j p5) _) :: [])) _ _ _
  refine Calls.spliced_cons (Calls.Constant_str (Calls.spliced_nil ⟨hbw, ?_⟩))
  have XS : X.K.In (hS.push (PySem.ESX.bw e)) := K0.keeps hS0
  obtain ⟨nm, N', qn, bs, bm, hdct, sn, sub, ab, col, dd, k0', k1', k2', k3', k5', hC, _⟩ := PySem.W.excInit_of XS T.q
  refine PySem.ESX.call_bw (e := e) (t0 := t0) hC (Heap.get?_push_of_some _ (k _ _ e0)) hbw (by show 1 ≤ sizeLine; rw [sizeLine_eq]; omega) fun h2 t1 k2 he2 => ?_
  have hLlt : h.objs.size ≠ e := Nat.ne_of_gt (Heap.lt_size heo)
  refine PySem.wpAt_of_wpAny (ex_stores (env := PySem.W.ksEnv qual (defScope st) h.objs.size fI (.ref cda) cc) (h0 := s.heap) (L := h.objs.size) (m := fun x => ((self :: fs).zip (Value.ref e :: us)).reverse.lookup x) (fs := fs) T K0 he0 hLlt S.kind rfl hpl (D.nd _ List.mem_cons_self) hms hrest (us := us) (vs := []) (fun f hf => ⟨hf, S.par _ (List.mem_cons_of_mem _ hf), D.nd _ (List.mem_cons_of_mem _ hf)⟩) (fun p hp => ?_) hl
    (by have := D.ln; simpa using this) ?_ (fun b o z => k2 b o (fun y => by rw [y, he0] at z; cases z) (hS0 b o z)) ⟨t1, .inl ⟨rfl, he2⟩⟩ fun h3 t3 k3 X3 => hq h.objs.size h3 t3 k3 (by simpa using X3))
  · obtain ⟨i, hi, hp⟩ := List.getElem_of_mem hp
    have hi' : i < fs.length ∧ i < us.length := by
      rw [List.length_zip] at hi
      omega
    refine lookup_rev_zip S.nd (i := i + 1) ?_ ?_
    · rw [← hp]; simp [hi'.1]
    · rw [← hp]; simp [hi'.2]
  · exact hns.at fun o z => k2 _ o hLlt (Heap.get?_push_of_some _ (k _ _ z))
end
theorem relO_rev : ∀ {fs : List Str} {vs : List V} {us : List Value} {a1 : List (Str × V)} {a2 : List (Str × Value)}, Vals vs us → (∀ f, RelO (a1.lookup f) (a2.lookup f)) → ∀ f, RelO (((fs.zip vs).reverse ++ a1).lookup f) (((fs.zip us).reverse ++ a2).lookup f)
  | [], vs, us, a1, a2, r, h, f => by simpa using h f
  | g :: fs, _, _, a1, a2, .nil, h, f => by simpa using h f
  | g :: fs, v :: vs, u :: us, a1, a2, .cons rv r, h, f => by
    rw [List.zip_cons_cons, List.zip_cons_cons, List.reverse_cons, List.reverse_cons, List.append_assoc, List.append_assoc]
    refine relO_rev r (fun f => ?_) f
    show RelO (((g, v) :: a1).lookup f) (((g, u) :: a2).lookup f)
    rw [lookup_cons_eq g f u a2]
    exact relO_put rv h f
theorem repF_rev {K : PySem.W.Frag} {ad : Ad} {as : List Addr} {H : Hp} : ∀ {fs : List Str} {vs : List V} {ts : List T} {a1 : List (Str × V)} {a2 : List (Str × T)}, Reps K ad as H vs ts → RepF K ad as H a1 a2 → RepF K ad as H ((fs.zip vs).reverse ++ a1) ((fs.zip ts).reverse ++ a2)
  | [], vs, ts, a1, a2, r, h => by simpa using h
  | g :: fs, _, _, a1, a2, .nil, h => by simpa using h
  | g :: fs, v :: vs, t :: ts, a1, a2, .cons rv r, h => by
    rw [List.zip_cons_cons, List.zip_cons_cons, List.reverse_cons, List.reverse_cons, List.append_assoc, List.append_assoc]
    exact repF_rev r (.cons rv h)
section
variable {X : Cx} {C fI : Addr} {fs : List Str} {self file : Str} {fd : FuncData} {ta : TA} {e : Expr} {es : List Expr} {x : Str} {p pos : Pos} {k : Nat}
end
section
variable {X : Cx} {ad : Ad} {W : WX} {p pos pos' : Pos} {k : Nat} {e : Expr} {es : List Expr}
section
variable {N : Sl → Sto → Prop} {Rt : T → Sto → Prop} {B C : Sl → Sto → Prop} {E : Exn → Sl → Sto → Prop} {ρ : Sl} {st : Sto}
end
end
end Mi
namespace Mi
open PySem L2 PySem.Spec PyProof.Rows L2H LamX
section
variable {K : PySem.W.Frag} {ad : Ad}
end
section
variable {X : Cx} {ad : Ad} {W : WX}
variable {wd : Nat → Option Str} {rp : List T → Sto → R T} {m : M T} {x a : Str} {g c Pt : Addr} {fd : FuncData} {j k : Nat} {params : Arguments} {body : Expr} {scope : Scope} {p lpos pos : Pos}
end
end Mi
namespace Mi
open PySem L2 PySem.Spec PyProof.Rows
theorem exV_ok {P : Program} {w : World} {H : Hp} {h : Heap} {a C : Addr} {d : Option Addr} {oe : Obj} {vs : Array Value} (e : h.get? a = some oe) (hc : oe.cls = .ref C) (hd : oe.dict = d) (hv : oe.data = .fields vs) : ObjOk P w H h a (ExV C a d) :=
  ⟨⟨oe, vs, e, hc, hd, hv⟩, ⟨oe, e⟩, fun _ _ ⟨o, v, q, r⟩ k => ⟨o, v, k o q, r⟩⟩
section
variable {X : Cx} {pins : List (Addr × Obj)} {σ : L2.St} {H : Hp} {s : Shared} {C fI : Addr} {fs : List Str} {self file : Str} {fd : FuncData} {ta : TA} {te : TE} {e : Expr} {es : List Expr} {x m : Str} {p p2 pos : Pos} {j k : Nat}
theorem pe_mkX (E : ExcX X.K X.mg x C) (hg : Gl X x) (hdb : (x == ("__debug__" : Str)) = false := by decide) :
    PE X (.Call (.Name x p) [.Constant (.str m) j p2] [] pos) (fun σ H Q => ∀ a, H a = none → Q (.ref a) (upd H a (ExV C a none))) := by
  refine ⟨fun pins s σ H Q I h => ?_⟩
  refine wpAny_Call_Name_kw (ld_glob I hg E.g ?_ hdb)
  have hs : starEach [(.Constant (.str m) j p2 : Expr)] X.env = (false, eval (.Constant (.str m) j p2) X.env) :: starEach [] X.env := by rfl
  refine PySem.W.callWith_K (h₀ := X.base) I.ok.mod.kin E.k ?_ hs (by rfl)
  rw [hs]
  show wpAny _ _ (spliced ((false, eval (.Constant (.str m) j p2) X.env) :: backTo pos (starEach [] X.env))) _ _ s
  refine Calls.spliced_cons (thn ((show PE X (.Constant (.str m) j p2) (tC (.str m)) from pe_str).run pins s σ H (fun v H1 => v = .str m ∧ H1 = H) I ⟨rfl, rfl⟩) fun u s1 ⟨v, H1, I1, r1, _, e1⟩ => ?_)
  subst e1
  refine Calls.spliced_nil ⟨I1.kIn, ?_⟩
  show wpAny _ _ (call (.ref C) [u]) _ _ _
  obtain ⟨bm, N, nm, qn, bs, hdct, sn, sub, ab, col, dd, k0, k1, k2, k3, k5, mN, hC, hN, hni, T⟩ := exc_obj I1.kIn E.q
  refine wpAny_call_exc_subT PySem.F.excBase_Exception T hC hN hni (fun h' a hm => ?_) (by show 1 ≤ sizeLine; rw [sizeLine_eq]; omega)
  have hn : H1 a = none := I1.hok.gone hm.new
  obtain ⟨t, ht, _, _⟩ := hm.there
  exact ⟨.ref a, upd H1 a (ExV C a none), I1.laidN hm.keeps hm.new hn (exV_ok ht rfl rfl rfl), rfl, h a hn⟩
theorem pe_mkF (T : ExcF X.K C fI fs) (D : InitD X.K file C fI fd self fs) (hne : fs ≠ []) (hfile : X.prog.main.file = file) (hsup : X.mg "super" = none) (htop : (X.prog.main.scope.names.lookup ("super" : Str)).isSome = false) (hr : Room (k + 1) X.A) (hg : Gl X x) (hm : X.mg x = some (.ref C)) (ha : PA X (e :: es) ta)
    (hdb : (x == ("__debug__" : Str)) = false := by decide) (he : starEach (e :: es) X.env = (false, eval e X.env) :: starEach es X.env := by rfl) (hpl : (backTo pos (starEach es X.env)).any (·.1) = false := by rfl) :
    PE X (.Call (.Name x p) (e :: es) [] pos) (fun σ H Q => ta σ H fun vs H1 => vs.length = fs.length ∧ ∀ dx a, H1 dx = none → H1 a = none → dx ≠ a → Q (.ref a) (upd (upd H1 dx (.xd (fs.zip vs).reverse)) a (ExV C a (some dx)))) := by
  refine ⟨fun pins s σ H Q I h => ?_⟩
  refine wpAny_Call_Name_kw (ld_glob I hg hm ?_ hdb)
  refine PySem.W.callWith_K (h₀ := X.base) I.ok.mod.kin T.kp (thn (ha.run pos pins s σ H _ I h) fun us s1 ⟨vs, H1, I1, r1, hz, q1⟩ => ⟨I1.kIn, ?_⟩) he hpl
  show wpAny _ _ (call (.ref C) us) _ _ _
  have hl : us.length = fs.length := by rw [← r1.length]; exact hz
  have hln := D.ln
  obtain ⟨hp, g, dr, tk, os⟩ := s1
  obtain ⟨nm, N', qn, bs, bm, hdct, sn, sub, ab, col, dd, k0', k1', k2', k3', k5', hC, hT⟩ := PySem.W.excInit_of I1.kIn T.q
  have k1 : ∀ b o, hp.get? b = some o → ((hp.push (PySem.W.kdv_tup us)).push (PySem.HandSPX.excO C hp.objs.size)).get? b = some o := fun b o e => Heap.get?_push_of_some _ (Heap.get?_push_of_some _ e)
  have hget : ((hp.push (PySem.W.kdv_tup us)).push (PySem.HandSPX.excO C hp.objs.size)).get? (hp.objs.size + 1) = some (PySem.HandSPX.excO C hp.objs.size) := by heap_get
  have ha0 : hp.get? (hp.objs.size + 1) = none := by
    cases z : hp.get? (hp.objs.size + 1) with
    | none => rfl
    | some o => exact absurd (Heap.lt_size z) (Nat.not_lt.mpr (Nat.le_succ _))
  refine wpAny_call (PySem.HandSPX.call_own F.excBase_Exception hT hC (PySem.W.looks_findIn I1.kIn T.ii) (fun self => PySem.W.bind_fn I1.kIn self T.ti) (by rw [hl]; exact Nat.le_trans hln (by rw [sizeLine_eq]; decide)) ?_)
  refine ex_init (e := hp.objs.size + 1) (t0 := hp.objs.size) I1 T D hfile hsup htop (hr.make C us []).depth k1 ha0 hget hl fun L h' t' k' X' => ⟨rfl, ?_⟩
  obtain ⟨t1, ⟨z, _⟩ | ⟨dx, hx, hd0, hda, hdL, hns⟩⟩ := X'
  · exact absurd (congrArg List.length z) (by
      rw [List.length_reverse, List.length_zip, hl, Nat.min_self]
      exact fun z => hne (List.length_eq_zero_iff.mp z))
  obtain ⟨G, g1, g2⟩ := restrict h' fun b => decide (b ≠ hp.objs.size + 1)
  have gk : ∀ b, b ≠ hp.objs.size + 1 → G.get? b = h'.get? b := fun b hb => g1 b (decide_eq_true hb)
  have ga : G.get? (hp.objs.size + 1) = none := g2 _ (by simp)
  have hn : H1 dx = none := I1.hok.gone hd0
  have hna : H1 (hp.objs.size + 1) = none := I1.hok.gone ha0
  have J := I1.laidN (a := dx) (o := .xd (fs.zip vs).reverse) (h' := G) (t' := t') (fun b o z => by rw [gk b (fun y => by rw [y, ha0] at z; cases z)]; exact k' b o z) hd0 hn
    ⟨_, hns.at fun o y => (gk dx hda).trans y, fun f => by
      have := relO_rev (fs := fs) r1 (a1 := []) (a2 := []) (fun f => trivial) f
      simpa using this⟩
  have J2 := J.laidN (a := hp.objs.size + 1) (o := ExV C (hp.objs.size + 1) (some dx)) (h' := h') (t' := t') (fun b o z => by
      by_cases hb : b = hp.objs.size + 1
      · rw [hb, ga] at z; cases z
      · exact (gk b hb).symm.trans z) ga (by rw [upd_ne (Ne.symm hda)]; exact hna) (exV_ok hx rfl rfl rfl)
  exact ⟨.ref (hp.objs.size + 1), _, J2, rfl, q1 dx _ hn hna hda⟩
theorem pe_xv {n : Str} (he : PE X e te) (hb : attributeBase e n X.env (eval e X.env) = eval e X.env := by rfl) :
    PE X (.Attribute e n pos) (fun σ H Q => te σ H fun x H1 => ∃ (a C dd : Addr) (fs : List (Str × V)) (v : V), x = .ref a ∧ H1 a = some (ExV C a (some dd)) ∧ XfC X.K C ∧ PySem.W.findIn X.K (.ref C) n = some none ∧ H1 dd = some (.xd fs) ∧ fs.lookup n = some v ∧ Q v H1) := by
  refine ⟨fun pins s σ H Q I h => ?_⟩
  refine attr_of hb (thn (he.run pins s σ H _ I h) fun u s1 hh => ?_)
  obtain ⟨x, H1, I1, rx, a, C, dd, fs, v, ex, ha, T, hno, ea, l, q⟩ := hh
  subst ex
  obtain rfl : u = Value.ref a := rx
  obtain ⟨⟨oe, vs, ho1, hc, hd1, hv⟩, _, _⟩ := I1.hok a _ ha
  have hx : ObjOk X.prog X.w H1 s1.heap dd (.xd fs) := I1.hok dd _ ea
  obtain ⟨mA, hns, hr⟩ := hx
  obtain ⟨od, ho, hl⟩ := lookIn_ns hns
  obtain ⟨u, hu, ru⟩ := RelO.some_of (v := v) (o := mA n) (by rw [← l]; exact hr n)
  have J : PySem.W.InstAt s1.heap a oe C (some od) := ⟨ho1, hc, by unfold PySem.W.notCls; rw [hv] <;> rfl, by rw [hd1]; exact ho⟩
  exact HandSPX.exc_get I1.kIn J T.ga T.gg T.exC (PySem.W.findObj_own T.hdC hno rfl (by rw [hl, hu])) (handed_of ru) ⟨v, H1, I1.tok _, ru, q⟩
def rIsV (K : PySem.W.Frag) : List V → Hp → VK → Prop := fun xs H Q => ∃ (a C : Addr) (d : Option Addr) (c : V) (cv : Value) (b : Bool), xs = [.ref a, c] ∧ H a = some (ExV C a d) ∧ (d = none ∨ ∃ dd fs, d = some dd ∧ H dd = some (.xd fs)) ∧ ExcC K C ∧ (∀ u, RelV c u → u = cv) ∧ PySem.W.kitOne K (.ref C) cv = some b ∧ Q (.bl b) H
theorem call_isV : CallR X (.builtin "isinstance") (rIsV X.K) := by
  intro pins s σ H xs us Q I r h
  obtain ⟨a, C, d, c, cv, b, rfl, ha, hdd, T, hcv, e, q⟩ := h
  cases r with
  | cons rx rr =>
    cases rr with
    | cons rt rr =>
      cases rr
      cases rx
      have ec := hcv _ rt
      subst ec
      obtain ⟨⟨oe, vs, ho1, hc, hd1, hv⟩, _, _⟩ := I.hok a _ ha
      have hj : ∃ od, PySem.W.InstAt s.heap a oe C od := by
        rcases hdd with hdd | ⟨dd, fs, hdd, hf⟩
        · exact ⟨none, ho1, hc, by unfold PySem.W.notCls; rw [hv] <;> rfl, by rw [hd1, hdd]; trivial⟩
        · obtain ⟨mA, hns, hr⟩ := I.hok dd _ hf
          obtain ⟨od, ho, hl⟩ := lookIn_ns hns
          exact ⟨some od, ho1, hc, by unfold PySem.W.notCls; rw [hv] <;> rfl, by rw [hd1, hdd]; exact ho⟩
      obtain ⟨od, J⟩ := hj
      have hcl : (PySem.W.clsIn X.K C).isSome = true := by
        obtain ⟨cd, hcd, _⟩ := PySem.W.any_some T.hd
        rw [hcd]; rfl
      exact PySem.W.kia_one (PySem.W.kitx_exc hcl T.hg T.hk T.hs T.ha T.hn T.ht T.hm) I.kIn J e (fun z => nomatch z) fun tk => ⟨.bl b, H, I.kept (t' := tk) fun _ _ z => z, rfl, q⟩
end
def exnAt (st : Sto) (t : T) : Option (Nat × Nat × List (Str × T)) := match t with
  | .ref i => match st[i]? with
    | some (.exn c fs) => some (i, c, fs)
    | _ => none
  | _ => none
section
variable {K : PySem.W.Frag} {ad : Ad} {as : List Addr} {H : Hp} {st : Sto} {v : V} {t : T}
theorem Rep.exn {i c : Nat} {fs : List (Str × T)} (A : Ab K ad as st H) (r : Rep K ad as H v t) (h : exnAt st t = some (i, c, fs)) : ∃ a, v = .ref a ∧ as[i]? = some a ∧ ORep K ad as H a (.exn c fs) := by
  unfold exnAt at h
  split at h
  · split at h
    · rename_i c' fs' e
      cases h
      obtain ⟨a, ea, rfl⟩ : ∃ a, as[i]? = some a ∧ v = .ref a := by
        cases r with
        | ref h => exact ⟨_, h, rfl⟩
      exact ⟨a, rfl, ea, A.obj _ _ _ ea e⟩
    · cases h
  · cases h
theorem RepF.getE : ∀ {gs : List (Str × V)} {fs : List (Str × T)} {f : Str} {t : T}, RepF K ad as H gs fs → fs.lookup f = some t → ∃ v, gs.lookup f = some v ∧ Rep K ad as H v t
  | _, _, f, t, .nil, h => by simp at h
  | _, _, f, t, .cons (f := g) (v := v) (vs := gs) (t := u) (ts := ts) r rs, h => by
    by_cases e : f = g
    · subst e
      simp [List.lookup] at h ⊢
      subst h
      exact r
    · have e' : (f == g) = false := by simpa using e
      simp [List.lookup, e'] at h ⊢
      exact RepF.getE rs h
end
def mMkX (c : Nat) : M T := fun _ st => .ok (.ref st.length) (st ++ [.exn c []])
def mMkF (c : Nat) (fs : List Str) (ma : M (List T)) : M T := fun ρ st => (ma ρ st).bind fun ts st1 => if ts.length = fs.length then .ok (.ref st1.length) (st1 ++ [.exn c (fs.zip ts).reverse]) else .bad
def mXFld (cs : List Nat) (f : Str) (m : M T) : M T := fun ρ st => (m ρ st).bind fun x st1 => match exnAt st1 x with
  | some (_, c, fs) => if cs.contains c then (match fs.lookup f with
    | some t => .ok t st1
    | none => .bad) else .bad
  | none => .bad
def fIsiV (cs js : List Nat) (sub : Nat → Nat → Bool) (xs : List T) (st : Sto) : R T := match xs with
  | [t, .adr j] => match exnAt st t with
    | some (_, c, _) => if cs.contains c && js.contains j then .ok (.bl (sub c j)) st else .bad
    | none => .bad
  | [t, .ty n] => match exnAt st t with
    | some (_, c, _) => if cs.contains c && n == "Exception" then .ok (.bl true) st else .bad
    | none => .bad
  | _ => .bad
section
variable {X : Cx} {ad : Ad} {W : WX} {p p2 pos pos' : Pos} {k j : Nat} {e : Expr} {es : List Expr}
theorem pm_mkX {c : Nat} {x m : Str} (E : ExcX X.K X.mg x (ad.fn c)) (hg : Gl X x) (hdb : (x == ("__debug__" : Str)) = false := by decide) :
    PM X ad W (.Call (.Name x p) [.Constant (.str m) j p2] [] pos) (mMkX c) :=
  peW (pe_mkX E hg hdb) fun σ H Q ⟨hd, ρ, as, st, A, En, q⟩ a ha => by
    obtain ⟨B, ex, r⟩ := A.newO (u := ExV (ad.fn c) a none) (o := .exn c []) ha fun e => ⟨none, upd_same, .inl ⟨rfl, rfl⟩⟩
    exact q.to B ex r
theorem pm_mkF {c : Nat} {fI : Addr} {fs : List Str} {self file : Str} {fd : FuncData} {x : Str} {ma : M (List T)} (S : Sit X W k) (hk : 0 < k) (T : ExcF X.K (ad.fn c) fI fs) (D : InitD X.K file (ad.fn c) fI fd self fs) (hne : fs ≠ []) (hfile : X.prog.main.file = file)
    (hsup : X.mg "super" = none) (htop : (X.prog.main.scope.names.lookup ("super" : Str)).isSome = false) (hg : Gl X x) (hm : X.mg x = some (.ref (ad.fn c))) (ha : PMA X ad W (e :: es) ma)
    (hdb : (x == ("__debug__" : Str)) = false := by decide) (he : starEach (e :: es) X.env = (false, eval e X.env) :: starEach es X.env := by rfl) (hpl : (backTo pos (starEach es X.env)).any (·.1) = false := by rfl) :
    PM X ad W (.Call (.Name x p) (e :: es) [] pos) (mMkF c fs ma) := by
  obtain ⟨j, rfl⟩ : ∃ j, k = j + 1 := ⟨k - 1, by omega⟩
  refine peW (pe_mkF T D hne hfile hsup htop S.rm hg hm ha hdb he hpl) fun σ H Q ⟨hd, ρ, as, st, A, En, q⟩ => ?_
  refine ⟨hd, ρ, as, st, A, En, Post.step q fun ts st1 as1 H1 vs A1 e1 r1 q1 => ?_⟩
  split at q1
  · rename_i hlen
    refine ⟨by rw [r1.length]; exact hlen, fun dx a hn ha' hne' => ?_⟩
    have e2 : Ext as1 H1 as1 (upd H1 dx (.xd (fs.zip vs).reverse)) := Ext.fresh hn
    have A2 := A1.fresh (u := .xd (fs.zip vs).reverse) hn
    have ha2 : upd H1 dx (.xd (fs.zip vs).reverse) a = none := by rw [upd_ne (Ne.symm hne')]; exact ha'
    obtain ⟨B, ex, r⟩ := A2.newO (u := ExV (ad.fn c) a (some dx)) (o := .exn c (fs.zip ts).reverse) ha2 fun e => ⟨some dx, upd_same, .inr ⟨dx, _, rfl, (upd_ne hne').trans upd_same, fun z => by
      rcases List.mem_append.mp z with z | z
      · exact A1.nin hn z
      · exact hne' (by simpa using z), by simpa using (repF_rev (fs := fs) (r1.ext e2) RepF.nil).ext e⟩⟩
    exact q1.to B (e2.trans ex) r
  · exact q1.elim
theorem pm_xfld {cs : List Nat} {f : Str} {m : M T} (hc : ∀ c ∈ cs, XfC X.K (ad.fn c)) (hn : ∀ c ∈ cs, PySem.W.findIn X.K (.ref (ad.fn c)) f = some none) (h : PM X ad W e m) (hb : attributeBase e f X.env (eval e X.env) = eval e X.env := by rfl) : PM X ad W (.Attribute e f pos) (mXFld cs f m) :=
  peW (pe_xv h hb) fun σ H Q ⟨hd, ρ, as, st, A, E, q⟩ => ⟨hd, ρ, as, st, A, E, Post.step q fun x st1 as1 H1 vx A1 e1 r1 q1 => by
    split at q1
    · rename_i i c fs ei
      split at q1
      · rename_i hm
        split at q1
        · rename_i t et
          obtain ⟨a, rfl, ea, d, h1, h | ⟨dx, gs, rfl, h2, h3, h4⟩⟩ := r1.exn A1 ei
          · rw [h.2] at et; cases et
          · obtain ⟨v, h8, h9⟩ := h4.getE et
            have hm' : c ∈ cs := List.contains_iff_mem.mp hm
            exact ⟨a, _, dx, gs, v, rfl, h1, hc c hm', hn c hm', h2, h8, Post.at A1 h9 q1⟩
        · exact q1.elim
      · exact q1.elim
    · exact q1.elim⟩
theorem cm_isiV {cs js : List Nat} {sub : Nat → Nat → Bool} (C : ∀ c ∈ cs, ExcC X.K (ad.fn c)) (hs : ∀ c ∈ cs, ∀ j ∈ js, PySem.W.kitOne X.K (.ref (ad.fn c)) (.ref (ad.fn j)) = some (sub c j)) (hE : ∀ c ∈ cs, PySem.W.kitOne X.K (.ref (ad.fn c)) (.type "Exception") = some true) : CallMA X ad (.builtin "isinstance") (fIsiV cs js sub) := by
  refine ⟨_, call_isV, fun hd as st H xs ts Q W A r q => ?_⟩
  have dic : ∀ {a : Addr} {d : Option Addr} {c : Nat} {fs : List (Str × T)}, ((d = none ∧ fs = []) ∨ ∃ dx gs, d = some dx ∧ H dx = some (.xd gs) ∧ (dx ∈ as → False) ∧ RepF X.K (ad.hide hd) as H gs fs) → (d = none ∨ ∃ dd fs, d = some dd ∧ H dd = some (.xd fs)) := by
    rintro a d c fs (h | ⟨dx, gs, h, h2, _⟩)
    · exact .inl h.1
    · exact .inr ⟨dx, gs, h, h2⟩
  unfold fIsiV at q
  split at q
  · rename_i t j
    obtain ⟨v, w, rfl, rv, rw⟩ := r.two
    obtain rfl := rw.adrI
    split at q
    · rename_i i c fs e
      split at q
      · rename_i hi
        rw [Bool.and_eq_true] at hi
        obtain ⟨a, rfl, ea, d, h1, h2⟩ := rv.exn A e
        have hc : c ∈ cs := List.contains_iff_mem.mp hi.1
        exact ⟨a, _, d, _, _, _, rfl, h1, dic (a := a) (c := c) h2, C c hc, fun u hu => (by cases hu; rfl), hs c hc j (List.contains_iff_mem.mp hi.2), Post.at A (.bl _) q⟩
      · exact q.elim
    · exact q.elim
  · rename_i t n
    obtain ⟨v, w, rfl, rv, rw⟩ := r.two
    obtain rfl : w = .ty n := by cases rw; rfl
    split at q
    · rename_i i c fs e
      split at q
      · rename_i hi
        rw [Bool.and_eq_true] at hi
        obtain rfl : n = "Exception" := by simpa using hi.2
        obtain ⟨a, rfl, ea, d, h1, h2⟩ := rv.exn A e
        have hc : c ∈ cs := List.contains_iff_mem.mp hi.1
        exact ⟨a, _, d, _, _, _, rfl, h1, dic (a := a) (c := c) h2, C c hc, fun u hu => (by cases hu; rfl), hE c hc, Post.at A (.bl _) q⟩
      · exact q.elim
    · exact q.elim
  · exact q.elim
end
def excVB (K : PySem.W.Frag) (C : Addr) : Bool :=
  decide (PySem.W.findIn K (.ref C) "__getattribute__" = some (some (.builtin "BaseException.__getattribute__"))) && decide (PySem.W.findIn K (.ref C) "__getattr__" = some none) && decide (PySem.W.subIn K (.ref C) (.type "BaseException") = some true) && PySem.W.hasDictIn K C &&
  decide (PySem.W.findIn K (.ref C) "__class__" = some (some (.builtin "object.__class__"))) && decide (PySem.W.specialIn K (.builtin "object.__class__") "__get__" = some (some (.builtin "getset_descriptor.__get__"))) && decide (PySem.W.takesIn K (.builtin "object.__class__") = some true) && decide (PySem.W.mroIn K C (.type "object") = some true)
theorem excVB_ok {K : PySem.W.Frag} {C : Addr} (h : excVB K C = true) : ExcC K C ∧ XfC K C := by
  unfold excVB at h
  simp only [Bool.and_eq_true, decide_eq_true_eq] at h
  obtain ⟨⟨⟨⟨⟨⟨⟨h1, h2⟩, h3⟩, h4⟩, h5⟩, h6⟩, h7⟩, h8⟩ := h
  exact ⟨⟨h1, h2, h3, h4, h5, h6, h7, h8⟩, ⟨h1, h2, h3, h4⟩⟩
def excXB (K : PySem.W.Frag) (C : Addr) : Bool :=
  PySem.W.excIn K C excTail "Exception.__new__" && PySem.W.keepIn K (.ref C) && decide (PySem.W.subIn K (.ref C) (.type "BaseException") = some true) && decide (PySem.W.typeIn K (.ref C) = some (.type "type"))
theorem excXB_ok {K : PySem.W.Frag} {mg : Str → Option Value} {x : Str} {C : Addr} (hg : mg x = some (.ref C)) (h : excXB K C = true) : ExcX K mg x C := by
  unfold excXB at h
  simp only [Bool.and_eq_true, decide_eq_true_eq] at h
  obtain ⟨⟨⟨h1, h2⟩, h3⟩, h4⟩ := h
  exact ⟨h1, hg, h2, h3, h4⟩
def kvB (K : PySem.W.Frag) (fn : Nat → Addr) (cs js : List Nat) (sub : Nat → Nat → Bool) : Bool := cs.all fun c => js.all fun j => decide (PySem.W.kitOne K (.ref (fn c)) (.ref (fn j)) = some (sub c j))
theorem kvB_ok {K : PySem.W.Frag} {fn : Nat → Addr} {cs js : List Nat} {sub : Nat → Nat → Bool} (h : kvB K fn cs js sub = true) : ∀ c ∈ cs, ∀ j ∈ js, PySem.W.kitOne K (.ref (fn c)) (.ref (fn j)) = some (sub c j) := fun c hc j hj => by
  unfold kvB at h
  rw [List.all_eq_true] at h
  have := h c hc
  rw [List.all_eq_true] at this
  exact of_decide_eq_true (this j hj)
def keB (K : PySem.W.Frag) (fn : Nat → Addr) (cs : List Nat) : Bool := cs.all fun c => decide (PySem.W.kitOne K (.ref (fn c)) (.type "Exception") = some true)
theorem keB_ok {K : PySem.W.Frag} {fn : Nat → Addr} {cs : List Nat} (h : keB K fn cs = true) : ∀ c ∈ cs, PySem.W.kitOne K (.ref (fn c)) (.type "Exception") = some true := fun c hc => by
  unfold keB at h
  rw [List.all_eq_true] at h
  exact of_decide_eq_true (h c hc)
def subV (b : Nat) (c j : Nat) : Bool := j == c || j == b
section
variable {ρ : Sl} {y0 : Option T} {st : Sto} {Q : T → Sto → Prop} {E : Exn → Sto → Prop}
@[simp] theorem Ok_mkX (c : Nat) : Ok (mMkX c (y0 :: ρ) st) Q E ↔ Q (.ref st.length) (st ++ [.exn c []]) := Iff.rfl
end
end Mi
namespace Ga
open PySem L2 Mi
def top (i : Nat) : Stmt := PySem.Challenge.pw_forklots_k26_exceptions_made.main.body.getD i (.Pass ⟨0, 0, 0, 0⟩)
inductive Fn where
  | L_kinds
  | law
abbrev CF := Fn → List T → Sto → R T
def nm : Fn → Str
  | .L_kinds => "_law_kinds"
  | .law => "law"
def qn : Fn → Str
  | .L_kinds => "_law_kinds"
  | .law => "law"
def isM : Fn → Bool
  | .L_kinds => false
  | .law => false
def sf : Fn → Stmt
  | .L_kinds => top 30
  | .law => top 31
def ps : Fn → List Str
  | .L_kinds => ["_law_why"]
  | .law => ["_law_script"]
abbrev theFile : Str := PySem.Challenge.pw_forklots_k26_exceptions_made.main.file
structure PF (P : Program) : Prop where
  file : P.main.file = theFile
  top : (P.main.scope.names.lookup ("super" : Str)).isSome = false
def ar : Fn → Nat
  | .L_kinds => 1
  | .law => 1
abbrev evL : List Nat := [105, 104, 103, 102, 101, 110, 109, 108, 107, 106, 115, 114, 113, 112, 111, 120, 119, 118, 117, 116, 124, 123, 122, 121, 127, 126, 125]
abbrev evQ : List Nat := [127, 124, 115, 105, 122, 100, 102, 108, 114, 106, 103, 107, 104, 111, 112, 109, 110, 101, 113, 119, 123, 116, 120, 121, 126, 117, 118, 125]
def b_L_kinds (cf : CF) : SM := (sCons (sAsg (mLst (mCons (mApp (fIsiV evL evQ (subV 100)) (mCons (mVar 0) (mCons (mAdr 115) mNil))) (mCons (mApp (fIsiV evL evQ (subV 100)) (mCons (mVar 0) (mCons (mAdr 124) mNil))) (mCons (mApp (fIsiV evL evQ (subV 100)) (mCons (mVar 0) (mCons (mAdr 127) mNil))) mNil)))) (gSet 1))
  (sCons (sAsg (mBin opAdd (mVar 1) (mLst (mCons (mApp (fIsiV evL evQ (subV 100)) (mCons (mVar 0) (mCons (mAdr 100) mNil))) (mCons (mApp (fIsiV evL evQ (subV 100)) (mCons (mVar 0) (mCons (mAdr 122) mNil))) (mCons (mApp (fIsiV evL evQ (subV 100)) (mCons (mVar 0) (mCons (mAdr 105) mNil))) mNil))))) (gSet 1))
  (sCons (sAsg (mBin opAdd (mVar 1) (mLst (mCons (mApp (fIsiV evL evQ (subV 100)) (mCons (mVar 0) (mCons (mAdr 114) mNil))) (mCons (mApp (fIsiV evL evQ (subV 100)) (mCons (mVar 0) (mCons (mAdr 108) mNil))) (mCons (mApp (fIsiV evL evQ (subV 100)) (mCons (mVar 0) (mCons (mAdr 102) mNil))) mNil))))) (gSet 1))
  (sCons (sAsg (mBin opAdd (mVar 1) (mLst (mCons (mApp (fIsiV evL evQ (subV 100)) (mCons (mVar 0) (mCons (mAdr 107) mNil))) (mCons (mApp (fIsiV evL evQ (subV 100)) (mCons (mVar 0) (mCons (mAdr 103) mNil))) (mCons (mApp (fIsiV evL evQ (subV 100)) (mCons (mVar 0) (mCons (mAdr 106) mNil))) mNil))))) (gSet 1))
  (sCons (sAsg (mBin opAdd (mVar 1) (mLst (mCons (mApp (fIsiV evL evQ (subV 100)) (mCons (mVar 0) (mCons (mAdr 112) mNil))) (mCons (mApp (fIsiV evL evQ (subV 100)) (mCons (mVar 0) (mCons (mAdr 111) mNil))) (mCons (mApp (fIsiV evL evQ (subV 100)) (mCons (mVar 0) (mCons (mAdr 104) mNil))) mNil))))) (gSet 1))
  (sCons (sAsg (mBin opAdd (mVar 1) (mLst (mCons (mApp (fIsiV evL evQ (subV 100)) (mCons (mVar 0) (mCons (mAdr 101) mNil))) (mCons (mApp (fIsiV evL evQ (subV 100)) (mCons (mVar 0) (mCons (mAdr 110) mNil))) (mCons (mApp (fIsiV evL evQ (subV 100)) (mCons (mVar 0) (mCons (mAdr 109) mNil))) mNil))))) (gSet 1))
  (sCons (sAsg (mBin opAdd (mVar 1) (mLst (mCons (mApp (fIsiV evL evQ (subV 100)) (mCons (mVar 0) (mCons (mAdr 123) mNil))) (mCons (mApp (fIsiV evL evQ (subV 100)) (mCons (mVar 0) (mCons (mAdr 119) mNil))) (mCons (mApp (fIsiV evL evQ (subV 100)) (mCons (mVar 0) (mCons (mAdr 113) mNil))) mNil))))) (gSet 1))
  (sCons (sAsg (mBin opAdd (mVar 1) (mLst (mCons (mApp (fIsiV evL evQ (subV 100)) (mCons (mVar 0) (mCons (mAdr 121) mNil))) (mCons (mApp (fIsiV evL evQ (subV 100)) (mCons (mVar 0) (mCons (mAdr 120) mNil))) (mCons (mApp (fIsiV evL evQ (subV 100)) (mCons (mVar 0) (mCons (mAdr 116) mNil))) mNil))))) (gSet 1))
  (sCons (sAsg (mBin opAdd (mVar 1) (mLst (mCons (mApp (fIsiV evL evQ (subV 100)) (mCons (mVar 0) (mCons (mAdr 118) mNil))) (mCons (mApp (fIsiV evL evQ (subV 100)) (mCons (mVar 0) (mCons (mAdr 117) mNil))) (mCons (mApp (fIsiV evL evQ (subV 100)) (mCons (mVar 0) (mCons (mAdr 126) mNil))) mNil))))) (gSet 1))
  (sCons (sAsg (mBin opAdd (mVar 1) (mLst (mCons (mApp (fIsiV evL evQ (subV 100)) (mCons (mVar 0) (mCons (mAdr 125) mNil))) mNil))) (gSet 1))
  (sCons (sRet (mVar 1))
  sNil)))))))))))
def w_law_0 (cf : CF) : SM := (sCons (sIf (mTOr (mTNot (mTest (mApp (fIsiV evL evQ (subV 100)) (mCons (mVar 3) (mCons (mC (.ty "Exception")) mNil))))) (mTest (mBin (opEqB true) (mMeth "list" fCountD (mCall 1 (cf .L_kinds) (mCons (mVar 3) mNil)) (mCons (mC (.bl true)) mNil)) (mC (.int 2))))) (sCons (sRet (mC (.bl false)))
      sNil) sNil)
    (sCons (sIf (mTest (mBin (opEqB true) (mLc (mIt (mSl (mVar 1) mNoPart (mPart (mVar 2)))) (tgN 4) (mTest (mBin (opEqB false) (mCall 1 (cf .L_kinds) (mCons (mVar 4) mNil)) (mCall 1 (cf .L_kinds) (mCons (mVar 3) mNil)))) (mC (.int 1)) [4]) (mLst mNil))) (sCons (sRet (mC (.bl false)))
      sNil) sNil)
    sNil))
def w_law_1 (cf : CF) : SM := (sCons (sAsg (mIte (mTest (mBin opLt (mVar 5) (mApp fLen (mCons (mVar 0) mNil)))) (mBin opMod (mApp fInt (mCons (mBin opIx (mVar 0) (mVar 5)) mNil)) (mBin opPow (mC (.int 10)) (mC (.int 12)))) (mC (.int 5))) (gSet 6))
    (sCons (sIf (mTest (mBin (opEqB true) (mLst (mCons (mXFld [125] "amount" (mMkF 125 ["amount", "limit"] (mCons (mVar 6) (mCons (mC (.int 0)) mNil)))) (mCons (mXFld [126] "index" (mMkF 126 ["order", "index"] (mCons (mTup mNil) (mCons (mVar 6) mNil)))) (mCons (mXFld [125] "limit" (mMkF 125 ["amount", "limit"] (mCons (mC (.int 0)) (mCons (mVar 6) mNil)))) mNil)))) (mBin opMul (mLst (mCons (mVar 6) mNil)) (mC (.int 3))))) (sCons (sRet (mC (.bl false)))
      sNil) sNil)
    sNil))
def b_law (cf : CF) : SM := (sCons (sAsg (mLst mNil) (gSet 1))
  (sCons (sAsg (mBin opAdd (mVar 1) (mLst (mCons (mMkX 101) (mCons (mMkX 102) (mCons (mMkX 103) (mCons (mMkX 104) (mCons (mMkX 105) mNil))))))) (gSet 1))
  (sCons (sAsg (mBin opAdd (mVar 1) (mLst (mCons (mMkX 106) (mCons (mMkX 107) (mCons (mMkX 108) (mCons (mMkX 109) (mCons (mMkX 110) mNil))))))) (gSet 1))
  (sCons (sAsg (mBin opAdd (mVar 1) (mLst (mCons (mMkX 111) (mCons (mMkX 112) (mCons (mMkX 113) (mCons (mMkX 114) (mCons (mMkX 115) mNil))))))) (gSet 1))
  (sCons (sAsg (mBin opAdd (mVar 1) (mLst (mCons (mMkX 116) (mCons (mMkX 117) (mCons (mMkX 118) (mCons (mMkX 119) (mCons (mMkX 120) mNil))))))) (gSet 1))
  (sCons (sAsg (mBin opAdd (mVar 1) (mLst (mCons (mMkX 121) (mCons (mMkX 122) (mCons (mMkX 123) (mCons (mMkX 124) mNil)))))) (gSet 1))
  (sCons (sAsg (mBin opAdd (mVar 1) (mLst (mCons (mMkF 125 ["amount", "limit"] (mCons (mC (.int 9)) (mCons (mC (.int 8)) mNil))) (mCons (mMkF 126 ["order", "index"] (mCons (mTup (mCons (mC (.int 1)) (mCons (mC (.int 0)) mNil))) (mCons (mC (.int 0)) mNil))) (mCons (mMkF 127 ["steps"] (mCons (mTup (mCons (mC (.int 0)) (mCons (mUn opNeg (mC (.int 1))) (mCons (mC (.int 0)) mNil)))) mNil)) mNil))))) (gSet 1))
  (sCons (sFor (mEnum (mCons (mVar 1) mNil)) (gTupM 2 (gsCons (gSet 2) (gsCons (gSet 3) gsNil))) (w_law_0 cf))
  (sCons (sIf (mTest (mBin (opEqB true) (mLst (mCons (mXFld [125] "amount" (mBin opIx (mVar 1) (mUn opNeg (mC (.int 3))))) (mCons (mXFld [125] "limit" (mBin opIx (mVar 1) (mUn opNeg (mC (.int 3))))) (mCons (mXFld [127] "steps" (mBin opIx (mVar 1) (mUn opNeg (mC (.int 1))))) mNil)))) (mLst (mCons (mC (.int 9)) (mCons (mC (.int 8)) (mCons (mTup (mCons (mC (.int 0)) (mCons (mUn opNeg (mC (.int 1))) (mCons (mC (.int 0)) mNil)))) mNil)))))) (sCons (sRet (mC (.bl false)))
    sNil) sNil)
  (sCons (sIf (mTest (mBin (opEqB true) (mLst (mCons (mXFld [126] "order" (mBin opIx (mVar 1) (mUn opNeg (mC (.int 2))))) (mCons (mXFld [126] "index" (mBin opIx (mVar 1) (mUn opNeg (mC (.int 2))))) mNil))) (mLst (mCons (mTup (mCons (mC (.int 1)) (mCons (mC (.int 0)) mNil))) (mCons (mC (.int 0)) mNil))))) (sCons (sRet (mC (.bl false)))
    sNil) sNil)
  (sCons (sFor (mRng itRng1 (mCons (mApp fMax2 (mCons (mC (.int 1)) (mCons (mApp fMin2 (mCons (mApp fLen (mCons (mVar 0) mNil)) (mCons (mC (.int 3)) mNil))) mNil))) mNil)) (gSet 5) (w_law_1 cf))
  (sCons (sRet (mC (.bl true)))
  sNil))))))))))))
def stepF (cf : CF) : CF
  | .L_kinds => runF 2 (b_L_kinds cf)
  | .law => runF 7 (b_law cf)
def callF : Nat → CF
  | 0 => fun _ _ _ => .bad
  | k + 1 => stepF (callF k)
theorem run_law (k : Nat) : callF (k + 1) .law = runF 7 (b_law (callF k)) := rfl
end Ga
namespace Ga
open PySem L2 Mi
theorem run2 {m : SM} {ρ ρ' : Sl} {st st' : Sto} {q : SM} (h : m ρ st = .nx ρ' st') : sCons m q ρ st = q ρ' st' := by
  show (match m ρ st with | .nx ρ1 st1 => q ρ1 st1 | x => x : RS) = _
  rw [h]
def rfs (n : Nat) : T := .lst ((List.range n).map fun i => T.ref i)
def stX (n : Nat) : Sto := (List.range n).map fun i => O.exn (101 + i) []
def st27 : Sto := stX 24 ++ [.exn 125 [("limit", .int 8), ("amount", .int 9)], .exn 126 [("index", .int 0), ("order", .tup [.int 1, .int 0])], .exn 127 [("steps", .tup [.int 0, .int (-1), .int 0])]]
abbrev rh (x : T) (n : Nat) : Sl := [some x, some (rfs n), none, none, none, none, none]
abbrev r27 (x : T) : Sl := [some x, some (rfs 27), some (.int 26), some (.ref 26), none, none, none]
@[irreducible] def restL (cf : CF) : SM := (sCons (sFor (mRng itRng1 (mCons (mApp fMax2 (mCons (mC (.int 1)) (mCons (mApp fMin2 (mCons (mApp fLen (mCons (mVar 0) mNil)) (mCons (mC (.int 3)) mNil))) mNil))) mNil)) (gSet 5) (w_law_1 cf))
  (sCons (sRet (mC (.bl true)))
  sNil))
set_option maxHeartbeats 0 in
theorem loop_eq (x : T) : sFor (mEnum (mCons (mVar 1) mNil)) (gTupM 2 (gsCons (gSet 2) (gsCons (gSet 3) gsNil))) (w_law_0 (callF 19)) (rh x 27) st27 = .nx (r27 x) st27 := by kernel_rfl
theorem pre_eq (x : T) : b_law (callF 19) [some x, none, none, none, none, none, none] [] = restL (callF 19) (r27 x) st27 := by
  unfold b_law restL
  refine (run2 (ρ' := rh x 0) (st' := []) (by kernel_rfl)).trans ?_
  refine (run2 (ρ' := rh x 5) (st' := stX 5) (by kernel_rfl)).trans ?_
  refine (run2 (ρ' := rh x 10) (st' := stX 10) (by kernel_rfl)).trans ?_
  refine (run2 (ρ' := rh x 15) (st' := stX 15) (by kernel_rfl)).trans ?_
  refine (run2 (ρ' := rh x 20) (st' := stX 20) (by kernel_rfl)).trans ?_
  refine (run2 (ρ' := rh x 24) (st' := stX 24) (by kernel_rfl)).trans ?_
  refine (run2 (ρ' := rh x 27) (st' := st27) (by kernel_rfl)).trans ?_
  refine (run2 (ρ' := r27 x) (st' := st27) (loop_eq x)).trans ?_
  refine (run2 (ρ' := r27 x) (st' := st27) (by kernel_rfl)).trans ?_
  exact run2 (ρ' := r27 x) (st' := st27) (by kernel_rfl)
theorem num_ok (ns : List Int) (j : Nat) (y1 y2 y3 y4 : Option T) (y6 : Option T) (st : Sto) : ∃ v : Int, mIte (mTest (mBin opLt (mVar 5) (mApp fLen (mCons (mVar 0) mNil)))) (mBin opMod (mApp fInt (mCons (mBin opIx (mVar 0) (mVar 5)) mNil)) (mBin opPow (mC (.int 10)) (mC (.int 12)))) (mC (.int 5)) [some (.frz (ns.map T.int)), y1, y2, y3, y4, some (.int (j : Nat)), y6] st = .ok (.int v) st := by
  by_cases h : j < ns.length
  · refine ⟨ns[j] % 1000000000000, ?_⟩
    apply Ok.eq
    simp [fLen, seqR, lstR, opLt, h]
    rw [Ok_ixL _ (ts := ns.map T.int) rfl]
    refine ⟨.int ns[j], atI_nat (by simp [h]), ?_⟩
    simp [fInt]
  · refine ⟨5, ?_⟩
    apply Ok.eq
    simp [fLen, seqR, lstR, opLt, h]
theorem three_ok (v : Int) (x : Option T) (j : Option T) (st : Sto) : (mTest (mBin (opEqB true) (mLst (mCons (mXFld [125] "amount" (mMkF 125 ["amount", "limit"] (mCons (mVar 6) (mCons (mC (.int 0)) mNil)))) (mCons (mXFld [126] "index" (mMkF 126 ["order", "index"] (mCons (mTup mNil) (mCons (mVar 6) mNil)))) (mCons (mXFld [125] "limit" (mMkF 125 ["amount", "limit"] (mCons (mC (.int 0)) (mCons (mVar 6) mNil)))) mNil)))) (mBin opMul (mLst (mCons (mVar 6) mNil)) (mC (.int 3))))) [x, some (rfs 27), some (.int 26), some (.ref 26), none, j, some (.int v)] st = .ok false (st ++ [.exn 125 [("limit", .int 0), ("amount", .int v)]] ++ [.exn 126 [("index", .int v), ("order", .tup [])]] ++ [.exn 125 [("limit", .int v), ("amount", .int 0)]]) := by
  apply Ok.eq
  have e1 : (("amount" : Str) == "limit") = false := by decide
  have e2 : (("limit" : Str) == "limit") = true := by decide
  have e3 : (("index" : Str) == "index") = true := by decide
  simp [mXFld, mMkF, exnAt, List.lookup, e1, e2, e3, opMul, sizeLine_eq]
  simp [lstD]
  rw [Ok_ne rfl rfl]
  simp [now, T.eqv, T.eqvs]
theorem last_ok (ns : List Int) (hl : ns.length ≤ 63) : OkS (restL (callF 19) (r27 (.frz (ns.map T.int))) st27) (fun _ _ => False) (fun t _ => t = .bl true) (fun _ _ => False) (fun _ _ => False) (fun e _ st => noE e st) := by
  unfold restL
  rw [OkS_cons]
  simp [-OkS_cons, fLen, seqR, lstR, fMin2, fMax2]
  refine ⟨by split <;> split <;> omega, ?_⟩
  refine for_rec (fun rest ρ st => (∃ y6 y5, ρ = [some (.frz (ns.map T.int)), some (rfs 27), some (.int 26), some (.ref 26), none, y5, y6]) ∧ ∀ t ∈ rest, ∃ j : Nat, t = .int (j : Nat)) ⟨⟨_, _, rfl⟩, ?_⟩ ?_ ?_
  · intro t ht
    unfold rgT at ht
    obtain ⟨j, _, rfl⟩ := List.mem_map.mp ht
    exact ⟨j, by simp⟩
  · rintro t rest ρ st ⟨⟨y6, y5, rfl⟩, hj⟩
    obtain ⟨j, rfl⟩ := hj _ (List.mem_cons_self ..)
    have hrest : ∀ t ∈ rest, ∃ j : Nat, t = .int (j : Nat) := fun t ht => hj t (List.mem_cons_of_mem _ ht)
    simp only [Ok_gSet, List.set_cons_succ, List.set_cons_zero]
    unfold w_law_1
    rw [OkS_cons]
    obtain ⟨v, ev⟩ := num_ok ns j (some (rfs 27)) (some (.int 26)) (some (.ref 26)) none y6 st
    rw [OkS_asg, ev, Ok_ok]
    simp only [Ok_gSet, List.set_cons_succ, List.set_cons_zero]
    rw [OkS_cons, OkS_if, three_ok v _ _ st, Ok_ok]
    simp
    exact hrest
  · rintro ρ st ⟨⟨y6, y5, rfl⟩, -⟩
    simp
theorem lt3 (ns : List Int) (hl : ns.length ≤ 63) : ∃ st, runF 7 (b_law (callF 19)) [.frz (ns.map T.int)] [] = .ok (.bl true) st := by
  unfold runF
  have e : (List.map some [T.frz (ns.map T.int)] ++ List.replicate (7 - [T.frz (ns.map T.int)].length) none : Sl) = [some (T.frz (ns.map T.int)), none, none, none, none, none, none] := rfl
  rw [e, pre_eq]
  have h := last_ok ns hl
  revert h
  generalize restL (callF 19) (r27 (.frz (ns.map T.int))) st27 = r
  intro h
  cases r with
  | nx ρ st => exact h.elim
  | rt t st => exact ⟨st, by rw [show t = .bl true from h]⟩
  | bk ρ st => exact h.elim
  | ct ρ st => exact h.elim
  | ex e ρ st => exact h.elim
  | bad => exact h.elim
theorem law_true : ∀ ns : List Int, ns.length ≤ 63 → ∃ st, callF 20 .law [.frz (ns.map T.int)] [] = .ok (.bl true) st := fun ns hl => by
  rw [run_law]
  exact lt3 ns hl
end Ga
namespace Ga
open PySem L2 Mi
structure Tx (K : PySem.W.Frag) (mg : Str → Option Value) (ad : Ad) (fa : Fn → Addr) (fd : Fn → FuncData) : Prop where
  fu : ∀ f, FunA K (nm f) (qn f) (sf f) (fa f) (fd f)
  mgs : ∀ f, isM f = false → mg (nm f) = some (.ref (fa f))
  bi : ∀ f, Binds K (fd f) (ps f) []
  z_isinstance : mg "isinstance" = none
  z_super : mg "super" = none
  z_enumerate : mg "enumerate" = none
  z_Exception : mg "Exception" = none
  z_len : mg "len" = none
  z_min : mg "min" = none
  z_max : mg "max" = none
  z_range : mg "range" = none
  z_int : mg "int" = none
  vg_InvalidRecord : mg "InvalidRecord" = some (.ref (ad.fn 105))
  vg_InvalidOrder : mg "InvalidOrder" = some (.ref (ad.fn 104))
  vg_InvalidKey : mg "InvalidKey" = some (.ref (ad.fn 103))
  vg_InvalidOperation : mg "InvalidOperation" = some (.ref (ad.fn 102))
  vg_InvalidPlan : mg "InvalidPlan" = some (.ref (ad.fn 101))
  vg_TooComplex : mg "TooComplex" = some (.ref (ad.fn 110))
  vg_InvalidAddresses : mg "InvalidAddresses" = some (.ref (ad.fn 109))
  vg_InvalidTrace : mg "InvalidTrace" = some (.ref (ad.fn 108))
  vg_NotADraw : mg "NotADraw" = some (.ref (ad.fn 107))
  vg_InvalidPosition : mg "InvalidPosition" = some (.ref (ad.fn 106))
  vg_DifferentStreams : mg "DifferentStreams" = some (.ref (ad.fn 115))
  vg_InvalidCode : mg "InvalidCode" = some (.ref (ad.fn 114))
  vg_InvalidUse : mg "InvalidUse" = some (.ref (ad.fn 113))
  vg_InvalidName : mg "InvalidName" = some (.ref (ad.fn 112))
  vg_InvalidNumber : mg "InvalidNumber" = some (.ref (ad.fn 111))
  vg_CannotAbort : mg "CannotAbort" = some (.ref (ad.fn 120))
  vg_InvalidRetry : mg "InvalidRetry" = some (.ref (ad.fn 119))
  vg_UnsafePlan : mg "UnsafePlan" = some (.ref (ad.fn 118))
  vg_NothingToUndo : mg "NothingToUndo" = some (.ref (ad.fn 117))
  vg_NotReady : mg "NotReady" = some (.ref (ad.fn 116))
  vg_InvalidCommand : mg "InvalidCommand" = some (.ref (ad.fn 124))
  vg_InvalidText : mg "InvalidText" = some (.ref (ad.fn 123))
  vg_TargetMissed : mg "TargetMissed" = some (.ref (ad.fn 122))
  vg_Unreachable : mg "Unreachable" = some (.ref (ad.fn 121))
  vg_AbortConflict : mg "AbortConflict" = some (.ref (ad.fn 127))
  vg_OrderConflict : mg "OrderConflict" = some (.ref (ad.fn 126))
  vg_TooMany : mg "TooMany" = some (.ref (ad.fn 125))
  vg_ForklotsError : mg "ForklotsError" = some (.ref (ad.fn 100))
  vt_InvalidRecord : ExcX K mg "InvalidRecord" (ad.fn 105)
  vt_InvalidOrder : ExcX K mg "InvalidOrder" (ad.fn 104)
  vt_InvalidKey : ExcX K mg "InvalidKey" (ad.fn 103)
  vt_InvalidOperation : ExcX K mg "InvalidOperation" (ad.fn 102)
  vt_InvalidPlan : ExcX K mg "InvalidPlan" (ad.fn 101)
  vt_TooComplex : ExcX K mg "TooComplex" (ad.fn 110)
  vt_InvalidAddresses : ExcX K mg "InvalidAddresses" (ad.fn 109)
  vt_InvalidTrace : ExcX K mg "InvalidTrace" (ad.fn 108)
  vt_NotADraw : ExcX K mg "NotADraw" (ad.fn 107)
  vt_InvalidPosition : ExcX K mg "InvalidPosition" (ad.fn 106)
  vt_DifferentStreams : ExcX K mg "DifferentStreams" (ad.fn 115)
  vt_InvalidCode : ExcX K mg "InvalidCode" (ad.fn 114)
  vt_InvalidUse : ExcX K mg "InvalidUse" (ad.fn 113)
  vt_InvalidName : ExcX K mg "InvalidName" (ad.fn 112)
  vt_InvalidNumber : ExcX K mg "InvalidNumber" (ad.fn 111)
  vt_CannotAbort : ExcX K mg "CannotAbort" (ad.fn 120)
  vt_InvalidRetry : ExcX K mg "InvalidRetry" (ad.fn 119)
  vt_UnsafePlan : ExcX K mg "UnsafePlan" (ad.fn 118)
  vt_NothingToUndo : ExcX K mg "NothingToUndo" (ad.fn 117)
  vt_NotReady : ExcX K mg "NotReady" (ad.fn 116)
  vt_InvalidCommand : ExcX K mg "InvalidCommand" (ad.fn 124)
  vt_InvalidText : ExcX K mg "InvalidText" (ad.fn 123)
  vt_TargetMissed : ExcX K mg "TargetMissed" (ad.fn 122)
  vt_Unreachable : ExcX K mg "Unreachable" (ad.fn 121)
  vf_AbortConflict : ∃ fI fd, ExcF K (ad.fn 127) fI ["steps"] ∧ InitD K theFile (ad.fn 127) fI fd "self" ["steps"]
  vf_OrderConflict : ∃ fI fd, ExcF K (ad.fn 126) fI ["order", "index"] ∧ InitD K theFile (ad.fn 126) fI fd "self" ["order", "index"]
  vf_TooMany : ∃ fI fd, ExcF K (ad.fn 125) fI ["amount", "limit"] ∧ InitD K theFile (ad.fn 125) fI fd "self" ["amount", "limit"]
  vx : ∀ c ∈ evL, ExcC K (ad.fn c) ∧ XfC K (ad.fn c)
  vk : ∀ c ∈ evL, ∀ j ∈ evQ, PySem.W.kitOne K (.ref (ad.fn c)) (.ref (ad.fn j)) = some (subV 100 c j)
  ve : ∀ c ∈ evL, PySem.W.kitOne K (.ref (ad.fn c)) (.type "Exception") = some true
  vn_AbortConflict_steps : PySem.W.findIn K (.ref (ad.fn 127)) "steps" = some none
  vn_TooMany_limit : PySem.W.findIn K (.ref (ad.fn 125)) "limit" = some none
  vn_TooMany_amount : PySem.W.findIn K (.ref (ad.fn 125)) "amount" = some none
  vn_OrderConflict_index : PySem.W.findIn K (.ref (ad.fn 126)) "index" = some none
  vn_OrderConflict_order : PySem.W.findIn K (.ref (ad.fn 126)) "order" = some none
section
variable {P : Program} {w : World} {K : PySem.W.Frag} {mg : Str → Option Value} {base : Heap} {ad : Ad} {fa : Fn → Addr} {fd : Fn → FuncData} {k : Nat} {cf : CF}
abbrev AllG (P : Program) (w : World) (K : PySem.W.Frag) (mg : Str → Option Value) (base : Heap) (ad : Ad) (fa : Fn → Addr) (fd : Fn → FuncData) (k : Nat) (cf : CF) : Prop := ∀ f, GnOk P w K mg base k (fa f) (fd f) (ps f) (spF K ad (ar f) (cf f))
theorem sc_L_kinds : FnScope ["_law_why", "_law_found"] (ps .L_kinds) (defScope (sf .L_kinds)) := ⟨rfl, rfl, rfl, by decide +kernel, rfl, by decide +kernel, by decide +kernel⟩
set_option maxHeartbeats 4000000 in
theorem ok_L_kinds (T : Tx K mg ad fa fd) (hsm : ∃ o, base.get? sysModules = some o) (G : AllG P w K mg base ad fa fd k cf) : GnOk P w K mg base (k + 1 + 1) (fa .L_kinds) (fd .L_kinds) (ps .L_kinds) (spF K ad (ar .L_kinds) (runF 2 (b_L_kinds cf))) :=
  gn_ok (T.fu .L_kinds) sc_L_kinds hsm rfl fun cdv A outer s H E S =>
  (pms_cons (pms_set (i := 1) sc_L_kinds.nd rfl (by first | exact Or.inl rfl | exact Or.inr rfl) (pm_lst (pma_cons (pm_callBA (cm_isiV (fun c hc => (T.vx c hc).1) T.vk T.ve) rfl T.z_isinstance PyProof.Rows.boot_isinstance (pma_cons (pm_var (pv 0)) (pma_cons (pm_adr rfl T.vg_DifferentStreams) pma_nil))) (pma_cons (pm_callBA (cm_isiV (fun c hc => (T.vx c hc).1) T.vk T.ve) rfl T.z_isinstance PyProof.Rows.boot_isinstance (pma_cons (pm_var (pv 0)) (pma_cons (pm_adr rfl T.vg_InvalidCommand) pma_nil))) (pma_cons (pm_callBA (cm_isiV (fun c hc => (T.vx c hc).1) T.vk T.ve) rfl T.z_isinstance PyProof.Rows.boot_isinstance (pma_cons (pm_var (pv 0)) (pma_cons (pm_adr rfl T.vg_AbortConflict) pma_nil))) pma_nil)))))
  (pms_cons (pms_set (i := 1) sc_L_kinds.nd rfl (by first | exact Or.inl rfl | exact Or.inr rfl) (pm_bin om_add (pm_var (pv 1)) (pm_lst (pma_cons (pm_callBA (cm_isiV (fun c hc => (T.vx c hc).1) T.vk T.ve) rfl T.z_isinstance PyProof.Rows.boot_isinstance (pma_cons (pm_var (pv 0)) (pma_cons (pm_adr rfl T.vg_ForklotsError) pma_nil))) (pma_cons (pm_callBA (cm_isiV (fun c hc => (T.vx c hc).1) T.vk T.ve) rfl T.z_isinstance PyProof.Rows.boot_isinstance (pma_cons (pm_var (pv 0)) (pma_cons (pm_adr rfl T.vg_TargetMissed) pma_nil))) (pma_cons (pm_callBA (cm_isiV (fun c hc => (T.vx c hc).1) T.vk T.ve) rfl T.z_isinstance PyProof.Rows.boot_isinstance (pma_cons (pm_var (pv 0)) (pma_cons (pm_adr rfl T.vg_InvalidRecord) pma_nil))) pma_nil))))))
  (pms_cons (pms_set (i := 1) sc_L_kinds.nd rfl (by first | exact Or.inl rfl | exact Or.inr rfl) (pm_bin om_add (pm_var (pv 1)) (pm_lst (pma_cons (pm_callBA (cm_isiV (fun c hc => (T.vx c hc).1) T.vk T.ve) rfl T.z_isinstance PyProof.Rows.boot_isinstance (pma_cons (pm_var (pv 0)) (pma_cons (pm_adr rfl T.vg_InvalidCode) pma_nil))) (pma_cons (pm_callBA (cm_isiV (fun c hc => (T.vx c hc).1) T.vk T.ve) rfl T.z_isinstance PyProof.Rows.boot_isinstance (pma_cons (pm_var (pv 0)) (pma_cons (pm_adr rfl T.vg_InvalidTrace) pma_nil))) (pma_cons (pm_callBA (cm_isiV (fun c hc => (T.vx c hc).1) T.vk T.ve) rfl T.z_isinstance PyProof.Rows.boot_isinstance (pma_cons (pm_var (pv 0)) (pma_cons (pm_adr rfl T.vg_InvalidOperation) pma_nil))) pma_nil))))))
  (pms_cons (pms_set (i := 1) sc_L_kinds.nd rfl (by first | exact Or.inl rfl | exact Or.inr rfl) (pm_bin om_add (pm_var (pv 1)) (pm_lst (pma_cons (pm_callBA (cm_isiV (fun c hc => (T.vx c hc).1) T.vk T.ve) rfl T.z_isinstance PyProof.Rows.boot_isinstance (pma_cons (pm_var (pv 0)) (pma_cons (pm_adr rfl T.vg_NotADraw) pma_nil))) (pma_cons (pm_callBA (cm_isiV (fun c hc => (T.vx c hc).1) T.vk T.ve) rfl T.z_isinstance PyProof.Rows.boot_isinstance (pma_cons (pm_var (pv 0)) (pma_cons (pm_adr rfl T.vg_InvalidKey) pma_nil))) (pma_cons (pm_callBA (cm_isiV (fun c hc => (T.vx c hc).1) T.vk T.ve) rfl T.z_isinstance PyProof.Rows.boot_isinstance (pma_cons (pm_var (pv 0)) (pma_cons (pm_adr rfl T.vg_InvalidPosition) pma_nil))) pma_nil))))))
  (pms_cons (pms_set (i := 1) sc_L_kinds.nd rfl (by first | exact Or.inl rfl | exact Or.inr rfl) (pm_bin om_add (pm_var (pv 1)) (pm_lst (pma_cons (pm_callBA (cm_isiV (fun c hc => (T.vx c hc).1) T.vk T.ve) rfl T.z_isinstance PyProof.Rows.boot_isinstance (pma_cons (pm_var (pv 0)) (pma_cons (pm_adr rfl T.vg_InvalidName) pma_nil))) (pma_cons (pm_callBA (cm_isiV (fun c hc => (T.vx c hc).1) T.vk T.ve) rfl T.z_isinstance PyProof.Rows.boot_isinstance (pma_cons (pm_var (pv 0)) (pma_cons (pm_adr rfl T.vg_InvalidNumber) pma_nil))) (pma_cons (pm_callBA (cm_isiV (fun c hc => (T.vx c hc).1) T.vk T.ve) rfl T.z_isinstance PyProof.Rows.boot_isinstance (pma_cons (pm_var (pv 0)) (pma_cons (pm_adr rfl T.vg_InvalidOrder) pma_nil))) pma_nil))))))
  (pms_cons (pms_set (i := 1) sc_L_kinds.nd rfl (by first | exact Or.inl rfl | exact Or.inr rfl) (pm_bin om_add (pm_var (pv 1)) (pm_lst (pma_cons (pm_callBA (cm_isiV (fun c hc => (T.vx c hc).1) T.vk T.ve) rfl T.z_isinstance PyProof.Rows.boot_isinstance (pma_cons (pm_var (pv 0)) (pma_cons (pm_adr rfl T.vg_InvalidPlan) pma_nil))) (pma_cons (pm_callBA (cm_isiV (fun c hc => (T.vx c hc).1) T.vk T.ve) rfl T.z_isinstance PyProof.Rows.boot_isinstance (pma_cons (pm_var (pv 0)) (pma_cons (pm_adr rfl T.vg_TooComplex) pma_nil))) (pma_cons (pm_callBA (cm_isiV (fun c hc => (T.vx c hc).1) T.vk T.ve) rfl T.z_isinstance PyProof.Rows.boot_isinstance (pma_cons (pm_var (pv 0)) (pma_cons (pm_adr rfl T.vg_InvalidAddresses) pma_nil))) pma_nil))))))
  (pms_cons (pms_set (i := 1) sc_L_kinds.nd rfl (by first | exact Or.inl rfl | exact Or.inr rfl) (pm_bin om_add (pm_var (pv 1)) (pm_lst (pma_cons (pm_callBA (cm_isiV (fun c hc => (T.vx c hc).1) T.vk T.ve) rfl T.z_isinstance PyProof.Rows.boot_isinstance (pma_cons (pm_var (pv 0)) (pma_cons (pm_adr rfl T.vg_InvalidText) pma_nil))) (pma_cons (pm_callBA (cm_isiV (fun c hc => (T.vx c hc).1) T.vk T.ve) rfl T.z_isinstance PyProof.Rows.boot_isinstance (pma_cons (pm_var (pv 0)) (pma_cons (pm_adr rfl T.vg_InvalidRetry) pma_nil))) (pma_cons (pm_callBA (cm_isiV (fun c hc => (T.vx c hc).1) T.vk T.ve) rfl T.z_isinstance PyProof.Rows.boot_isinstance (pma_cons (pm_var (pv 0)) (pma_cons (pm_adr rfl T.vg_InvalidUse) pma_nil))) pma_nil))))))
  (pms_cons (pms_set (i := 1) sc_L_kinds.nd rfl (by first | exact Or.inl rfl | exact Or.inr rfl) (pm_bin om_add (pm_var (pv 1)) (pm_lst (pma_cons (pm_callBA (cm_isiV (fun c hc => (T.vx c hc).1) T.vk T.ve) rfl T.z_isinstance PyProof.Rows.boot_isinstance (pma_cons (pm_var (pv 0)) (pma_cons (pm_adr rfl T.vg_Unreachable) pma_nil))) (pma_cons (pm_callBA (cm_isiV (fun c hc => (T.vx c hc).1) T.vk T.ve) rfl T.z_isinstance PyProof.Rows.boot_isinstance (pma_cons (pm_var (pv 0)) (pma_cons (pm_adr rfl T.vg_CannotAbort) pma_nil))) (pma_cons (pm_callBA (cm_isiV (fun c hc => (T.vx c hc).1) T.vk T.ve) rfl T.z_isinstance PyProof.Rows.boot_isinstance (pma_cons (pm_var (pv 0)) (pma_cons (pm_adr rfl T.vg_NotReady) pma_nil))) pma_nil))))))
  (pms_cons (pms_set (i := 1) sc_L_kinds.nd rfl (by first | exact Or.inl rfl | exact Or.inr rfl) (pm_bin om_add (pm_var (pv 1)) (pm_lst (pma_cons (pm_callBA (cm_isiV (fun c hc => (T.vx c hc).1) T.vk T.ve) rfl T.z_isinstance PyProof.Rows.boot_isinstance (pma_cons (pm_var (pv 0)) (pma_cons (pm_adr rfl T.vg_UnsafePlan) pma_nil))) (pma_cons (pm_callBA (cm_isiV (fun c hc => (T.vx c hc).1) T.vk T.ve) rfl T.z_isinstance PyProof.Rows.boot_isinstance (pma_cons (pm_var (pv 0)) (pma_cons (pm_adr rfl T.vg_NothingToUndo) pma_nil))) (pma_cons (pm_callBA (cm_isiV (fun c hc => (T.vx c hc).1) T.vk T.ve) rfl T.z_isinstance PyProof.Rows.boot_isinstance (pma_cons (pm_var (pv 0)) (pma_cons (pm_adr rfl T.vg_OrderConflict) pma_nil))) pma_nil))))))
  (pms_cons (pms_set (i := 1) sc_L_kinds.nd rfl (by first | exact Or.inl rfl | exact Or.inr rfl) (pm_bin om_add (pm_var (pv 1)) (pm_lst (pma_cons (pm_callBA (cm_isiV (fun c hc => (T.vx c hc).1) T.vk T.ve) rfl T.z_isinstance PyProof.Rows.boot_isinstance (pma_cons (pm_var (pv 0)) (pma_cons (pm_adr rfl T.vg_TooMany) pma_nil))) pma_nil))))
  (pms_cons (pms_ret (pm_var (pv 1)))
  pms_nil)))))))))))
abbrev n_law : List Str := ["_law_script", "_law_made", "_law_at", "_law_why", "_law_other", "_law_k", "_law_number"]
theorem sc_law : FnScope ["_law_script", "_law_made", "_law_at", "_law_why", "_law_other", "_law_k", "_law_number"] (ps .law) (defScope (sf .law)) := ⟨rfl, rfl, rfl, by decide +kernel, rfl, by decide +kernel, by decide +kernel⟩
set_option maxHeartbeats 4000000 in
theorem ok_law (T : Tx K mg ad fa fd) (hsm : ∃ o, base.get? sysModules = some o) (hP : PF P) (G : AllG P w K mg base ad fa fd k cf) : GnOk P w K mg base (k + 1 + 1) (fa .law) (fd .law) (ps .law) (spF K ad (ar .law) (runF 7 (b_law cf))) :=
  gn_ok (T.fu .law) sc_law hsm rfl fun cdv A outer s H E S =>
  (pms_cons (pms_set (i := 1) sc_law.nd rfl (by first | exact Or.inl rfl | exact Or.inr rfl) (pm_lst pma_nil))
  (pms_cons (pms_set (i := 1) sc_law.nd rfl (by first | exact Or.inl rfl | exact Or.inr rfl) (pm_bin om_add (pm_var (pv 1)) (pm_lst (pma_cons (pm_mkX T.vt_InvalidPlan rfl) (pma_cons (pm_mkX T.vt_InvalidOperation rfl) (pma_cons (pm_mkX T.vt_InvalidKey rfl) (pma_cons (pm_mkX T.vt_InvalidOrder rfl) (pma_cons (pm_mkX T.vt_InvalidRecord rfl) pma_nil))))))))
  (pms_cons (pms_set (i := 1) sc_law.nd rfl (by first | exact Or.inl rfl | exact Or.inr rfl) (pm_bin om_add (pm_var (pv 1)) (pm_lst (pma_cons (pm_mkX T.vt_InvalidPosition rfl) (pma_cons (pm_mkX T.vt_NotADraw rfl) (pma_cons (pm_mkX T.vt_InvalidTrace rfl) (pma_cons (pm_mkX T.vt_InvalidAddresses rfl) (pma_cons (pm_mkX T.vt_TooComplex rfl) pma_nil))))))))
  (pms_cons (pms_set (i := 1) sc_law.nd rfl (by first | exact Or.inl rfl | exact Or.inr rfl) (pm_bin om_add (pm_var (pv 1)) (pm_lst (pma_cons (pm_mkX T.vt_InvalidNumber rfl) (pma_cons (pm_mkX T.vt_InvalidName rfl) (pma_cons (pm_mkX T.vt_InvalidUse rfl) (pma_cons (pm_mkX T.vt_InvalidCode rfl) (pma_cons (pm_mkX T.vt_DifferentStreams rfl) pma_nil))))))))
  (pms_cons (pms_set (i := 1) sc_law.nd rfl (by first | exact Or.inl rfl | exact Or.inr rfl) (pm_bin om_add (pm_var (pv 1)) (pm_lst (pma_cons (pm_mkX T.vt_NotReady rfl) (pma_cons (pm_mkX T.vt_NothingToUndo rfl) (pma_cons (pm_mkX T.vt_UnsafePlan rfl) (pma_cons (pm_mkX T.vt_InvalidRetry rfl) (pma_cons (pm_mkX T.vt_CannotAbort rfl) pma_nil))))))))
  (pms_cons (pms_set (i := 1) sc_law.nd rfl (by first | exact Or.inl rfl | exact Or.inr rfl) (pm_bin om_add (pm_var (pv 1)) (pm_lst (pma_cons (pm_mkX T.vt_Unreachable rfl) (pma_cons (pm_mkX T.vt_TargetMissed rfl) (pma_cons (pm_mkX T.vt_InvalidText rfl) (pma_cons (pm_mkX T.vt_InvalidCommand rfl) pma_nil)))))))
  (pms_cons (pms_set (i := 1) sc_law.nd rfl (by first | exact Or.inl rfl | exact Or.inr rfl) (pm_bin om_add (pm_var (pv 1)) (pm_lst (pma_cons (T.vf_TooMany.elim fun _ h => h.elim fun _ h => pm_mkF S (Nat.succ_pos _) h.1 h.2 (by decide) hP.file T.z_super hP.top rfl T.vg_TooMany (pma_cons pm_int (pma_cons pm_int pma_nil))) (pma_cons (T.vf_OrderConflict.elim fun _ h => h.elim fun _ h => pm_mkF S (Nat.succ_pos _) h.1 h.2 (by decide) hP.file T.z_super hP.top rfl T.vg_OrderConflict (pma_cons (pm_tup (pma_cons pm_int (pma_cons pm_int pma_nil))) (pma_cons pm_int pma_nil))) (pma_cons (T.vf_AbortConflict.elim fun _ h => h.elim fun _ h => pm_mkF S (Nat.succ_pos _) h.1 h.2 (by decide) hP.file T.z_super hP.top rfl T.vg_AbortConflict (pma_cons (pm_tup (pma_cons pm_int (pma_cons (pm_neg pm_int) (pma_cons pm_int pma_nil)))) pma_nil)) pma_nil))))))
  (pms_cons (pms_for S (pmi_enum rfl T.z_enumerate (pma_cons (pm_var (pv 1)) pma_nil)) (pmg_tup S.calm (pmgs_cons (pmg_name (pg_name (i := 2) sc_law.nd rfl (by first | exact Or.inl rfl | exact Or.inr rfl))) (pmgs_cons (pmg_name (pg_name (i := 3) sc_law.nd rfl (by first | exact Or.inl rfl | exact Or.inr rfl))) pmgs_nil))) (pms_cons (pms_if (pmt_bool (pmw_or (pmt_not (ptM_val (pm_callBA (cm_isiV (fun c hc => (T.vx c hc).1) T.vk T.ve) rfl T.z_isinstance PyProof.Rows.boot_isinstance (pma_cons (pm_var (pv 3)) (pma_cons (pm_ty rfl T.z_Exception (by kernel_rfl)) pma_nil))))) (pmw_or1 (ptM_cmp (om_ne S.u64) (pm_meth (mm_countD S.u65) PySem.F.plainAttrs_list PySem.F.slot_list_count PySem.F.type_list_count (pm_call (G .L_kinds).up S rfl (T.mgs .L_kinds rfl) (T.fu .L_kinds).kp (T.bi .L_kinds) (pma_cons (pm_var (pv 3)) pma_nil)) (pma_cons pm_bl pma_nil)) pm_int (nomark _))))) (pms_cons (pms_ret pm_bl)
      pms_nil) pms_nil)
    (pms_cons (pms_if (ptM_cmp (om_ne S.u64) (pm_lc (own := [("_law_other", 4)]) S sc_law.nd (tg_name (by decide)) (pmi_seq (pm_sl (pm_var (pv 1)) pmo_none (pmo_some (pm_var (pv 2))))) (blkOk_by (N := n_law) (sc := defScope (sf .law)) (by decide +kernel)) (fun s2 H2 C cl fp => (pg_name (i := 4) sc_law.nd rfl (Or.inl rfl))) (fun s2 H2 C cl fp => (pmts_one (ptM_cmp (om_eq (S.blk s2 H2 _ (compEnvC _ cl C _) fp).u64) (pm_call (G .L_kinds).up (S.blk s2 H2 _ (compEnvC _ cl C _) fp) rfl (T.mgs .L_kinds rfl) (T.fu .L_kinds).kp (T.bi .L_kinds) (pma_cons (pm_var (pv 4)) pma_nil)) (pm_call (G .L_kinds).up (S.blk s2 H2 _ (compEnvC _ cl C _) fp) rfl (T.mgs .L_kinds rfl) (T.fu .L_kinds).kp (T.bi .L_kinds) (pma_cons (pm_var (pv 3)) pma_nil)) (nomark _)))) (fun s2 H2 C cl fp => pm_int)) (pm_lst pma_nil) (nomark _)) (pms_cons (pms_ret pm_bl)
      pms_nil) pms_nil)
    pms_nil)))
  (pms_cons (pms_if (ptM_cmp (om_ne S.u64) (pm_lst (pma_cons (pm_xfld (cs := [125]) (fun c hc => (T.vx c ((by decide : ∀ c ∈ ([125] : List Nat), c ∈ evL) c hc)).2) (fun c hc => by simp only [List.mem_cons, List.not_mem_nil, or_false] at hc; rcases hc with rfl <;> first | exact T.vn_TooMany_amount) (pm_ix (pm_var (pv 1)) (pm_neg pm_int) (fun _ _ => rfl))) (pma_cons (pm_xfld (cs := [125]) (fun c hc => (T.vx c ((by decide : ∀ c ∈ ([125] : List Nat), c ∈ evL) c hc)).2) (fun c hc => by simp only [List.mem_cons, List.not_mem_nil, or_false] at hc; rcases hc with rfl <;> first | exact T.vn_TooMany_limit) (pm_ix (pm_var (pv 1)) (pm_neg pm_int) (fun _ _ => rfl))) (pma_cons (pm_xfld (cs := [127]) (fun c hc => (T.vx c ((by decide : ∀ c ∈ ([127] : List Nat), c ∈ evL) c hc)).2) (fun c hc => by simp only [List.mem_cons, List.not_mem_nil, or_false] at hc; rcases hc with rfl <;> first | exact T.vn_AbortConflict_steps) (pm_ix (pm_var (pv 1)) (pm_neg pm_int) (fun _ _ => rfl))) pma_nil)))) (pm_lst (pma_cons pm_int (pma_cons pm_int (pma_cons (pm_tup (pma_cons pm_int (pma_cons (pm_neg pm_int) (pma_cons pm_int pma_nil)))) pma_nil)))) (nomark _)) (pms_cons (pms_ret pm_bl)
    pms_nil) pms_nil)
  (pms_cons (pms_if (ptM_cmp (om_ne S.u64) (pm_lst (pma_cons (pm_xfld (cs := [126]) (fun c hc => (T.vx c ((by decide : ∀ c ∈ ([126] : List Nat), c ∈ evL) c hc)).2) (fun c hc => by simp only [List.mem_cons, List.not_mem_nil, or_false] at hc; rcases hc with rfl <;> first | exact T.vn_OrderConflict_order) (pm_ix (pm_var (pv 1)) (pm_neg pm_int) (fun _ _ => rfl))) (pma_cons (pm_xfld (cs := [126]) (fun c hc => (T.vx c ((by decide : ∀ c ∈ ([126] : List Nat), c ∈ evL) c hc)).2) (fun c hc => by simp only [List.mem_cons, List.not_mem_nil, or_false] at hc; rcases hc with rfl <;> first | exact T.vn_OrderConflict_index) (pm_ix (pm_var (pv 1)) (pm_neg pm_int) (fun _ _ => rfl))) pma_nil))) (pm_lst (pma_cons (pm_tup (pma_cons pm_int (pma_cons pm_int pma_nil))) (pma_cons pm_int pma_nil))) (nomark _)) (pms_cons (pms_ret pm_bl)
    pms_nil) pms_nil)
  (pms_cons (pms_for S (pmi_rng1 rfl T.z_range (pma_cons (pm_callB (cm_max2 S.calm) rfl T.z_max PyProof.Rows.boot_max (pma_cons pm_int (pma_cons (pm_callB (cm_min2 S.calm) rfl T.z_min PyProof.Rows.boot_min (pma_cons (pm_callB cm_len rfl T.z_len PySem.boot_len (pma_cons (pm_var (pv 0)) pma_nil)) (pma_cons pm_int pma_nil))) pma_nil))) pma_nil)) (pmg_name (pg_name (i := 5) sc_law.nd rfl (by first | exact Or.inl rfl | exact Or.inr rfl))) (pms_cons (pms_set (i := 6) sc_law.nd rfl (by first | exact Or.inl rfl | exact Or.inr rfl) (pm_ite (ptM_cmp om_lt (pm_var (pv 5)) (pm_callB cm_len rfl T.z_len PySem.boot_len (pma_cons (pm_var (pv 0)) pma_nil)) (nomark _)) (pm_bin om_mod (pm_callTy cm_int rfl T.z_int PyProof.Rows.boot_int (pma_cons (pm_ix (pm_var (pv 0)) (pm_var (pv 5)) (fun _ _ => rfl)) pma_nil)) (pm_bin om_pow pm_int pm_int)) pm_int))
    (pms_cons (pms_if (ptM_cmp (om_ne S.u64) (pm_lst (pma_cons (pm_xfld (cs := [125]) (fun c hc => (T.vx c ((by decide : ∀ c ∈ ([125] : List Nat), c ∈ evL) c hc)).2) (fun c hc => by simp only [List.mem_cons, List.not_mem_nil, or_false] at hc; rcases hc with rfl <;> first | exact T.vn_TooMany_amount) (T.vf_TooMany.elim fun _ h => h.elim fun _ h => pm_mkF S (Nat.succ_pos _) h.1 h.2 (by decide) hP.file T.z_super hP.top rfl T.vg_TooMany (pma_cons (pm_var (pv 6)) (pma_cons pm_int pma_nil)))) (pma_cons (pm_xfld (cs := [126]) (fun c hc => (T.vx c ((by decide : ∀ c ∈ ([126] : List Nat), c ∈ evL) c hc)).2) (fun c hc => by simp only [List.mem_cons, List.not_mem_nil, or_false] at hc; rcases hc with rfl <;> first | exact T.vn_OrderConflict_index) (T.vf_OrderConflict.elim fun _ h => h.elim fun _ h => pm_mkF S (Nat.succ_pos _) h.1 h.2 (by decide) hP.file T.z_super hP.top rfl T.vg_OrderConflict (pma_cons (pm_tup pma_nil) (pma_cons (pm_var (pv 6)) pma_nil)))) (pma_cons (pm_xfld (cs := [125]) (fun c hc => (T.vx c ((by decide : ∀ c ∈ ([125] : List Nat), c ∈ evL) c hc)).2) (fun c hc => by simp only [List.mem_cons, List.not_mem_nil, or_false] at hc; rcases hc with rfl <;> first | exact T.vn_TooMany_limit) (T.vf_TooMany.elim fun _ h => h.elim fun _ h => pm_mkF S (Nat.succ_pos _) h.1 h.2 (by decide) hP.file T.z_super hP.top rfl T.vg_TooMany (pma_cons pm_int (pma_cons (pm_var (pv 6)) pma_nil)))) pma_nil)))) (pm_bin om_mul (pm_lst (pma_cons (pm_var (pv 6)) pma_nil)) pm_int) (nomark _)) (pms_cons (pms_ret pm_bl)
      pms_nil) pms_nil)
    pms_nil)))
  (pms_cons (pms_ret pm_bl)
  pms_nil))))))))))))
theorem all_ok (T : Tx K mg ad fa fd) (hsm : ∃ o, base.get? sysModules = some o) (hP : PF P) : ∀ k, AllG P w K mg base ad fa fd (2 * k) (callF k)
  | 0, f => gn_none (by cases f <;> rfl)
  | k + 1, f => by
    have G := all_ok T hsm hP k
    cases f
    · exact ok_L_kinds T hsm G
    · exact ok_law T hsm hP G
end
end Ga
namespace Ga
open PySem L2 Mi
theorem bi_0 {K : PySem.W.Frag} {kV doc pm cd ct : Value} {an : Option Addr} : Binds K (PySem.W.fnOf "_law_kinds" "_law_kinds" (defArgs (sf .L_kinds)) (defBody (sf .L_kinds)) (defScope (sf .L_kinds)) .none kV doc pm an cd ct) (ps .L_kinds) [] := Binds.all fun us hl => match us, hl with | [_], _ => rfl
theorem bi_1 {K : PySem.W.Frag} {kV doc pm cd ct : Value} {an : Option Addr} : Binds K (PySem.W.fnOf "law" "law" (defArgs (sf .law)) (defBody (sf .law)) (defScope (sf .law)) .none kV doc pm an cd ct) (ps .law) [] := Binds.all fun us hl => match us, hl with | [_], _ => rfl
theorem scx_AbortConflict : FnScopeS ["self", "steps"] ["self", "steps"] (defScope (inClass (top 28) 0)) := ⟨rfl, rfl, rfl, by decide +kernel, rfl, by decide +kernel, by decide +kernel, by decide +kernel, rfl, rfl⟩
theorem idx_AbortConflict {K : PySem.W.Frag} {C fI : Addr} {kV doc pm ct : Value} {cd cc : Addr} {an : Option Addr} (F : FunS K theFile "__init__" "AbortConflict.__init__" (inClass (top 28) 0) fI (PySem.W.ksFn "__init__" "AbortConflict.__init__" (defArgs (inClass (top 28) 0)) (defBody (inClass (top 28) 0)) (defScope (inClass (top 28) 0)) .none kV doc pm an (.ref cd) ct cc) C) : InitD K theFile C fI (PySem.W.ksFn "__init__" "AbortConflict.__init__" (defArgs (inClass (top 28) 0)) (defBody (inClass (top 28) 0)) (defScope (inClass (top 28) 0)) .none kV doc pm an (.ref cd) ct cc) "self" ["steps"] :=
  ⟨⟨_, _, (inClass (top 28) 0), _, _, _, _, _, _, _, _, _, _, _, F, scx_AbortConflict, rfl, (.cons .nil), rfl, rfl, fun _ => rfl, fun _ => rfl⟩, Binds.all fun us hl => match us, hl with | [_, _], _ => rfl, by decide, by decide⟩
theorem scx_OrderConflict : FnScopeS ["self", "order", "index"] ["self", "order", "index"] (defScope (inClass (top 27) 0)) := ⟨rfl, rfl, rfl, by decide +kernel, rfl, by decide +kernel, by decide +kernel, by decide +kernel, rfl, rfl⟩
theorem idx_OrderConflict {K : PySem.W.Frag} {C fI : Addr} {kV doc pm ct : Value} {cd cc : Addr} {an : Option Addr} (F : FunS K theFile "__init__" "OrderConflict.__init__" (inClass (top 27) 0) fI (PySem.W.ksFn "__init__" "OrderConflict.__init__" (defArgs (inClass (top 27) 0)) (defBody (inClass (top 27) 0)) (defScope (inClass (top 27) 0)) .none kV doc pm an (.ref cd) ct cc) C) : InitD K theFile C fI (PySem.W.ksFn "__init__" "OrderConflict.__init__" (defArgs (inClass (top 27) 0)) (defBody (inClass (top 27) 0)) (defScope (inClass (top 27) 0)) .none kV doc pm an (.ref cd) ct cc) "self" ["order", "index"] :=
  ⟨⟨_, _, (inClass (top 27) 0), _, _, _, _, _, _, _, _, _, _, _, F, scx_OrderConflict, rfl, (.cons (.cons .nil)), rfl, rfl, fun _ => rfl, fun _ => rfl⟩, Binds.all fun us hl => match us, hl with | [_, _, _], _ => rfl, by decide, by decide⟩
theorem scx_TooMany : FnScopeS ["self", "amount", "limit"] ["self", "amount", "limit"] (defScope (inClass (top 26) 0)) := ⟨rfl, rfl, rfl, by decide +kernel, rfl, by decide +kernel, by decide +kernel, by decide +kernel, rfl, rfl⟩
theorem idx_TooMany {K : PySem.W.Frag} {C fI : Addr} {kV doc pm ct : Value} {cd cc : Addr} {an : Option Addr} (F : FunS K theFile "__init__" "TooMany.__init__" (inClass (top 26) 0) fI (PySem.W.ksFn "__init__" "TooMany.__init__" (defArgs (inClass (top 26) 0)) (defBody (inClass (top 26) 0)) (defScope (inClass (top 26) 0)) .none kV doc pm an (.ref cd) ct cc) C) : InitD K theFile C fI (PySem.W.ksFn "__init__" "TooMany.__init__" (defArgs (inClass (top 26) 0)) (defBody (inClass (top 26) 0)) (defScope (inClass (top 26) 0)) .none kV doc pm an (.ref cd) ct cc) "self" ["amount", "limit"] :=
  ⟨⟨_, _, (inClass (top 26) 0), _, _, _, _, _, _, _, _, _, _, _, F, scx_TooMany, rfl, (.cons (.cons .nil)), rfl, rfl, fun _ => rfl, fun _ => rfl⟩, Binds.all fun us hl => match us, hl with | [_, _, _], _ => rfl, by decide, by decide⟩
theorem fu_mk {K : PySem.W.Frag} {fa : Fn → Addr} {fd : Fn → FuncData}
    (h0 : FunA K (nm .L_kinds) (qn .L_kinds) (sf .L_kinds) (fa .L_kinds) (fd .L_kinds))
    (h1 : FunA K (nm .law) (qn .law) (sf .law) (fa .law) (fd .law))
    : ∀ f, FunA K (nm f) (qn f) (sf f) (fa f) (fd f)
  | .L_kinds => h0
  | .law => h1
theorem mgs_mk {mg : Str → Option Value} {fa : Fn → Addr}
    (h0 : mg (nm .L_kinds) = some (.ref (fa .L_kinds)))
    (h1 : mg (nm .law) = some (.ref (fa .law)))
    : ∀ f, isM f = false → mg (nm f) = some (.ref (fa f))
  | .L_kinds, e => h0
  | .law, e => h1
theorem bi_mk {K : PySem.W.Frag} {fd : Fn → FuncData}
    (h0 : Binds K (fd .L_kinds) (ps .L_kinds) [])
    (h1 : Binds K (fd .law) (ps .law) [])
    : ∀ f, Binds K (fd f) (ps f) []
  | .L_kinds => h0
  | .law => h1
theorem all_mk {l : PySem.W.OpenLaw} {w : World} {K : PySem.W.Frag} {h : Heap} {mg : Str → Option Value} {a : Addr} (X : K.In h) (G : h.Ns mainGlobals mg) (hfa : mg "law" = some (.ref a))
    {f0 f1 : Addr} {od0 an0 od1 an1 : Option Addr} {sl0 sl1 : Array (Option Value)} {oc0 kV0 dc0 pm0 cd0 ct0 oc1 kV1 dc1 pm1 cd1 ct1 : Value}
    (hP : PF l.prog)
    (a0 : PySem.W.nsIn K mainGlobals "_law_kinds" = some (some (.ref f0))) (l0 : K.lookup f0 = some ⟨oc0, od0, .func (PySem.W.fnOf "_law_kinds" "_law_kinds" (defArgs (sf .L_kinds)) (defBody (sf .L_kinds)) (defScope (sf .L_kinds)) .none kV0 dc0 pm0 an0 cd0 ct0), sl0⟩) (c0 : PySem.W.codeIn K cd0 "_law_kinds" = true) (k0 : PySem.W.keepIn K (.ref f0) = true)
    (a1 : PySem.W.nsIn K mainGlobals "law" = some (some (.ref f1))) (l1 : K.lookup f1 = some ⟨oc1, od1, .func (PySem.W.fnOf "law" "law" (defArgs (sf .law)) (defBody (sf .law)) (defScope (sf .law)) .none kV1 dc1 pm1 an1 cd1 ct1), sl1⟩) (c1 : PySem.W.codeIn K cd1 "law" = true) (k1 : PySem.W.keepIn K (.ref f1) = true)
    {X105 : Addr} (aX105 : PySem.W.nsIn K mainGlobals "InvalidRecord" = some (some (.ref X105)))
    {X104 : Addr} (aX104 : PySem.W.nsIn K mainGlobals "InvalidOrder" = some (some (.ref X104)))
    {X103 : Addr} (aX103 : PySem.W.nsIn K mainGlobals "InvalidKey" = some (some (.ref X103)))
    {X102 : Addr} (aX102 : PySem.W.nsIn K mainGlobals "InvalidOperation" = some (some (.ref X102)))
    {X101 : Addr} (aX101 : PySem.W.nsIn K mainGlobals "InvalidPlan" = some (some (.ref X101)))
    {X110 : Addr} (aX110 : PySem.W.nsIn K mainGlobals "TooComplex" = some (some (.ref X110)))
    {X109 : Addr} (aX109 : PySem.W.nsIn K mainGlobals "InvalidAddresses" = some (some (.ref X109)))
    {X108 : Addr} (aX108 : PySem.W.nsIn K mainGlobals "InvalidTrace" = some (some (.ref X108)))
    {X107 : Addr} (aX107 : PySem.W.nsIn K mainGlobals "NotADraw" = some (some (.ref X107)))
    {X106 : Addr} (aX106 : PySem.W.nsIn K mainGlobals "InvalidPosition" = some (some (.ref X106)))
    {X115 : Addr} (aX115 : PySem.W.nsIn K mainGlobals "DifferentStreams" = some (some (.ref X115)))
    {X114 : Addr} (aX114 : PySem.W.nsIn K mainGlobals "InvalidCode" = some (some (.ref X114)))
    {X113 : Addr} (aX113 : PySem.W.nsIn K mainGlobals "InvalidUse" = some (some (.ref X113)))
    {X112 : Addr} (aX112 : PySem.W.nsIn K mainGlobals "InvalidName" = some (some (.ref X112)))
    {X111 : Addr} (aX111 : PySem.W.nsIn K mainGlobals "InvalidNumber" = some (some (.ref X111)))
    {X120 : Addr} (aX120 : PySem.W.nsIn K mainGlobals "CannotAbort" = some (some (.ref X120)))
    {X119 : Addr} (aX119 : PySem.W.nsIn K mainGlobals "InvalidRetry" = some (some (.ref X119)))
    {X118 : Addr} (aX118 : PySem.W.nsIn K mainGlobals "UnsafePlan" = some (some (.ref X118)))
    {X117 : Addr} (aX117 : PySem.W.nsIn K mainGlobals "NothingToUndo" = some (some (.ref X117)))
    {X116 : Addr} (aX116 : PySem.W.nsIn K mainGlobals "NotReady" = some (some (.ref X116)))
    {X124 : Addr} (aX124 : PySem.W.nsIn K mainGlobals "InvalidCommand" = some (some (.ref X124)))
    {X123 : Addr} (aX123 : PySem.W.nsIn K mainGlobals "InvalidText" = some (some (.ref X123)))
    {X122 : Addr} (aX122 : PySem.W.nsIn K mainGlobals "TargetMissed" = some (some (.ref X122)))
    {X121 : Addr} (aX121 : PySem.W.nsIn K mainGlobals "Unreachable" = some (some (.ref X121)))
    {X127 : Addr} (aX127 : PySem.W.nsIn K mainGlobals "AbortConflict" = some (some (.ref X127)))
    {X126 : Addr} (aX126 : PySem.W.nsIn K mainGlobals "OrderConflict" = some (some (.ref X126)))
    {X125 : Addr} (aX125 : PySem.W.nsIn K mainGlobals "TooMany" = some (some (.ref X125)))
    {X100 : Addr} (aX100 : PySem.W.nsIn K mainGlobals "ForklotsError" = some (some (.ref X100)))
    (yv105 : excVB K X105 = true)
    (yx105 : excXB K X105 = true)
    (yv104 : excVB K X104 = true)
    (yx104 : excXB K X104 = true)
    (yv103 : excVB K X103 = true)
    (yx103 : excXB K X103 = true)
    (yv102 : excVB K X102 = true)
    (yx102 : excXB K X102 = true)
    (yv101 : excVB K X101 = true)
    (yx101 : excXB K X101 = true)
    (yv110 : excVB K X110 = true)
    (yx110 : excXB K X110 = true)
    (yv109 : excVB K X109 = true)
    (yx109 : excXB K X109 = true)
    (yv108 : excVB K X108 = true)
    (yx108 : excXB K X108 = true)
    (yv107 : excVB K X107 = true)
    (yx107 : excXB K X107 = true)
    (yv106 : excVB K X106 = true)
    (yx106 : excXB K X106 = true)
    (yv115 : excVB K X115 = true)
    (yx115 : excXB K X115 = true)
    (yv114 : excVB K X114 = true)
    (yx114 : excXB K X114 = true)
    (yv113 : excVB K X113 = true)
    (yx113 : excXB K X113 = true)
    (yv112 : excVB K X112 = true)
    (yx112 : excXB K X112 = true)
    (yv111 : excVB K X111 = true)
    (yx111 : excXB K X111 = true)
    (yv120 : excVB K X120 = true)
    (yx120 : excXB K X120 = true)
    (yv119 : excVB K X119 = true)
    (yx119 : excXB K X119 = true)
    (yv118 : excVB K X118 = true)
    (yx118 : excXB K X118 = true)
    (yv117 : excVB K X117 = true)
    (yx117 : excXB K X117 = true)
    (yv116 : excVB K X116 = true)
    (yx116 : excXB K X116 = true)
    (yv124 : excVB K X124 = true)
    (yx124 : excXB K X124 = true)
    (yv123 : excVB K X123 = true)
    (yx123 : excXB K X123 = true)
    (yv122 : excVB K X122 = true)
    (yx122 : excXB K X122 = true)
    (yv121 : excVB K X121 = true)
    (yx121 : excXB K X121 = true)
    (yv127 : excVB K X127 = true)
    (xb127 : PySem.W.subIn K (.ref X127) (.type "BaseException") = some true) (xt127 : PySem.W.typeIn K (.ref X127) = some (.type "type")) (xd127 : PySem.W.hasDictIn K X127 = true)
    (xq127 : PySem.W.excInitIn K X127 excTail "Exception.__new__" = true) (xv127 : PySem.W.excOver K X127 excTail = true) (xsa127 : PySem.W.findIn K (.ref X127) "__setattr__" = some (some (.builtin "object.__setattr__"))) (xk127 : PySem.W.keepIn K (.ref X127) = true) (xe127 : PySem.W.subIn K (.ref X127) (.type "Exception") = some true) (xmr127 : PySem.W.mroIn K X127 (.ref X127) = some true) (xan127 : PySem.W.nsIn K cStatics "thirdparty.any" = some none)
    {I127 : Addr} (xii127 : PySem.W.findIn K (.ref X127) "__init__" = some (some (.ref I127))) (xti127 : PySem.W.typeIn K (.ref I127) = some (.type "function")) (xsu127 : PySem.W.ks_superIn K X127 X127 "__init__" = some (some (.builtin "Exception.__init__")))
    (xn127_steps : PySem.W.findIn K (.ref X127) "steps" = some none)
    {ioc127 ikV127 idc127 ipm127 ict127 isa127 isb127 : Value} {iod127 ian127 isc127 isd127 : Option Addr} {isl127 ise127 isg127 : Array (Option Value)} {icd127 icc127 : Addr} {isv127 : Array Value} {isk127 : Tok} {isx127 : ClassData}
    (xl127 : K.lookup I127 = some ⟨ioc127, iod127, .func (PySem.W.ksFn "__init__" "AbortConflict.__init__" (defArgs (inClass (top 28) 0)) (defBody (inClass (top 28) 0)) (defScope (inClass (top 28) 0)) .none ikV127 idc127 ipm127 ian127 (.ref icd127) ict127 icc127), isl127⟩) (xci127 : PySem.W.codeIn K (.ref icd127) "AbortConflict.__init__" = true) (xki127 : PySem.W.keepIn K (.ref I127) = true)
    (xlc127 : K.lookup icd127 = some ⟨isa127, isc127, .fields isv127, ise127⟩) (xlv127 : isv127[2]? = some (.str theFile isk127)) (xlz127 : K.lookup icc127 = some ⟨isb127, isd127, .cell (some (.ref X127)), isg127⟩) (xld127 : PySem.W.clsIn K X127 = some isx127)
    (yv126 : excVB K X126 = true)
    (xb126 : PySem.W.subIn K (.ref X126) (.type "BaseException") = some true) (xt126 : PySem.W.typeIn K (.ref X126) = some (.type "type")) (xd126 : PySem.W.hasDictIn K X126 = true)
    (xq126 : PySem.W.excInitIn K X126 excTail "Exception.__new__" = true) (xv126 : PySem.W.excOver K X126 excTail = true) (xsa126 : PySem.W.findIn K (.ref X126) "__setattr__" = some (some (.builtin "object.__setattr__"))) (xk126 : PySem.W.keepIn K (.ref X126) = true) (xe126 : PySem.W.subIn K (.ref X126) (.type "Exception") = some true) (xmr126 : PySem.W.mroIn K X126 (.ref X126) = some true) (xan126 : PySem.W.nsIn K cStatics "thirdparty.any" = some none)
    {I126 : Addr} (xii126 : PySem.W.findIn K (.ref X126) "__init__" = some (some (.ref I126))) (xti126 : PySem.W.typeIn K (.ref I126) = some (.type "function")) (xsu126 : PySem.W.ks_superIn K X126 X126 "__init__" = some (some (.builtin "Exception.__init__")))
    (xn126_order : PySem.W.findIn K (.ref X126) "order" = some none)
    (xn126_index : PySem.W.findIn K (.ref X126) "index" = some none)
    {ioc126 ikV126 idc126 ipm126 ict126 isa126 isb126 : Value} {iod126 ian126 isc126 isd126 : Option Addr} {isl126 ise126 isg126 : Array (Option Value)} {icd126 icc126 : Addr} {isv126 : Array Value} {isk126 : Tok} {isx126 : ClassData}
    (xl126 : K.lookup I126 = some ⟨ioc126, iod126, .func (PySem.W.ksFn "__init__" "OrderConflict.__init__" (defArgs (inClass (top 27) 0)) (defBody (inClass (top 27) 0)) (defScope (inClass (top 27) 0)) .none ikV126 idc126 ipm126 ian126 (.ref icd126) ict126 icc126), isl126⟩) (xci126 : PySem.W.codeIn K (.ref icd126) "OrderConflict.__init__" = true) (xki126 : PySem.W.keepIn K (.ref I126) = true)
    (xlc126 : K.lookup icd126 = some ⟨isa126, isc126, .fields isv126, ise126⟩) (xlv126 : isv126[2]? = some (.str theFile isk126)) (xlz126 : K.lookup icc126 = some ⟨isb126, isd126, .cell (some (.ref X126)), isg126⟩) (xld126 : PySem.W.clsIn K X126 = some isx126)
    (yv125 : excVB K X125 = true)
    (xb125 : PySem.W.subIn K (.ref X125) (.type "BaseException") = some true) (xt125 : PySem.W.typeIn K (.ref X125) = some (.type "type")) (xd125 : PySem.W.hasDictIn K X125 = true)
    (xq125 : PySem.W.excInitIn K X125 excTail "Exception.__new__" = true) (xv125 : PySem.W.excOver K X125 excTail = true) (xsa125 : PySem.W.findIn K (.ref X125) "__setattr__" = some (some (.builtin "object.__setattr__"))) (xk125 : PySem.W.keepIn K (.ref X125) = true) (xe125 : PySem.W.subIn K (.ref X125) (.type "Exception") = some true) (xmr125 : PySem.W.mroIn K X125 (.ref X125) = some true) (xan125 : PySem.W.nsIn K cStatics "thirdparty.any" = some none)
    {I125 : Addr} (xii125 : PySem.W.findIn K (.ref X125) "__init__" = some (some (.ref I125))) (xti125 : PySem.W.typeIn K (.ref I125) = some (.type "function")) (xsu125 : PySem.W.ks_superIn K X125 X125 "__init__" = some (some (.builtin "Exception.__init__")))
    (xn125_amount : PySem.W.findIn K (.ref X125) "amount" = some none)
    (xn125_limit : PySem.W.findIn K (.ref X125) "limit" = some none)
    {ioc125 ikV125 idc125 ipm125 ict125 isa125 isb125 : Value} {iod125 ian125 isc125 isd125 : Option Addr} {isl125 ise125 isg125 : Array (Option Value)} {icd125 icc125 : Addr} {isv125 : Array Value} {isk125 : Tok} {isx125 : ClassData}
    (xl125 : K.lookup I125 = some ⟨ioc125, iod125, .func (PySem.W.ksFn "__init__" "TooMany.__init__" (defArgs (inClass (top 26) 0)) (defBody (inClass (top 26) 0)) (defScope (inClass (top 26) 0)) .none ikV125 idc125 ipm125 ian125 (.ref icd125) ict125 icc125), isl125⟩) (xci125 : PySem.W.codeIn K (.ref icd125) "TooMany.__init__" = true) (xki125 : PySem.W.keepIn K (.ref I125) = true)
    (xlc125 : K.lookup icd125 = some ⟨isa125, isc125, .fields isv125, ise125⟩) (xlv125 : isv125[2]? = some (.str theFile isk125)) (xlz125 : K.lookup icc125 = some ⟨isb125, isd125, .cell (some (.ref X125)), isg125⟩) (xld125 : PySem.W.clsIn K X125 = some isx125)
    (yk : kvB K (fun n => if n = 105 then X105 else if n = 104 then X104 else if n = 103 then X103 else if n = 102 then X102 else if n = 101 then X101 else if n = 110 then X110 else if n = 109 then X109 else if n = 108 then X108 else if n = 107 then X107 else if n = 106 then X106 else if n = 115 then X115 else if n = 114 then X114 else if n = 113 then X113 else if n = 112 then X112 else if n = 111 then X111 else if n = 120 then X120 else if n = 119 then X119 else if n = 118 then X118 else if n = 117 then X117 else if n = 116 then X116 else if n = 124 then X124 else if n = 123 then X123 else if n = 122 then X122 else if n = 121 then X121 else if n = 127 then X127 else if n = 126 then X126 else if n = 125 then X125 else if n = 100 then X100 else 0) evL evQ (subV 100) = true) (ye : keB K (fun n => if n = 105 then X105 else if n = 104 then X104 else if n = 103 then X103 else if n = 102 then X102 else if n = 101 then X101 else if n = 110 then X110 else if n = 109 then X109 else if n = 108 then X108 else if n = 107 then X107 else if n = 106 then X106 else if n = 115 then X115 else if n = 114 then X114 else if n = 113 then X113 else if n = 112 then X112 else if n = 111 then X111 else if n = 120 then X120 else if n = 119 then X119 else if n = 118 then X118 else if n = 117 then X117 else if n = 116 then X116 else if n = 124 then X124 else if n = 123 then X123 else if n = 122 then X122 else if n = 121 then X121 else if n = 127 then X127 else if n = 126 then X126 else if n = 125 then X125 else if n = 100 then X100 else 0) evL = true)
    (z_isinstance : PySem.W.nsIn K mainGlobals "isinstance" = some none)
    (z_super : PySem.W.nsIn K mainGlobals "super" = some none)
    (z_enumerate : PySem.W.nsIn K mainGlobals "enumerate" = some none)
    (z_Exception : PySem.W.nsIn K mainGlobals "Exception" = some none)
    (z_len : PySem.W.nsIn K mainGlobals "len" = some none)
    (z_min : PySem.W.nsIn K mainGlobals "min" = some none)
    (z_max : PySem.W.nsIn K mainGlobals "max" = some none)
    (z_range : PySem.W.nsIn K mainGlobals "range" = some none)
    (z_int : PySem.W.nsIn K mainGlobals "int" = some none)
    : ∃ (ad : Ad) (fd : FuncData), ad.hid = [] ∧ ad.tabs = [] ∧ (∀ (s : Shared) (u : Value), BindsTo s fd ⟨[u], []⟩ [("_law_script", u)]) ∧ ∀ base : Heap, K.In base → base.Ns mainGlobals mg → (∃ o, base.get? sysModules = some o) → GnOk l.prog w K mg base (2 * 20) a fd ["_law_script"] (spF K ad 1 (callF 20 .law)) := by
  have e := hfa.symm.trans (PySem.W.mg_of X G a1)
  cases e
  let fa : Fn → Addr := fun f => match f with
    | .L_kinds => f0
    | .law => a
  let fd : Fn → FuncData := fun f => match f with
    | .L_kinds => PySem.W.fnOf "_law_kinds" "_law_kinds" (defArgs (sf .L_kinds)) (defBody (sf .L_kinds)) (defScope (sf .L_kinds)) .none kV0 dc0 pm0 an0 cd0 ct0
    | .law => PySem.W.fnOf "law" "law" (defArgs (sf .law)) (defBody (sf .law)) (defScope (sf .law)) .none kV1 dc1 pm1 an1 cd1 ct1
  let ad : Ad := ⟨fun n => if n = 105 then X105 else if n = 104 then X104 else if n = 103 then X103 else if n = 102 then X102 else if n = 101 then X101 else if n = 110 then X110 else if n = 109 then X109 else if n = 108 then X108 else if n = 107 then X107 else if n = 106 then X106 else if n = 115 then X115 else if n = 114 then X114 else if n = 113 then X113 else if n = 112 then X112 else if n = 111 then X111 else if n = 120 then X120 else if n = 119 then X119 else if n = 118 then X118 else if n = 117 then X117 else if n = 116 then X116 else if n = 124 then X124 else if n = 123 then X123 else if n = 122 then X122 else if n = 121 then X121 else if n = 127 then X127 else if n = 126 then X126 else if n = 125 then X125 else if n = 100 then X100 else 0, [], []⟩
  have T : Tx K mg ad fa fd := by
    exact ⟨fu_mk (funA_mk (st := sf .L_kinds) l0 c0 k0) (funA_mk (st := sf .law) l1 c1 k1),
      mgs_mk (PySem.W.mg_of X G a0) (PySem.W.mg_of X G a1),
      bi_mk bi_0 bi_1, PySem.W.mg_none_of X G z_isinstance, PySem.W.mg_none_of X G z_super, PySem.W.mg_none_of X G z_enumerate, PySem.W.mg_none_of X G z_Exception, PySem.W.mg_none_of X G z_len, PySem.W.mg_none_of X G z_min, PySem.W.mg_none_of X G z_max, PySem.W.mg_none_of X G z_range, PySem.W.mg_none_of X G z_int, PySem.W.mg_of X G aX105, PySem.W.mg_of X G aX104, PySem.W.mg_of X G aX103, PySem.W.mg_of X G aX102, PySem.W.mg_of X G aX101, PySem.W.mg_of X G aX110, PySem.W.mg_of X G aX109, PySem.W.mg_of X G aX108, PySem.W.mg_of X G aX107, PySem.W.mg_of X G aX106, PySem.W.mg_of X G aX115, PySem.W.mg_of X G aX114, PySem.W.mg_of X G aX113, PySem.W.mg_of X G aX112, PySem.W.mg_of X G aX111, PySem.W.mg_of X G aX120, PySem.W.mg_of X G aX119, PySem.W.mg_of X G aX118, PySem.W.mg_of X G aX117, PySem.W.mg_of X G aX116, PySem.W.mg_of X G aX124, PySem.W.mg_of X G aX123, PySem.W.mg_of X G aX122, PySem.W.mg_of X G aX121, PySem.W.mg_of X G aX127, PySem.W.mg_of X G aX126, PySem.W.mg_of X G aX125, PySem.W.mg_of X G aX100, excXB_ok (PySem.W.mg_of X G aX105) yx105, excXB_ok (PySem.W.mg_of X G aX104) yx104, excXB_ok (PySem.W.mg_of X G aX103) yx103, excXB_ok (PySem.W.mg_of X G aX102) yx102, excXB_ok (PySem.W.mg_of X G aX101) yx101, excXB_ok (PySem.W.mg_of X G aX110) yx110, excXB_ok (PySem.W.mg_of X G aX109) yx109, excXB_ok (PySem.W.mg_of X G aX108) yx108, excXB_ok (PySem.W.mg_of X G aX107) yx107, excXB_ok (PySem.W.mg_of X G aX106) yx106, excXB_ok (PySem.W.mg_of X G aX115) yx115, excXB_ok (PySem.W.mg_of X G aX114) yx114, excXB_ok (PySem.W.mg_of X G aX113) yx113, excXB_ok (PySem.W.mg_of X G aX112) yx112, excXB_ok (PySem.W.mg_of X G aX111) yx111, excXB_ok (PySem.W.mg_of X G aX120) yx120, excXB_ok (PySem.W.mg_of X G aX119) yx119, excXB_ok (PySem.W.mg_of X G aX118) yx118, excXB_ok (PySem.W.mg_of X G aX117) yx117, excXB_ok (PySem.W.mg_of X G aX116) yx116, excXB_ok (PySem.W.mg_of X G aX124) yx124, excXB_ok (PySem.W.mg_of X G aX123) yx123, excXB_ok (PySem.W.mg_of X G aX122) yx122, excXB_ok (PySem.W.mg_of X G aX121) yx121, ⟨_, _, ⟨xq127, xv127, xsa127, xd127, (fun f hf => by simp only [List.mem_cons, List.not_mem_nil, or_false] at hf; rcases hf with rfl <;> assumption), xii127, xti127, xk127, xb127, xe127, xt127, xsu127, xmr127, xan127⟩, idx_AbortConflict ⟨⟨_, _, _, _, _, _, _, _, _, _, _, rfl, xl127, xci127, ⟨_, _, _, _, _, xlc127, xlv127⟩, _, _, _, xlz127⟩, xki127, _, xld127⟩⟩, ⟨_, _, ⟨xq126, xv126, xsa126, xd126, (fun f hf => by simp only [List.mem_cons, List.not_mem_nil, or_false] at hf; rcases hf with rfl | rfl <;> assumption), xii126, xti126, xk126, xb126, xe126, xt126, xsu126, xmr126, xan126⟩, idx_OrderConflict ⟨⟨_, _, _, _, _, _, _, _, _, _, _, rfl, xl126, xci126, ⟨_, _, _, _, _, xlc126, xlv126⟩, _, _, _, xlz126⟩, xki126, _, xld126⟩⟩, ⟨_, _, ⟨xq125, xv125, xsa125, xd125, (fun f hf => by simp only [List.mem_cons, List.not_mem_nil, or_false] at hf; rcases hf with rfl | rfl <;> assumption), xii125, xti125, xk125, xb125, xe125, xt125, xsu125, xmr125, xan125⟩, idx_TooMany ⟨⟨_, _, _, _, _, _, _, _, _, _, _, rfl, xl125, xci125, ⟨_, _, _, _, _, xlc125, xlv125⟩, _, _, _, xlz125⟩, xki125, _, xld125⟩⟩, fun c hc => by simp only [evL, List.mem_cons, List.not_mem_nil, or_false] at hc; rcases hc with rfl | rfl | rfl | rfl | rfl | rfl | rfl | rfl | rfl | rfl | rfl | rfl | rfl | rfl | rfl | rfl | rfl | rfl | rfl | rfl | rfl | rfl | rfl | rfl | rfl | rfl | rfl <;> first | exact excVB_ok yv105 | exact excVB_ok yv104 | exact excVB_ok yv103 | exact excVB_ok yv102 | exact excVB_ok yv101 | exact excVB_ok yv110 | exact excVB_ok yv109 | exact excVB_ok yv108 | exact excVB_ok yv107 | exact excVB_ok yv106 | exact excVB_ok yv115 | exact excVB_ok yv114 | exact excVB_ok yv113 | exact excVB_ok yv112 | exact excVB_ok yv111 | exact excVB_ok yv120 | exact excVB_ok yv119 | exact excVB_ok yv118 | exact excVB_ok yv117 | exact excVB_ok yv116 | exact excVB_ok yv124 | exact excVB_ok yv123 | exact excVB_ok yv122 | exact excVB_ok yv121 | exact excVB_ok yv127 | exact excVB_ok yv126 | exact excVB_ok yv125, kvB_ok yk, keB_ok ye, xn127_steps, xn125_limit, xn125_amount, xn126_index, xn126_order⟩
  exact ⟨ad, fd .law, rfl, rfl, fun s v => .of_eq rfl, fun base _ _ hsm => all_ok T hsm hP 20 .law⟩
end Ga
open PySem PySem.W PyProof.Rows in
set_option maxRecDepth 100000 in
set_option maxHeartbeats 0 in
theorem PySem.Challenge.cw_forklots_k26_exceptions_made_holds : PySem.Challenge.rw_forklots_k26_exceptions_made.Holds := by
  w_on; o_law; k_head; (case hw => w_witness2)
  k_fill
  refine Mi.walkM (l := PySem.Challenge.rw_forklots_k26_exceptions_made) (F := Ga.callF 20 .law) (k := 2 * 20) (x := "_law_script") rfl (by decide) rfl ⟨rfl, by decide, by decide⟩ (by decide +kernel) (fun w h Y => PySem.W.kIn_of Y) Ga.law_true ?F
  case F =>
    intro w mg fa h KX G hmg
    refine' Ga.all_mk KX G hmg ?hP ?a0 ?l0 ?c0 ?k0 ?a1 ?l1 ?c1 ?k1 ?aX105 ?aX104 ?aX103 ?aX102 ?aX101 ?aX110 ?aX109 ?aX108 ?aX107 ?aX106 ?aX115 ?aX114 ?aX113 ?aX112 ?aX111 ?aX120 ?aX119 ?aX118 ?aX117 ?aX116 ?aX124 ?aX123 ?aX122 ?aX121 ?aX127 ?aX126 ?aX125 ?aX100 ?yv105 ?yx105 ?yv104 ?yx104 ?yv103 ?yx103 ?yv102 ?yx102 ?yv101 ?yx101 ?yv110 ?yx110 ?yv109 ?yx109 ?yv108 ?yx108 ?yv107 ?yx107 ?yv106 ?yx106 ?yv115 ?yx115 ?yv114 ?yx114 ?yv113 ?yx113 ?yv112 ?yx112 ?yv111 ?yx111 ?yv120 ?yx120 ?yv119 ?yx119 ?yv118 ?yx118 ?yv117 ?yx117 ?yv116 ?yx116 ?yv124 ?yx124 ?yv123 ?yx123 ?yv122 ?yx122 ?yv121 ?yx121 ?yv127 ?xb127 ?xt127 ?xd127 ?xq127 ?xv127 ?xsa127 ?xk127 ?xe127 ?xmr127 ?xan127 ?xii127 ?xti127 ?xsu127 ?xn127_steps ?xl127 ?xci127 ?xki127 ?xlc127 ?xlv127 ?xlz127 ?xld127 ?yv126 ?xb126 ?xt126 ?xd126 ?xq126 ?xv126 ?xsa126 ?xk126 ?xe126 ?xmr126 ?xan126 ?xii126 ?xti126 ?xsu126 ?xn126_order ?xn126_index ?xl126 ?xci126 ?xki126 ?xlc126 ?xlv126 ?xlz126 ?xld126 ?yv125 ?xb125 ?xt125 ?xd125 ?xq125 ?xv125 ?xsa125 ?xk125 ?xe125 ?xmr125 ?xan125 ?xii125 ?xti125 ?xsu125 ?xn125_amount ?xn125_limit ?xl125 ?xci125 ?xki125 ?xlc125 ?xlv125 ?xlz125 ?xld125 ?yk ?ye ?z_isinstance ?z_super ?z_enumerate ?z_Exception ?z_len ?z_min ?z_max ?z_range ?z_int
    (case hP => exact ⟨rfl, by decide +kernel⟩)
    (case a0 => first | k_is | kit_is | k_exc | rfl | kernel_rfl | decide | ks_is | kx_is)
    (case l0 => first | k_is | kit_is | k_exc | rfl | kernel_rfl | decide | ks_is | kx_is)
    (case c0 => first | k_is | kit_is | k_exc | rfl | kernel_rfl | decide | ks_is | kx_is)
    (case k0 => first | k_is | kit_is | k_exc | rfl | kernel_rfl | decide | ks_is | kx_is)
    (case a1 => first | k_is | kit_is | k_exc | rfl | kernel_rfl | decide | ks_is | kx_is)
    (case l1 => first | k_is | kit_is | k_exc | rfl | kernel_rfl | decide | ks_is | kx_is)
    (case c1 => first | k_is | kit_is | k_exc | rfl | kernel_rfl | decide | ks_is | kx_is)
    (case k1 => first | k_is | kit_is | k_exc | rfl | kernel_rfl | decide | ks_is | kx_is)
    (case aX105 => first | k_is | kit_is | k_exc | rfl | kernel_rfl | decide | ks_is | kx_is)
    (case aX104 => first | k_is | kit_is | k_exc | rfl | kernel_rfl | decide | ks_is | kx_is)
    (case aX103 => first | k_is | kit_is | k_exc | rfl | kernel_rfl | decide | ks_is | kx_is)
    (case aX102 => first | k_is | kit_is | k_exc | rfl | kernel_rfl | decide | ks_is | kx_is)
    (case aX101 => first | k_is | kit_is | k_exc | rfl | kernel_rfl | decide | ks_is | kx_is)
    (case aX110 => first | k_is | kit_is | k_exc | rfl | kernel_rfl | decide | ks_is | kx_is)
    (case aX109 => first | k_is | kit_is | k_exc | rfl | kernel_rfl | decide | ks_is | kx_is)
    (case aX108 => first | k_is | kit_is | k_exc | rfl | kernel_rfl | decide | ks_is | kx_is)
    (case aX107 => first | k_is | kit_is | k_exc | rfl | kernel_rfl | decide | ks_is | kx_is)
    (case aX106 => first | k_is | kit_is | k_exc | rfl | kernel_rfl | decide | ks_is | kx_is)
    (case aX115 => first | k_is | kit_is | k_exc | rfl | kernel_rfl | decide | ks_is | kx_is)
    (case aX114 => first | k_is | kit_is | k_exc | rfl | kernel_rfl | decide | ks_is | kx_is)
    (case aX113 => first | k_is | kit_is | k_exc | rfl | kernel_rfl | decide | ks_is | kx_is)
    (case aX112 => first | k_is | kit_is | k_exc | rfl | kernel_rfl | decide | ks_is | kx_is)
    (case aX111 => first | k_is | kit_is | k_exc | rfl | kernel_rfl | decide | ks_is | kx_is)
    (case aX120 => first | k_is | kit_is | k_exc | rfl | kernel_rfl | decide | ks_is | kx_is)
    (case aX119 => first | k_is | kit_is | k_exc | rfl | kernel_rfl | decide | ks_is | kx_is)
    (case aX118 => first | k_is | kit_is | k_exc | rfl | kernel_rfl | decide | ks_is | kx_is)
    (case aX117 => first | k_is | kit_is | k_exc | rfl | kernel_rfl | decide | ks_is | kx_is)
    (case aX116 => first | k_is | kit_is | k_exc | rfl | kernel_rfl | decide | ks_is | kx_is)
    (case aX124 => first | k_is | kit_is | k_exc | rfl | kernel_rfl | decide | ks_is | kx_is)
    (case aX123 => first | k_is | kit_is | k_exc | rfl | kernel_rfl | decide | ks_is | kx_is)
    (case aX122 => first | k_is | kit_is | k_exc | rfl | kernel_rfl | decide | ks_is | kx_is)
    (case aX121 => first | k_is | kit_is | k_exc | rfl | kernel_rfl | decide | ks_is | kx_is)
    (case aX127 => first | k_is | kit_is | k_exc | rfl | kernel_rfl | decide | ks_is | kx_is)
    (case aX126 => first | k_is | kit_is | k_exc | rfl | kernel_rfl | decide | ks_is | kx_is)
    (case aX125 => first | k_is | kit_is | k_exc | rfl | kernel_rfl | decide | ks_is | kx_is)
    (case aX100 => first | k_is | kit_is | k_exc | rfl | kernel_rfl | decide | ks_is | kx_is)
    (case yv105 => kernel_rfl)
    (case yx105 => kernel_rfl)
    (case yv104 => kernel_rfl)
    (case yx104 => kernel_rfl)
    (case yv103 => kernel_rfl)
    (case yx103 => kernel_rfl)
    (case yv102 => kernel_rfl)
    (case yx102 => kernel_rfl)
    (case yv101 => kernel_rfl)
    (case yx101 => kernel_rfl)
    (case yv110 => kernel_rfl)
    (case yx110 => kernel_rfl)
    (case yv109 => kernel_rfl)
    (case yx109 => kernel_rfl)
    (case yv108 => kernel_rfl)
    (case yx108 => kernel_rfl)
    (case yv107 => kernel_rfl)
    (case yx107 => kernel_rfl)
    (case yv106 => kernel_rfl)
    (case yx106 => kernel_rfl)
    (case yv115 => kernel_rfl)
    (case yx115 => kernel_rfl)
    (case yv114 => kernel_rfl)
    (case yx114 => kernel_rfl)
    (case yv113 => kernel_rfl)
    (case yx113 => kernel_rfl)
    (case yv112 => kernel_rfl)
    (case yx112 => kernel_rfl)
    (case yv111 => kernel_rfl)
    (case yx111 => kernel_rfl)
    (case yv120 => kernel_rfl)
    (case yx120 => kernel_rfl)
    (case yv119 => kernel_rfl)
    (case yx119 => kernel_rfl)
    (case yv118 => kernel_rfl)
    (case yx118 => kernel_rfl)
    (case yv117 => kernel_rfl)
    (case yx117 => kernel_rfl)
    (case yv116 => kernel_rfl)
    (case yx116 => kernel_rfl)
    (case yv124 => kernel_rfl)
    (case yx124 => kernel_rfl)
    (case yv123 => kernel_rfl)
    (case yx123 => kernel_rfl)
    (case yv122 => kernel_rfl)
    (case yx122 => kernel_rfl)
    (case yv121 => kernel_rfl)
    (case yx121 => kernel_rfl)
    (case yv127 => kernel_rfl)
    (case xb127 => first | k_is | kit_is | k_exc | rfl | kernel_rfl | decide | ks_is | kx_is)
    (case xt127 => first | k_is | kit_is | k_exc | rfl | kernel_rfl | decide | ks_is | kx_is)
    (case xd127 => first | k_is | kit_is | k_exc | rfl | kernel_rfl | decide | ks_is | kx_is)
    (case xq127 => first | k_is | kit_is | k_exc | rfl | kernel_rfl | decide | ks_is | kx_is)
    (case xv127 => first | k_is | kit_is | k_exc | rfl | kernel_rfl | decide | ks_is | kx_is)
    (case xsa127 => first | k_is | kit_is | k_exc | rfl | kernel_rfl | decide | ks_is | kx_is)
    (case xk127 => first | k_is | kit_is | k_exc | rfl | kernel_rfl | decide | ks_is | kx_is)
    (case xe127 => first | k_is | kit_is | k_exc | rfl | kernel_rfl | decide | ks_is | kx_is)
    (case xmr127 => first | k_is | kit_is | k_exc | rfl | kernel_rfl | decide | ks_is | kx_is)
    (case xan127 => first | k_is | kit_is | k_exc | rfl | kernel_rfl | decide | ks_is | kx_is)
    (case xii127 => first | k_is | kit_is | k_exc | rfl | kernel_rfl | decide | ks_is | kx_is)
    (case xti127 => first | k_is | kit_is | k_exc | rfl | kernel_rfl | decide | ks_is | kx_is)
    (case xsu127 => first | k_is | kit_is | k_exc | rfl | kernel_rfl | decide | ks_is | kx_is)
    (case xn127_steps => first | k_is | kit_is | k_exc | rfl | kernel_rfl | decide | ks_is | kx_is)
    (case xl127 => first | k_is | kit_is | k_exc | rfl | kernel_rfl | decide | ks_is | kx_is)
    (case xci127 => first | k_is | kit_is | k_exc | rfl | kernel_rfl | decide | ks_is | kx_is)
    (case xki127 => first | k_is | kit_is | k_exc | rfl | kernel_rfl | decide | ks_is | kx_is)
    (case xlc127 => first | k_is | kit_is | k_exc | rfl | kernel_rfl | decide | ks_is | kx_is)
    (case xlv127 => first | k_is | kit_is | k_exc | rfl | kernel_rfl | decide | ks_is | kx_is)
    (case xlz127 => first | k_is | kit_is | k_exc | rfl | kernel_rfl | decide | ks_is | kx_is)
    (case xld127 => first | k_is | kit_is | k_exc | rfl | kernel_rfl | decide | ks_is | kx_is)
    (case yv126 => kernel_rfl)
    (case xb126 => first | k_is | kit_is | k_exc | rfl | kernel_rfl | decide | ks_is | kx_is)
    (case xt126 => first | k_is | kit_is | k_exc | rfl | kernel_rfl | decide | ks_is | kx_is)
    (case xd126 => first | k_is | kit_is | k_exc | rfl | kernel_rfl | decide | ks_is | kx_is)
    (case xq126 => first | k_is | kit_is | k_exc | rfl | kernel_rfl | decide | ks_is | kx_is)
    (case xv126 => first | k_is | kit_is | k_exc | rfl | kernel_rfl | decide | ks_is | kx_is)
    (case xsa126 => first | k_is | kit_is | k_exc | rfl | kernel_rfl | decide | ks_is | kx_is)
    (case xk126 => first | k_is | kit_is | k_exc | rfl | kernel_rfl | decide | ks_is | kx_is)
    (case xe126 => first | k_is | kit_is | k_exc | rfl | kernel_rfl | decide | ks_is | kx_is)
    (case xmr126 => first | k_is | kit_is | k_exc | rfl | kernel_rfl | decide | ks_is | kx_is)
    (case xan126 => first | k_is | kit_is | k_exc | rfl | kernel_rfl | decide | ks_is | kx_is)
    (case xii126 => first | k_is | kit_is | k_exc | rfl | kernel_rfl | decide | ks_is | kx_is)
    (case xti126 => first | k_is | kit_is | k_exc | rfl | kernel_rfl | decide | ks_is | kx_is)
    (case xsu126 => first | k_is | kit_is | k_exc | rfl | kernel_rfl | decide | ks_is | kx_is)
    (case xn126_order => first | k_is | kit_is | k_exc | rfl | kernel_rfl | decide | ks_is | kx_is)
    (case xn126_index => first | k_is | kit_is | k_exc | rfl | kernel_rfl | decide | ks_is | kx_is)
    (case xl126 => first | k_is | kit_is | k_exc | rfl | kernel_rfl | decide | ks_is | kx_is)
    (case xci126 => first | k_is | kit_is | k_exc | rfl | kernel_rfl | decide | ks_is | kx_is)
    (case xki126 => first | k_is | kit_is | k_exc | rfl | kernel_rfl | decide | ks_is | kx_is)
    (case xlc126 => first | k_is | kit_is | k_exc | rfl | kernel_rfl | decide | ks_is | kx_is)
    (case xlv126 => first | k_is | kit_is | k_exc | rfl | kernel_rfl | decide | ks_is | kx_is)
    (case xlz126 => first | k_is | kit_is | k_exc | rfl | kernel_rfl | decide | ks_is | kx_is)
    (case xld126 => first | k_is | kit_is | k_exc | rfl | kernel_rfl | decide | ks_is | kx_is)
    (case yv125 => kernel_rfl)
    (case xb125 => first | k_is | kit_is | k_exc | rfl | kernel_rfl | decide | ks_is | kx_is)
    (case xt125 => first | k_is | kit_is | k_exc | rfl | kernel_rfl | decide | ks_is | kx_is)
    (case xd125 => first | k_is | kit_is | k_exc | rfl | kernel_rfl | decide | ks_is | kx_is)
    (case xq125 => first | k_is | kit_is | k_exc | rfl | kernel_rfl | decide | ks_is | kx_is)
    (case xv125 => first | k_is | kit_is | k_exc | rfl | kernel_rfl | decide | ks_is | kx_is)
    (case xsa125 => first | k_is | kit_is | k_exc | rfl | kernel_rfl | decide | ks_is | kx_is)
    (case xk125 => first | k_is | kit_is | k_exc | rfl | kernel_rfl | decide | ks_is | kx_is)
    (case xe125 => first | k_is | kit_is | k_exc | rfl | kernel_rfl | decide | ks_is | kx_is)
    (case xmr125 => first | k_is | kit_is | k_exc | rfl | kernel_rfl | decide | ks_is | kx_is)
    (case xan125 => first | k_is | kit_is | k_exc | rfl | kernel_rfl | decide | ks_is | kx_is)
    (case xii125 => first | k_is | kit_is | k_exc | rfl | kernel_rfl | decide | ks_is | kx_is)
    (case xti125 => first | k_is | kit_is | k_exc | rfl | kernel_rfl | decide | ks_is | kx_is)
    (case xsu125 => first | k_is | kit_is | k_exc | rfl | kernel_rfl | decide | ks_is | kx_is)
    (case xn125_amount => first | k_is | kit_is | k_exc | rfl | kernel_rfl | decide | ks_is | kx_is)
    (case xn125_limit => first | k_is | kit_is | k_exc | rfl | kernel_rfl | decide | ks_is | kx_is)
    (case xl125 => first | k_is | kit_is | k_exc | rfl | kernel_rfl | decide | ks_is | kx_is)
    (case xci125 => first | k_is | kit_is | k_exc | rfl | kernel_rfl | decide | ks_is | kx_is)
    (case xki125 => first | k_is | kit_is | k_exc | rfl | kernel_rfl | decide | ks_is | kx_is)
    (case xlc125 => first | k_is | kit_is | k_exc | rfl | kernel_rfl | decide | ks_is | kx_is)
    (case xlv125 => first | k_is | kit_is | k_exc | rfl | kernel_rfl | decide | ks_is | kx_is)
    (case xlz125 => first | k_is | kit_is | k_exc | rfl | kernel_rfl | decide | ks_is | kx_is)
    (case xld125 => first | k_is | kit_is | k_exc | rfl | kernel_rfl | decide | ks_is | kx_is)
    (case yk => kernel_rfl)
    (case ye => kernel_rfl)
    (case z_isinstance => first | k_is | kit_is | k_exc | rfl | kernel_rfl | decide | ks_is | kx_is)
    (case z_super => first | k_is | kit_is | k_exc | rfl | kernel_rfl | decide | ks_is | kx_is)
    (case z_enumerate => first | k_is | kit_is | k_exc | rfl | kernel_rfl | decide | ks_is | kx_is)
    (case z_Exception => first | k_is | kit_is | k_exc | rfl | kernel_rfl | decide | ks_is | kx_is)
    (case z_len => first | k_is | kit_is | k_exc | rfl | kernel_rfl | decide | ks_is | kx_is)
    (case z_min => first | k_is | kit_is | k_exc | rfl | kernel_rfl | decide | ks_is | kx_is)
    (case z_max => first | k_is | kit_is | k_exc | rfl | kernel_rfl | decide | ks_is | kx_is)
    (case z_range => first | k_is | kit_is | k_exc | rfl | kernel_rfl | decide | ks_is | kx_is)
    (case z_int => first | k_is | kit_is | k_exc | rfl | kernel_rfl | decide | ks_is | kx_is)
#print axioms PySem.Challenge.cw_forklots_k26_exceptions_made_holds
