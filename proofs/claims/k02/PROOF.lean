import PyProof.Rows.All
import Wide.All
import OpenK.AllK
import Wide.FinOn
import HandS.Base
import HandS.Call
import HandS.List
import HandS.Comp
import HandS.Ends
import HandS.Dict
import HandS.Iter
import HandS.Text
import HandS.Words
import HandS.WordsList
import HandS.WordsDict
import HandS.Lambda
import KE.KeyNested
import KE.KDictCopyH
import HandS.WordsExc
import HandS.TryOnly
import HandS.ExcOwn
import HandS.Flow
import HandS.Star
import HandS.TupAny
import HandS.Wide
import HandS.Deep
import HandS.TupMul
import HandS.TupLe
import HandS.IsInst
import HandS.More
import HandS.NoneIn
import HandS.Style
import HandS.Bytes
import HandS.Zip
import KE.GoesEnumKw
import HandS.TupSets
import KE.SortData
import HandS.OwnEq
import HandS.SlotsOwn
import HandS.FStr
import HandS.ClsMeth
import HandS.BytesMake
import HandS.Codes
import KE.RegKIsAll
import HandS.ExcIs
import HandS.HotCalls
import HandS.EndTab
import HandS.EndOwn
import HandS.Property
import HandS.Defaults
import KE.KOpsOwn
import Flt.Ops
import PyProof.StrReplace2
import PyProof.FactsAll.bool_1
import PyProof.FactsAll.bool_2
import KE.LtData
import KE.BytesMul
import KE.KBytesStep
import PyProof.CollectStr
import KE.KDictKeyed
import KE.KDictDisplayH
import HandS.Conv
import HandS.SetBool
import HandS.Strs
import PyProof.EqAt
import PySem.Challenge.RW_forklots_k02_seq_and_par
set_option Elab.async false
set_option maxRecDepth 100000
set_option maxHeartbeats 4000000
set_option linter.unusedVariables false
set_option linter.unusedSimpArgs false
set_option linter.all false
namespace Mi
open PySem L2
inductive T where
  | non
  | bl (b : Bool)
  | int (i : Int)
  | str (s : Str)
  | byt (b : Array UInt8)
  | ty (n : String)
  | tup (ts : List T)
  | lst (ts : List T)
  | frz (ts : List T)
  | dct (ks : List Key) (ts : List T)
  | ref (i : Nat)
  | adr (i : Nat)
  | ptp (ts : List T)

inductive O where
  | lst (ts : List T)
  | dct (kvs : List (Key × T))
  | ins (c : Nat) (fs : List (Str × T))
  | dtt (kvs : List (List Key × T))
  | dtn (kvs : List (NestedKey × T))

abbrev Sto := List O
abbrev Sl := List (Option T)

structure Exn where
  c : Nat
  fs : List (Str × T)

inductive R (α : Type) where
  | ok (a : α) (st : Sto)
  | exc (e : Exn) (st : Sto)
  | bad

namespace R
def bind {α β : Type} (r : R α) (f : α → Sto → R β) : R β :=
  match r with
  | .ok a st => f a st
  | .exc e st => .exc e st
  | .bad => .bad
@[simp] theorem bind_ok {α β : Type} (a : α) (st : Sto) (f : α → Sto → R β) : (R.ok a st).bind f = f a st := rfl
@[simp] theorem bind_exc {α β : Type} (e : Exn) (st : Sto) (f : α → Sto → R β) : (R.exc e st : R α).bind f = .exc e st := rfl
@[simp] theorem bind_bad {α β : Type} (f : α → Sto → R β) : (R.bad : R α).bind f = .bad := rfl
end R
structure Ad where
  fn : Nat → Addr
  hid : List Addr
  tabs : List (Addr × Str)
def Ad.hide (ad : Ad) (l : List Addr) : Ad := ⟨ad.fn, l, ad.tabs⟩
def NT (o : HO) : Prop := ∀ ps, o ≠ .tbl ps
def N0 (H : Hp) (a : Addr) : Prop := ∀ o, H a = some o → ∃ ps, o = .tbl ps
theorem n0_none {H : Hp} {a : Addr} (h : H a = none) : N0 H a := fun o e => by rw [h] at e; cases e
theorem N0.no {H : Hp} {a : Addr} {o : HO} (n : N0 H a) (h : H a = some o) (t : NT o) : False := by
  obtain ⟨ps, e⟩ := n o h
  exact t ps e
theorem tabs_upd {T : List (Addr × Str)} {H : Hp} {p : Addr} {u : HO} (t : LamX.Tabs T H) (h1 : ∀ ps, H p ≠ some (.tbl ps)) (h2 : ∀ q, H p ≠ some (LamX.CodeO p q)) : LamX.Tabs T (upd H p u) := fun q hq => by
  obtain ⟨ps, e1, e2, e3⟩ := t q hq
  refine ⟨ps, by rw [upd_ne (fun z => h1 ps (by rw [← z]; exact e1))]; exact e1, e2, fun pos cv hc => ?_⟩
  obtain ⟨c, z1, z2⟩ := e3 pos cv hc
  exact ⟨c, z1, by rw [upd_ne (fun z => h2 _ (by rw [← z]; exact z2))]; exact z2⟩

abbrev noH : Hp := fun _ => none
def TupAt (K : PySem.W.Frag) (as : List Addr) (H : Hp) (a : Addr) (xs : List V) : Prop :=
  ((a ∈ as → False) ∧ Rd H a (.tup xs)) ∨ SqT K noH a xs
def LstAt (hid as : List Addr) (H : Hp) (a : Addr) (xs : List V) : Prop := ((a ∈ as → False) ∧ (a ∈ hid → False)) ∧ H a = some (.lst xs)
def FrzAt (K : PySem.W.Frag) (as : List Addr) (H : Hp) (a : Addr) (xs : List V) : Prop :=
  ((a ∈ as → False) ∧ ∃ o, H a = some (.frz o (.lst xs))) ∨ SqL K noH a xs

def PtpAt (as : List Addr) (H : Hp) (a : Addr) (xs : List V) : Prop := (a ∈ as → False) ∧ ∃ ob : Obj, H a = some (.frz ob (.tup xs)) ∧ ob.cls = .type "tuple" ∧ ob.dict = none

mutual
/-- v stands for the mirror value, over the abstract heap H with the store's addresses as -/
inductive Rep (K : PySem.W.Frag) (ad : Ad) (as : List Addr) (H : Hp) : V → T → Prop
  | non : Rep K ad as H .non .non
  | bl (b : Bool) : Rep K ad as H (.bl b) (.bl b)
  | int (i : Int) : Rep K ad as H (.int i) (.int i)
  | str (s : Str) : Rep K ad as H (.str s) (.str s)
  | byt (b : Array UInt8) : Rep K ad as H (.byt b) (.byt b)
  | ty (n : String) : Rep K ad as H (.ty n) (.ty n)
  | tup {a : Addr} {xs : List V} {ts : List T} : TupAt K as H a xs → Reps K ad as H xs ts → Rep K ad as H (.ref a) (.tup ts)
  | lst {a : Addr} {xs : List V} {ts : List T} : LstAt ad.hid as H a xs → Reps K ad as H xs ts → Rep K ad as H (.ref a) (.lst ts)
  | frz {a : Addr} {xs : List V} {ts : List T} : FrzAt K as H a xs → Reps K ad as H xs ts → Rep K ad as H (.ref a) (.frz ts)
  | dct {a : Addr} {kvs : List (Key × V)} {ks : List Key} {ts : List T} : ((a ∈ as → False) ∧ (a ∈ ad.hid → False)) → H a = some (.dK kvs) → kvs.map (·.1) = ks → Reps K ad as H (kvs.map (·.2)) ts → Rep K ad as H (.ref a) (.dct ks ts)
  | ref {i : Nat} {a : Addr} : as[i]? = some a → Rep K ad as H (.ref a) (.ref i)
  | adr (i : Nat) : Rep K ad as H (.ref (ad.fn i)) (.adr i)
  | ptp {a : Addr} {xs : List V} {ts : List T} : PtpAt as H a xs → Reps K ad as H xs ts → Rep K ad as H (.ref a) (.ptp ts)
inductive Reps (K : PySem.W.Frag) (ad : Ad) (as : List Addr) (H : Hp) : List V → List T → Prop
  | nil : Reps K ad as H [] []
  | cons {v : V} {vs : List V} {t : T} {ts : List T} : Rep K ad as H v t → Reps K ad as H vs ts → Reps K ad as H (v :: vs) (t :: ts)
end
inductive RepF (K : PySem.W.Frag) (ad : Ad) (as : List Addr) (H : Hp) : List (Str × V) → List (Str × T) → Prop
  | nil : RepF K ad as H [] []
  | cons {f : Str} {v : V} {vs : List (Str × V)} {t : T} {ts : List (Str × T)} : Rep K ad as H v t → RepF K ad as H vs ts → RepF K ad as H ((f, v) :: vs) ((f, t) :: ts)

mutual
/-- a key as a value -/
def kT : NestedKey → T
  | .none => .non
  | .num i => .int i
  | .text x => .str x
  | .tup ks => .tup (kTs ks)
def kTs : List NestedKey → List T
  | [] => []
  | k :: ks => kT k :: kTs ks
end
mutual
/-- no text in it: its hash is the same in every world -/
def noTx : NestedKey → Bool
  | .none => true
  | .num _ => true
  | .text _ => false
  | .tup ks => noTxs ks
def noTxs : List NestedKey → Bool
  | [] => true
  | k :: ks => noTx k && noTxs ks
end
def nkOk (k : NestedKey) : Bool := noTx k && decide (k.depth ≤ 8)
def DNp (a : Addr) (xs : List (NestedKey × Addr × V)) (h : Heap) : Prop :=
  ∃ (o : Obj) (es : Array DictEntry) (ep : Nat), h.get? a = some o ∧ o.ExactDict ∧ o.data = .dict es ep ∧ Paired (fun (p : NestedKey × Addr × V) (e : DictEntry) => e.key = .ref p.2.1 ∧ RelV p.2.2 e.val ∧ ∀ w, e.hash = p.1.hash w) xs es.toList
def DN (a : Addr) (xs : List (NestedKey × Addr × V)) : HO := .ext (DNp a xs)
theorem dn_code {a : Addr} {xs : List (NestedKey × Addr × V)} {q : Str} : DN a xs ≠ LamX.CodeO a q := by
  intro z
  unfold DN LamX.CodeO at z
  injection z with z
  have h := congrFun z ⟨Array.replicate (a + 1) ⟨.none, none, .fields #[.none, .str q 0], #[]⟩, {}⟩
  have e : (⟨Array.replicate (a + 1) ⟨.none, none, .fields #[.none, .str q 0], #[]⟩, {}⟩ : Heap).get? a = some ⟨.none, none, .fields #[.none, .str q 0], #[]⟩ := by
    unfold Heap.get?
    simp
  have h2 := h.mpr ⟨_, _, _, e, rfl, rfl⟩
  obtain ⟨o, es, ep, h3, _, h5, _⟩ := h2
  rw [e] at h3
  cases h3
  cases h5
def ORep (K : PySem.W.Frag) (ad : Ad) (as : List Addr) (H : Hp) (a : Addr) : O → Prop
  | .lst ts => ∃ xs, H a = some (.lst xs) ∧ Reps K ad as H xs ts
  | .dct kvs => ∃ xs : List (Key × V), H a = some (.dK xs) ∧ xs.map (·.1) = kvs.map (·.1) ∧ Reps K ad as H (xs.map (·.2)) (kvs.map (·.2))
  | .dtt kvs => ∃ xs : List (List Key × V), H a = some (.dT xs) ∧ xs.map (·.1) = kvs.map (·.1) ∧ Reps K ad as H (xs.map (·.2)) (kvs.map (·.2))
  | .dtn kvs => ∃ xs : List (NestedKey × Addr × V), H a = some (DN a xs) ∧ ((a == sysModules) = false ∧ kvs.length ≤ sizeLine ∧ (kvs.map (·.1)).Nodup ∧ ∀ kv ∈ kvs, nkOk kv.1 = true) ∧ xs.map (·.1) = kvs.map (·.1) ∧ Reps K ad as H (xs.map (·.2.2)) (kvs.map (·.2)) ∧ Reps K ad as H (xs.map fun x => .ref x.2.1) (kvs.map fun kv => kT kv.1)
  | .ins c fs => ∃ dx gs, H a = some (.ins (ad.fn c) dx gs) ∧ H dx = some (.own a) ∧ (dx ∈ as → False) ∧ RepF K ad as H gs fs

structure Ab (K : PySem.W.Frag) (ad : Ad) (as : List Addr) (st : Sto) (H : Hp) : Prop where
  len : as.length = st.length
  nd : as.Nodup
  obj : ∀ (i : Nat) (a : Addr) (o : O), as[i]? = some a → st[i]? = some o → ORep K ad as H a o
  hid : ∀ a ∈ ad.hid, (a ∈ as → False) ∧ ∃ u, H a = some u ∧ NT u
  tabs : LamX.Tabs ad.tabs H

structure Ext (as : List Addr) (H : Hp) (as' : List Addr) (H' : Hp) : Prop where
  more : ∃ l, as' = as ++ l ∧ ∀ a ∈ l, N0 H a
  keep : ∀ a o, (a ∈ as → False) → H a = some o → NT o → H' a = some o
  dom : ∀ a, N0 H' a → N0 H a

section
variable {K : PySem.W.Frag} {ad : Ad} {as as' as2 : List Addr} {H H' H2 : Hp} {st st' : Sto}
theorem Ext.refl : Ext as H as H := ⟨⟨[], by simp, by simp⟩, fun _ _ _ h _ => h, fun _ h => h⟩
theorem Ext.trans (a : Ext as H as' H') (b : Ext as' H' as2 H2) : Ext as H as2 H2 := by
  obtain ⟨⟨l, rfl, hl⟩, k1, d1⟩ := a
  obtain ⟨⟨m, rfl, hm⟩, k2, d2⟩ := b
  refine ⟨⟨l ++ m, by simp, fun a ha => ?_⟩, fun a o na h nt => ?_, fun a h => d1 a (d2 a h)⟩
  · rcases List.mem_append.mp ha with h | h
    · exact hl a h
    · exact d1 a (hm a h)
  · refine k2 a o (fun h' => ?_) (k1 a o na h nt) nt
    rcases List.mem_append.mp h' with h' | h'
    · exact na h'
    · exact (hl a h').no h nt
theorem Ext.nin (e : Ext as H as' H') {a : Addr} {o : HO} (na : a ∈ as → False) (h : H a = some o) (nt : NT o := by intro _ z; cases z) : a ∈ as' → False := by
  obtain ⟨⟨l, rfl, hl⟩, _, _⟩ := e
  intro h'
  rcases List.mem_append.mp h' with h' | h'
  · exact na h'
  · exact (hl a h').no h nt
theorem Ext.kp (e : Ext as H as' H') {a : Addr} {o : HO} (na : a ∈ as → False) (h : H a = some o) (nt : NT o := by intro _ z; cases z) : H' a = some o := e.keep a o na h nt
theorem Ext.get (e : Ext as H as' H') {i : Nat} {a : Addr} (h : as[i]? = some a) : as'[i]? = some a := by
  obtain ⟨⟨l, rfl, hl⟩, _, _⟩ := e
  rw [List.getElem?_append_left (List.getElem?_eq_some_iff.mp h).1]
  exact h

theorem TupAt.sq {a : Addr} {xs : List V} (h : TupAt K as H a xs) : SqT K H a xs := by
  rcases h with h | h
  · exact .inl h.2
  · rcases h with (h | ⟨o, h⟩) | h
    · cases h
    · cases h
    · exact .inr h
theorem FrzAt.sq {a : Addr} {xs : List V} (h : FrzAt K as H a xs) : SqL K H a xs := by
  rcases h with ⟨_, o, h⟩ | h
  · exact .inl (.inr ⟨o, h⟩)
  · rcases h with (h | ⟨o, h⟩) | h
    · cases h
    · cases h
    · exact .inr h
theorem TupAt.ext {a : Addr} {xs : List V} (h : TupAt K as H a xs) (e : Ext as H as' H') : TupAt K as' H' a xs := by
  rcases h with ⟨n, h⟩ | h
  · rcases h with h | ⟨o, h⟩
    · exact .inl ⟨e.nin n h, .inl (e.kp n h)⟩
    · exact .inl ⟨e.nin n h, .inr ⟨o, e.kp n h⟩⟩
  · exact .inr h
theorem LstAt.ext {hid : List Addr} {a : Addr} {xs : List V} (h : LstAt hid as H a xs) (e : Ext as H as' H') : LstAt hid as' H' a xs := ⟨⟨e.nin h.1.1 h.2, h.1.2⟩, e.kp h.1.1 h.2⟩
theorem FrzAt.ext {a : Addr} {xs : List V} (h : FrzAt K as H a xs) (e : Ext as H as' H') : FrzAt K as' H' a xs := by
  rcases h with ⟨n, o, h⟩ | h
  · exact .inl ⟨e.nin n h, o, e.kp n h⟩
  · exact .inr h
theorem PtpAt.ext {a : Addr} {xs : List V} (h : PtpAt as H a xs) (e : Ext as H as' H') : PtpAt as' H' a xs := by
  obtain ⟨n, ob, h, hc, hd⟩ := h
  exact ⟨e.nin n h, ob, e.kp n h, hc, hd⟩
mutual
theorem Rep.ext (e : Ext as H as' H') : ∀ {v : V} {t : T}, Rep K ad as H v t → Rep K ad as' H' v t
  | _, _, .non => .non
  | _, _, .bl b => .bl b
  | _, _, .int b => .int b
  | _, _, .str b => .str b
  | _, _, .byt b => .byt b
  | _, _, .ty b => .ty b
  | _, _, .tup h r => .tup (h.ext e) (Reps.ext e r)
  | _, _, .lst h r => .lst (h.ext e) (Reps.ext e r)
  | _, _, .frz h r => .frz (h.ext e) (Reps.ext e r)
  | _, _, .dct n h k r => .dct ⟨e.nin n.1 h, n.2⟩ (e.kp n.1 h) k (Reps.ext e r)
  | _, _, .ref h => .ref (e.get h)
  | _, _, .adr i => .adr i
  | _, _, .ptp h r => .ptp (h.ext e) (Reps.ext e r)
theorem Reps.ext (e : Ext as H as' H') : ∀ {v : List V} {t : List T}, Reps K ad as H v t → Reps K ad as' H' v t
  | _, _, .nil => .nil
  | _, _, .cons r s => .cons (Rep.ext e r) (Reps.ext e s)
end
theorem RepF.ext (e : Ext as H as' H') : ∀ {v : List (Str × V)} {t : List (Str × T)}, RepF K ad as H v t → RepF K ad as' H' v t
  | _, _, .nil => .nil
  | _, _, .cons r s => .cons (r.ext e) (RepF.ext e s)
theorem Reps.length : ∀ {v : List V} {t : List T}, Reps K ad as H v t → v.length = t.length
  | _, _, .nil => rfl
  | _, _, .cons _ s => congrArg (· + 1) (Reps.length s)
theorem Reps.append : ∀ {v w : List V} {t u : List T}, Reps K ad as H v t → Reps K ad as H w u → Reps K ad as H (v ++ w) (t ++ u)
  | _, _, _, _, .nil, s => s
  | _, _, _, _, .cons r s, q => .cons r (Reps.append s q)
theorem Reps.get : ∀ {v : List V} {t : List T} {i : Nat} {x : T}, Reps K ad as H v t → t[i]? = some x → ∃ y, v[i]? = some y ∧ Rep K ad as H y x
  | _, _, _, _, .nil, h => by simp at h
  | _, _, 0, _, .cons r s, h => by simp at h; subst h; exact ⟨_, rfl, r⟩
  | _, _, i + 1, _, .cons r s, h => by
    obtain ⟨y, h1, h2⟩ := Reps.get (i := i) s (by simpa using h)
    exact ⟨y, by simpa using h1, h2⟩
theorem Reps.take : ∀ {v : List V} {t : List T} (n : Nat), Reps K ad as H v t → Reps K ad as H (v.take n) (t.take n)
  | _, _, 0, _ => by simp; exact .nil
  | _, _, _ + 1, .nil => .nil
  | _, _, n + 1, .cons r s => .cons r (Reps.take n s)
theorem Reps.drop : ∀ {v : List V} {t : List T} (n : Nat), Reps K ad as H v t → Reps K ad as H (v.drop n) (t.drop n)
  | _, _, 0, r => r
  | _, _, _ + 1, .nil => .nil
  | _, _, n + 1, .cons _ s => Reps.drop n s
theorem Reps.set {x : V} {y : T} (r : Rep K ad as H x y) : ∀ {v : List V} {t : List T} (n : Nat), Reps K ad as H v t → Reps K ad as H (v.set n x) (t.set n y)
  | _, _, _, .nil => .nil
  | _, _, 0, .cons _ s => .cons r s
  | _, _, n + 1, .cons q s => .cons q (Reps.set r n s)
theorem Reps.reverse : ∀ {v : List V} {t : List T}, Reps K ad as H v t → Reps K ad as H v.reverse t.reverse
  | _, _, .nil => .nil
  | _, _, .cons r s => by
    rw [List.reverse_cons, List.reverse_cons]
    exact Reps.append (Reps.reverse s) (.cons r .nil)
theorem Ext.fresh {p : Addr} {o : HO} (h : H p = none) : Ext as H as (upd H p o) := by
  refine ⟨⟨[], by simp, by simp⟩, fun a u _ q _ => ?_, fun a q => ?_⟩
  · rw [upd_ne (ne_of_none q h)]; exact q
  · by_cases e : a = p
    · subst e; exact n0_none h
    · intro o z
      exact q o (by rw [upd_ne e]; exact z)
theorem ORep.ext (e : Ext as H as' H') {a : Addr} {o : O} (h : ORep K ad as H a o) (hk : ∀ u, H a = some u → H' a = some u) : ORep K ad as' H' a o := by
  cases o with
  | lst ts =>
    obtain ⟨xs, h1, h2⟩ := h
    exact ⟨xs, hk _ h1, h2.ext e⟩
  | dct kvs =>
    obtain ⟨xs, h1, h2, h3⟩ := h
    exact ⟨xs, hk _ h1, h2, h3.ext e⟩
  | dtt kvs =>
    obtain ⟨xs, h1, h2, h3⟩ := h
    exact ⟨xs, hk _ h1, h2, h3.ext e⟩
  | dtn kvs =>
    obtain ⟨xs, h1, h2, h3, h4, h5⟩ := h
    exact ⟨xs, hk _ h1, h2, h3, h4.ext e, h5.ext e⟩
  | ins c fs =>
    obtain ⟨dx, gs, h1, h2, h3, h4⟩ := h
    exact ⟨dx, gs, hk _ h1, e.kp h3 h2, e.nin h3 h2, h4.ext e⟩
theorem Ab.get (A : Ab K ad as st H) {i : Nat} {o : O} (h : st[i]? = some o) : ∃ a, as[i]? = some a ∧ ORep K ad as H a o := by
  have hi : i < as.length := by
    have := (List.getElem?_eq_some_iff.mp h).1
    have := A.len
    omega
  exact ⟨as[i], by simp [hi], A.obj i as[i] o (by simp [hi]) h⟩
theorem ORep.is {a : Addr} {o : O} (h : ORep K ad as H a o) : ∃ u, H a = some u := by
  cases o with
  | lst ts => obtain ⟨xs, h, _⟩ := h; exact ⟨_, h⟩
  | dct ts => obtain ⟨xs, h, _⟩ := h; exact ⟨_, h⟩
  | dtt ts => obtain ⟨xs, h, _⟩ := h; exact ⟨_, h⟩
  | dtn ts => obtain ⟨xs, h, _⟩ := h; exact ⟨_, h⟩
  | ins c fs => obtain ⟨_, _, h, _⟩ := h; exact ⟨_, h⟩
theorem Ab.mem (A : Ab K ad as st H) {a : Addr} (h : a ∈ as) : ∃ u, H a = some u := by
  obtain ⟨i, hi, e⟩ := List.getElem_of_mem h
  have hs : i < st.length := by have := A.len; omega
  exact (A.obj i a st[i] (by rw [List.getElem?_eq_getElem hi, e]) (by simp [hs])).is
theorem Ab.nin (A : Ab K ad as st H) {p : Addr} (h : H p = none) : p ∈ as → False := fun q => by
  obtain ⟨u, e⟩ := A.mem q
  rw [h] at e; cases e
theorem Ab.fresh (A : Ab K ad as st H) {p : Addr} {u : HO} (h : H p = none) : Ab K ad as st (upd H p u) := by
  refine ⟨A.len, A.nd, fun i a o h1 h2 => (A.obj i a o h1 h2).ext (Ext.fresh h) fun v q => ?_, fun a ha => ?_, ?_⟩
  · rw [upd_ne (ne_of_none q h)]; exact q
  · obtain ⟨n, u, q, nt⟩ := A.hid a ha
    exact ⟨n, u, by rw [upd_ne (ne_of_none q h)]; exact q, nt⟩
  · exact tabs_upd A.tabs (fun ps z => by rw [h] at z; cases z) (fun ps z => by rw [h] at z; cases z)
theorem Ab.newO (A : Ab K ad as st H) {p : Addr} {u : HO} {o : O} (h : H p = none) (r : Ext as H (as ++ [p]) (upd H p u) → ORep K ad (as ++ [p]) (upd H p u) p o) :
    Ab K ad (as ++ [p]) (st ++ [o]) (upd H p u) ∧ Ext as H (as ++ [p]) (upd H p u) ∧ Rep K ad (as ++ [p]) (upd H p u) (.ref p) (.ref st.length) := by
  have e : Ext as H (as ++ [p]) (upd H p u) := by
    refine ⟨⟨[p], rfl, fun a ha => ?_⟩, (Ext.fresh (as := as) h).keep, (Ext.fresh (as := as) h).dom⟩
    simp at ha; subst ha; exact n0_none h
  refine ⟨⟨by simp [A.len], ?_, fun i a o h1 h2 => ?_, fun a ha => ?_, tabs_upd A.tabs (fun ps z => by rw [h] at z; cases z) (fun ps z => by rw [h] at z; cases z)⟩, e, .ref ?_⟩
  · rw [List.nodup_append]
    exact ⟨A.nd, by simp, fun a ha b hb q => by simp at hb; subst hb; subst q; exact A.nin h ha⟩
  · by_cases hi : i < st.length
    · rw [List.getElem?_append_left (by rw [A.len]; exact hi)] at h1
      rw [List.getElem?_append_left hi] at h2
      refine (A.obj i a o h1 h2).ext e fun v q => ?_
      rw [upd_ne (ne_of_none q h)]; exact q
    · have hi' : i = st.length := by
        have := (List.getElem?_eq_some_iff.mp h2).1
        simp at this
        omega
      subst hi'
      rw [← A.len, List.getElem?_append_right (Nat.le_refl _)] at h1
      rw [List.getElem?_append_right (Nat.le_refl _)] at h2
      simp at h1 h2
      subst h1; subst h2
      exact r e
  · obtain ⟨n, u, q, nt⟩ := A.hid a ha
    have na := ne_of_none q h
    exact ⟨fun hm => (List.mem_append.mp hm).elim n fun z => na (by simpa using z), u, by rw [upd_ne na]; exact q, nt⟩
  · rw [← A.len, List.getElem?_append_right (Nat.le_refl _)]
    simp
theorem Ab.newLst (A : Ab K ad as st H) {p : Addr} {xs : List V} {ts : List T} (h : H p = none) (r : Reps K ad as H xs ts) :
    Ab K ad (as ++ [p]) (st ++ [.lst ts]) (upd H p (.lst xs)) ∧ Ext as H (as ++ [p]) (upd H p (.lst xs)) ∧ Rep K ad (as ++ [p]) (upd H p (.lst xs)) (.ref p) (.ref st.length) :=
  A.newO h fun e => ⟨xs, upd_same, r.ext e⟩
theorem ORep.soft {a : Addr} {o : O} (h : ORep K ad as H a o) : (∀ ps, H a ≠ some (.tbl ps)) ∧ ∀ q, H a ≠ some (LamX.CodeO a q) := by
  cases o with
  | lst ts =>
    obtain ⟨xs, e, _⟩ := h
    exact ⟨fun _ z => (by rw [e] at z; cases z), fun _ z => (by rw [e] at z; cases z)⟩
  | dct kvs =>
    obtain ⟨xs, e, _⟩ := h
    exact ⟨fun _ z => (by rw [e] at z; cases z), fun _ z => (by rw [e] at z; cases z)⟩
  | dtt kvs =>
    obtain ⟨xs, e, _⟩ := h
    exact ⟨fun _ z => (by rw [e] at z; cases z), fun _ z => (by rw [e] at z; cases z)⟩
  | dtn kvs =>
    obtain ⟨xs, e, _⟩ := h
    exact ⟨fun _ z => (by rw [e] at z; cases z), fun _ z => (by rw [e] at z; exact dn_code (Option.some.inj z))⟩
  | ins c fs =>
    obtain ⟨_, _, e, _⟩ := h
    exact ⟨fun _ z => (by rw [e] at z; cases z), fun _ z => (by rw [e] at z; cases z)⟩
theorem Ab.putO (A : Ab K ad as st H) {i : Nat} {p : Addr} {u : HO} {o : O} (hp : as[i]? = some p) (hi : i < st.length) (r : Ext as H as (upd H p u) → ORep K ad as (upd H p u) p o) (nu : NT u := by intro _ z; cases z) :
    Ab K ad as (st.set i o) (upd H p u) ∧ Ext as H as (upd H p u) := by
  have mem : p ∈ as := List.mem_of_getElem? hp
  have sf := (A.obj i p st[i] hp (by simp [hi])).soft
  have e : Ext as H as (upd H p u) := by
    refine ⟨⟨[], by simp, by simp⟩, fun a o na q _ => ?_, fun a q => ?_⟩
    · rw [upd_ne (by rintro rfl; exact na mem)]; exact q
    · by_cases z : a = p
      · subst z
        exact (q.no upd_same nu).elim
      · intro o w
        exact q o (by rw [upd_ne z]; exact w)
  refine ⟨⟨by simp [A.len], A.nd, fun j a o h1 h2 => ?_, fun a ha => ?_, tabs_upd A.tabs sf.1 sf.2⟩, e⟩
  rotate_left
  · obtain ⟨n, u, q, nt⟩ := A.hid a ha
    exact ⟨n, u, by rw [upd_ne (by rintro rfl; exact n mem)]; exact q, nt⟩
  by_cases hj : j = i
  · subst hj
    rw [hp] at h1; cases h1
    rw [List.getElem?_set_self hi] at h2
    cases h2
    exact r e
  · rw [List.getElem?_set_ne (fun q => hj q.symm)] at h2
    have na : a ≠ p := by
      rintro rfl
      obtain ⟨l1, e1⟩ := List.getElem?_eq_some_iff.mp h1
      obtain ⟨l2, e2⟩ := List.getElem?_eq_some_iff.mp hp
      exact hj ((List.getElem_inj A.nd).mp (e1.trans e2.symm))
    exact (A.obj j a o h1 h2).ext e fun v q => by rw [upd_ne na]; exact q
theorem Ab.putLst (A : Ab K ad as st H) {i : Nat} {p : Addr} {xs ys : List V} {ts us : List T} (hp : as[i]? = some p) (hs : st[i]? = some (.lst ts)) (hH : H p = some (.lst xs)) (r : Reps K ad as H ys us) :
    Ab K ad as (st.set i (.lst us)) (upd H p (.lst ys)) ∧ Ext as H as (upd H p (.lst ys)) :=
  A.putO hp (List.getElem?_eq_some_iff.mp hs).1 fun e => ⟨ys, upd_same, r.ext e⟩
theorem Ab.notHid (A : Ab K ad as st H) {p : Addr} (h : H p = none) : p ∈ ad.hid → False := fun q => by
  obtain ⟨_, u, e, _⟩ := A.hid p q
  rw [h] at e; cases e
mutual
/-- D begins -/
theorem Rep.hide {D : Addr} {o : HO} (hD : H D = none) : ∀ {v : V} {t : T}, Rep K ad as H v t → Rep K (ad.hide (D :: ad.hid)) as (upd H D o) v t
  | _, _, .non => .non
  | _, _, .bl b => .bl b
  | _, _, .int b => .int b
  | _, _, .str b => .str b
  | _, _, .byt b => .byt b
  | _, _, .ty b => .ty b
  | _, _, .tup h r => .tup (h.ext (Ext.fresh hD)) (Reps.hide hD r)
  | _, _, .lst h r => .lst ⟨⟨h.1.1, fun z => (List.mem_cons.mp z).elim (fun e => by rw [← e, h.2] at hD; cases hD) h.1.2⟩, by rw [upd_ne (ne_of_none h.2 hD)]; exact h.2⟩ (Reps.hide hD r)
  | _, _, .frz h r => .frz (h.ext (Ext.fresh hD)) (Reps.hide hD r)
  | _, _, .dct n h k r => .dct ⟨n.1, fun z => (List.mem_cons.mp z).elim (fun e => by rw [← e, h] at hD; cases hD) n.2⟩ (by rw [upd_ne (ne_of_none h hD)]; exact h) k (Reps.hide hD r)
  | _, _, .ref h => .ref h
  | _, _, .adr i => .adr (ad := ad.hide (D :: ad.hid)) i
  | _, _, .ptp h r => .ptp (h.ext (Ext.fresh hD)) (Reps.hide hD r)
theorem Reps.hide {D : Addr} {o : HO} (hD : H D = none) : ∀ {v : List V} {t : List T}, Reps K ad as H v t → Reps K (ad.hide (D :: ad.hid)) as (upd H D o) v t
  | _, _, .nil => .nil
  | _, _, .cons r s => .cons (Rep.hide hD r) (Reps.hide hD s)
end
theorem RepF.hide {D : Addr} {o : HO} (hD : H D = none) : ∀ {v : List (Str × V)} {t : List (Str × T)}, RepF K ad as H v t → RepF K (ad.hide (D :: ad.hid)) as (upd H D o) v t
  | _, _, .nil => .nil
  | _, _, .cons r s => .cons (r.hide hD) (RepF.hide hD s)
theorem Ab.hide {D : Addr} {o : HO} (hD : H D = none) (A : Ab K ad as st H) (no : NT o := by intro _ z; cases z) : Ab K (ad.hide (D :: ad.hid)) as st (upd H D o) := by
  refine ⟨A.len, A.nd, fun i a ob h1 h2 => ?_, fun a ha => ?_, tabs_upd A.tabs (fun ps z => by rw [hD] at z; cases z) (fun ps z => by rw [hD] at z; cases z)⟩
  · have q := A.obj i a ob h1 h2
    cases ob with
    | lst ts =>
      obtain ⟨xs, q1, q2⟩ := q
      exact ⟨xs, by rw [upd_ne (ne_of_none q1 hD)]; exact q1, q2.hide hD⟩
    | dct kvs =>
      obtain ⟨xs, q1, q2, q3⟩ := q
      exact ⟨xs, by rw [upd_ne (ne_of_none q1 hD)]; exact q1, q2, q3.hide hD⟩
    | dtt kvs =>
      obtain ⟨xs, q1, q2, q3⟩ := q
      exact ⟨xs, by rw [upd_ne (ne_of_none q1 hD)]; exact q1, q2, q3.hide hD⟩
    | dtn kvs =>
      obtain ⟨xs, q1, q2, q3, q4, q5⟩ := q
      exact ⟨xs, by rw [upd_ne (ne_of_none q1 hD)]; exact q1, q2, q3, q4.hide hD, q5.hide hD⟩
    | ins c fs =>
      obtain ⟨dx, gs, q1, q2, q3, q4⟩ := q
      exact ⟨dx, gs, by rw [upd_ne (ne_of_none q1 hD)]; exact q1, by rw [upd_ne (ne_of_none q2 hD)]; exact q2, q3, q4.hide hD⟩
  · rcases List.mem_cons.mp ha with e | ha
    · subst e
      exact ⟨A.nin hD, o, upd_same, no⟩
    · obtain ⟨n, u, q, nt⟩ := A.hid a ha
      exact ⟨n, u, by rw [upd_ne (ne_of_none q hD)]; exact q, nt⟩
def Soft (u : HO) : Prop := (∀ xs, u ≠ .tup xs) ∧ (∀ o q, u ≠ .frz o q) ∧ (∀ x, u ≠ .own x) ∧ NT u ∧ ∀ a q, u ≠ LamX.CodeO a q
theorem soft_lst {xs : List V} : Soft (.lst xs) := ⟨fun _ h => (by cases h), fun _ _ h => (by cases h), fun _ h => (by cases h), fun _ h => (by cases h), fun _ _ h => (by unfold LamX.CodeO at h; cases h)⟩
mutual
/-- D grows -/
theorem Rep.growO {D : Addr} {u z : HO} (hu : Soft u) (hh : D ∈ ad.hid) (hD : H D = some u) : ∀ {v : V} {t : T}, Rep K ad as H v t → Rep K ad as (upd H D z) v t
  | _, _, .non => .non
  | _, _, .bl b => .bl b
  | _, _, .int b => .int b
  | _, _, .str b => .str b
  | _, _, .byt b => .byt b
  | _, _, .ty b => .ty b
  | _, _, .tup h r => .tup (by
      rcases h with ⟨n, h | ⟨o, h⟩⟩ | h
      · exact .inl ⟨n, .inl (by rw [upd_ne (ne_of h hD (fun z => hu.1 _ z.symm))]; exact h)⟩
      · exact .inl ⟨n, .inr ⟨o, by rw [upd_ne (ne_of h hD (fun z => hu.2.1 _ _ z.symm))]; exact h⟩⟩
      · exact .inr h) (Reps.growO hu hh hD r)
  | _, _, .lst h r => .lst ⟨h.1, by rw [upd_ne (by intro e; exact h.1.2 (e ▸ hh))]; exact h.2⟩ (Reps.growO hu hh hD r)
  | _, _, .frz h r => .frz (by
      rcases h with ⟨n, o, h⟩ | h
      · exact .inl ⟨n, o, by rw [upd_ne (ne_of h hD (fun z => hu.2.1 _ _ z.symm))]; exact h⟩
      · exact .inr h) (Reps.growO hu hh hD r)
  | _, _, .dct n h k r => .dct n (by rw [upd_ne (by intro e; exact n.2 (e ▸ hh))]; exact h) k (Reps.growO hu hh hD r)
  | _, _, .ref h => .ref h
  | _, _, .adr i => .adr i
  | _, _, .ptp h r => .ptp (by
      obtain ⟨n, ob, h, hc, hd⟩ := h
      exact ⟨n, ob, by rw [upd_ne (ne_of h hD (fun z => hu.2.1 _ _ z.symm))]; exact h, hc, hd⟩) (Reps.growO hu hh hD r)
theorem Reps.growO {D : Addr} {u z : HO} (hu : Soft u) (hh : D ∈ ad.hid) (hD : H D = some u) : ∀ {v : List V} {t : List T}, Reps K ad as H v t → Reps K ad as (upd H D z) v t
  | _, _, .nil => .nil
  | _, _, .cons r s => .cons (Rep.growO hu hh hD r) (Reps.growO hu hh hD s)
end
theorem RepF.growO {D : Addr} {u z : HO} (hu : Soft u) (hh : D ∈ ad.hid) (hD : H D = some u) : ∀ {v : List (Str × V)} {t : List (Str × T)}, RepF K ad as H v t → RepF K ad as (upd H D z) v t
  | _, _, .nil => .nil
  | _, _, .cons r s => .cons (r.growO hu hh hD) (RepF.growO hu hh hD s)
theorem Ab.growO {D : Addr} {u z : HO} (hu : Soft u) (hh : D ∈ ad.hid) (hD : H D = some u) (A : Ab K ad as st H) (nz : NT z := by intro _ w; cases w) : Ab K ad as st (upd H D z) := by
  have nD := (A.hid D hh).1
  refine ⟨A.len, A.nd, fun i a ob h1 h2 => ?_, fun a ha => ?_, tabs_upd A.tabs (fun ps z => by rw [hD] at z; cases z; exact hu.2.2.2.1 _ rfl) (fun q z => by rw [hD] at z; exact hu.2.2.2.2 _ _ (Option.some.inj z))⟩
  · have q := A.obj i a ob h1 h2
    have na : a ≠ D := by rintro rfl; exact nD (List.mem_of_getElem? h1)
    cases ob with
    | lst ts =>
      obtain ⟨xs, q1, q2⟩ := q
      exact ⟨xs, by rw [upd_ne na]; exact q1, q2.growO hu hh hD⟩
    | dct kvs =>
      obtain ⟨xs, q1, q2, q3⟩ := q
      exact ⟨xs, by rw [upd_ne na]; exact q1, q2, q3.growO hu hh hD⟩
    | dtt kvs =>
      obtain ⟨xs, q1, q2, q3⟩ := q
      exact ⟨xs, by rw [upd_ne na]; exact q1, q2, q3.growO hu hh hD⟩
    | dtn kvs =>
      obtain ⟨xs, q1, q2, q3, q4, q5⟩ := q
      exact ⟨xs, by rw [upd_ne na]; exact q1, q2, q3, q4.growO hu hh hD, q5.growO hu hh hD⟩
    | ins c fs =>
      obtain ⟨dx, gs, q1, q2, q3, q4⟩ := q
      exact ⟨dx, gs, by rw [upd_ne na]; exact q1, by rw [upd_ne (ne_of q2 hD (fun z => hu.2.2.1 _ z.symm))]; exact q2, q3, q4.growO hu hh hD⟩
  · obtain ⟨n, u, q, nt⟩ := A.hid a ha
    by_cases e : a = D
    · subst e
      exact ⟨n, _, upd_same, nz⟩
    · exact ⟨n, u, by rw [upd_ne e]; exact q, nt⟩
theorem Rep.grow {D : Addr} {ys zs : List V} (hh : D ∈ ad.hid) (hD : H D = some (.lst ys)) {v : V} {t : T} (r : Rep K ad as H v t) : Rep K ad as (upd H D (.lst zs)) v t := r.growO soft_lst hh hD
theorem Reps.grow {D : Addr} {ys zs : List V} (hh : D ∈ ad.hid) (hD : H D = some (.lst ys)) {v : List V} {t : List T} (r : Reps K ad as H v t) : Reps K ad as (upd H D (.lst zs)) v t := r.growO soft_lst hh hD
theorem RepF.grow {D : Addr} {ys zs : List V} (hh : D ∈ ad.hid) (hD : H D = some (.lst ys)) {v : List (Str × V)} {t : List (Str × T)} (r : RepF K ad as H v t) : RepF K ad as (upd H D (.lst zs)) v t := r.growO soft_lst hh hD
theorem Ab.grow {D : Addr} {ys zs : List V} (hh : D ∈ ad.hid) (hD : H D = some (.lst ys)) (A : Ab K ad as st H) : Ab K ad as st (upd H D (.lst zs)) := A.growO soft_lst hh hD
mutual
/-- D is done -/
theorem Rep.show_ {D : Addr} : ∀ {v : V} {t : T}, Rep K (ad.hide (D :: ad.hid)) as H v t → Rep K ad as H v t
  | _, _, .non => .non
  | _, _, .bl b => .bl b
  | _, _, .int b => .int b
  | _, _, .str b => .str b
  | _, _, .byt b => .byt b
  | _, _, .ty b => .ty b
  | _, _, .tup h r => .tup h (Reps.show_ r)
  | _, _, .lst h r => .lst ⟨⟨h.1.1, fun z => h.1.2 (List.mem_cons_of_mem _ z)⟩, h.2⟩ (Reps.show_ r)
  | _, _, .frz h r => .frz h (Reps.show_ r)
  | _, _, .dct n h k r => .dct ⟨n.1, fun z => n.2 (List.mem_cons_of_mem _ z)⟩ h k (Reps.show_ r)
  | _, _, .ref h => .ref h
  | _, _, .adr i => .adr (ad := ad) i
  | _, _, .ptp h r => .ptp h (Reps.show_ r)
theorem Reps.show_ {D : Addr} : ∀ {v : List V} {t : List T}, Reps K (ad.hide (D :: ad.hid)) as H v t → Reps K ad as H v t
  | _, _, .nil => .nil
  | _, _, .cons r s => .cons (Rep.show_ r) (Reps.show_ s)
end
theorem RepF.show_ {D : Addr} : ∀ {v : List (Str × V)} {t : List (Str × T)}, RepF K (ad.hide (D :: ad.hid)) as H v t → RepF K ad as H v t
  | _, _, .nil => .nil
  | _, _, .cons r s => .cons r.show_ (RepF.show_ s)
theorem Ab.show_ {D : Addr} (A : Ab K (ad.hide (D :: ad.hid)) as st H) : Ab K ad as st H := by
  refine ⟨A.len, A.nd, fun i a ob h1 h2 => ?_, fun a ha => A.hid a (List.mem_cons_of_mem _ ha), A.tabs⟩
  have q := A.obj i a ob h1 h2
  cases ob with
  | lst ts =>
    obtain ⟨xs, q1, q2⟩ := q
    exact ⟨xs, q1, q2.show_⟩
  | dct kvs =>
    obtain ⟨xs, q1, q2, q3⟩ := q
    exact ⟨xs, q1, q2, q3.show_⟩
  | dtt kvs =>
    obtain ⟨xs, q1, q2, q3⟩ := q
    exact ⟨xs, q1, q2, q3.show_⟩
  | dtn kvs =>
    obtain ⟨xs, q1, q2, q3, q4, q5⟩ := q
    exact ⟨xs, q1, q2, q3, q4.show_, q5.show_⟩
  | ins c fs =>
    obtain ⟨dx, gs, q1, q2, q3, q4⟩ := q
    exact ⟨dx, gs, q1, q2, q3, q4.show_⟩
end
end Mi
namespace Mi
open PySem L2
abbrev M (α : Type) := Sl → Sto → R α

section
variable (K : PySem.W.Frag) (ad : Ad)
def En (as : List Addr) (H : Hp) (σ : St) (ρ : Sl) : Prop := σ.length = ρ.length ∧ ∀ (i : Nat) (t : T), ρ[i]? = some (some t) → ∃ v, σ[i]? = some (some v) ∧ Rep K ad as H v t
def ExRep (as : List Addr) (H : Hp) (e : Exn) (u : Value) (d : Option Addr) : Prop :=
  u = .ref (ad.fn e.c) ∧ ((e.fs = [] ∧ d = none) ∨ ∃ a gs, e.fs ≠ [] ∧ d = some a ∧ H a = some (.xd gs) ∧ (a ∈ as → False) ∧ RepF K ad as H gs e.fs)
def Post {α β : Type} (Rl : List Addr → Hp → β → α → Prop) (as : List Addr) (H : Hp) (Q : β → Hp → Prop) (W : XK) : R α → Prop
  | .ok t st' => ∀ as' H' v, Ab K ad as' st' H' → Ext as H as' H' → Rl as' H' v t → Q v H'
  | .exc e st' => ∀ as' H' u d, Ab K ad as' st' H' → Ext as H as' H' → ExRep K ad as' H' e u d → W u d H'
  | .bad => False
def tM {α β : Type} (Rl : Ad → List Addr → Hp → β → α → Prop) (W : WX) (m : M α) : St → Hp → (β → Hp → Prop) → Prop := fun σ H Q =>
  ∃ hd ρ as st, Ab K (ad.hide hd) as st H ∧ En K (ad.hide hd) as H σ ρ ∧ Post K (ad.hide hd) (Rl (ad.hide hd)) as H Q (fun u d H' => W u d σ H') (m ρ st)
def spF (n : Nat) (F : List T → Sto → R T) : Sp := fun vs H Q E => vs.length = n ∧ ∃ hd as st ts, Ab K (ad.hide hd) as st H ∧ Reps K (ad.hide hd) as H vs ts ∧ Post K (ad.hide hd) (Rep K (ad.hide hd)) as H Q E (F ts st)
end
abbrev RlB : Ad → List Addr → Hp → Bool → Bool → Prop := fun _ _ _ b c => b = c
abbrev RlI : Ad → List Addr → Hp → Option Int → Option Int → Prop := fun _ _ _ b c => b = c

section
variable {K : PySem.W.Frag} {ad : Ad} {as as' as2 : List Addr} {H H' H2 : Hp} {st st' : Sto} {σ : St} {ρ : Sl}
theorem En.ext (e : Ext as H as' H') (h : En K ad as H σ ρ) : En K ad as' H' σ ρ := ⟨h.1, fun i t q => by
  obtain ⟨v, h1, h2⟩ := h.2 i t q
  exact ⟨v, h1, h2.ext e⟩⟩
theorem En.set {i : Nat} {v : V} {t : T} (h : En K ad as H σ ρ) (r : Rep K ad as H v t) : En K ad as H (σ.set i (some v)) (ρ.set i (some t)) := by
  refine ⟨by simp [h.1], fun j u q => ?_⟩
  by_cases hj : i = j
  · subst hj
    by_cases hl : i < ρ.length
    · rw [List.getElem?_set_self hl] at q
      cases q
      exact ⟨v, by rw [List.getElem?_set_self (by rw [h.1]; exact hl)], r⟩
    · rw [List.getElem?_eq_none (by simpa using hl)] at q; cases q
  · rw [List.getElem?_set_ne hj] at q
    rw [List.getElem?_set_ne hj]
    exact h.2 j u q
section
variable {α β γ δ : Type} {Rl : List Addr → Hp → β → α → Prop} {Rl2 : List Addr → Hp → δ → γ → Prop} {Q Q' : β → Hp → Prop} {Q2 : δ → Hp → Prop} {W W' : XK}
theorem Post.ext (e : Ext as H as' H') {r : R α} (h : Post K ad Rl as H Q W r) : Post K ad Rl as' H' Q W r := by
  cases r with
  | ok t st' => exact fun as2 H2 v A e2 r => h as2 H2 v A (e.trans e2) r
  | exc x st' => exact fun as2 H2 u d A e2 r => h as2 H2 u d A (e.trans e2) r
  | bad => exact h
theorem Post.step {r : R α} {f : α → Sto → R γ} (h : Post K ad Rl2 as H Q2 W (r.bind f))
    (k : ∀ t st1 as1 H1 v, Ab K ad as1 st1 H1 → Ext as H as1 H1 → Rl as1 H1 v t → Post K ad Rl2 as1 H1 Q2 W (f t st1) → Q v H1) : Post K ad Rl as H Q W r := by
  cases r with
  | ok t st' => exact fun as1 H1 v A e r => k t st' as1 H1 v A e r (Post.ext e h)
  | exc x st' => exact h
  | bad => exact h
theorem Post.at {t : α} {v : β} (A : Ab K ad as st H) (r : Rl as H v t) (h : Post K ad Rl as H Q W (.ok t st)) : Q v H := h as H v A Ext.refl r
theorem Post.to {t : α} {v : β} (h : Post K ad Rl as H Q W (.ok t st')) (A : Ab K ad as' st' H') (e : Ext as H as' H') (r : Rl as' H' v t) : Q v H' := h as' H' v A e r
theorem Post.imp {r : R α} (h : Post K ad Rl as H Q W r) (hq : ∀ v H, Q v H → Q' v H) (hw : ∀ u d H, W u d H → W' u d H) : Post K ad Rl as H Q' W' r := by
  cases r with
  | ok t st' => exact fun as2 H2 v A e2 r => hq _ _ (h as2 H2 v A e2 r)
  | exc x st' => exact fun as2 H2 u d A e2 r => hw _ _ _ (h as2 H2 u d A e2 r)
  | bad => exact h
end
end
section
variable {X : Cx}
theorem peW {e : Expr} {t t' : TE} (h : PE X e t) (w : ∀ σ H Q, t' σ H Q → t σ H Q) : PE X e t' := ⟨fun pins s σ H Q I q => h.run pins s σ H Q I (w _ _ _ q)⟩
theorem ptW {e : Expr} {t t' : TT} (h : PT X e t) (w : ∀ σ H Q, t' σ H Q → t σ H Q) : PT X e t' := ⟨fun pins s σ H Q I q => h.run pins s σ H Q I (w _ _ _ q)⟩
theorem pwW {e : Expr} {t t' : TT} (h : PW X e t) (w : ∀ σ H Q, t' σ H Q → t σ H Q) : PW X e t' := ⟨fun wh pins s σ H Q I q => h.run wh pins s σ H Q I (w _ _ _ q)⟩
theorem paW {es : List Expr} {t t' : TA} (h : PA X es t) (w : ∀ σ H Q, t' σ H Q → t σ H Q) : PA X es t' := ⟨fun pos pins s σ H Q I q => h.run pos pins s σ H Q I (w _ _ _ q)⟩
theorem poW {e : Option Expr} {t t' : TO} (h : PO X e t) (w : ∀ σ H Q, t' σ H Q → t σ H Q) : PO X e t' := ⟨fun pins s σ H Q I q => h.run pins s σ H Q I (w _ _ _ q)⟩
theorem psW {e : Stmt} {t t' : TS} (h : PS X e t) (w : ∀ D σ H, t' D σ H → t D σ H) : PS X e t' := ⟨fun pins s σ H D I q => h.run pins s σ H D I (w _ _ _ q)⟩
theorem pssW {e : List Stmt} {t t' : TS} (h : PSs X e t) (w : ∀ D σ H, t' D σ H → t D σ H) : PSs X e t' := ⟨fun pins s σ H D I q => h.run pins s σ H D I (w _ _ _ q)⟩
theorem pgW {e : Expr} {t t' : TG} (h : PG X e t) (w : ∀ v σ H Q, t' v σ H Q → t v σ H Q) : PG X e t' := ⟨fun pins s σ H v u Q I r q => h.run pins s σ H v u Q I r (w _ _ _ _ q)⟩
end
structure Sit (X : Cx) (W : WX) (k : Nat) : Prop where
  calm : X.calm = true
  gd : X.A.guards = some []
  rm : Room k X.A
  tk : Takes X W
  po : PassesOwn (model X.prog X.w) X.A X.env X.xe
  sm : ∃ o, X.base.get? sysModules = some o

abbrev MCX (P : Program) (w : World) : CXT := L2.CX P w
structure GnOk (P : Program) (w : World) (K : PySem.W.Frag) (mg : Str → Option Value) (base : Heap) (k : Nat) (f : Addr) (fd : FuncData) (ps : List Str) (sp : Sp) : Prop where
  len : ∀ vs H Q E, sp vs H Q E → vs.length = ps.length
  run : ∀ (A : Around) (outer : List Env) (s : Shared) (H : Hp) (args : Args) (us : List Value) (vs : List V) (Q : VK) (E : XK),
    Room k A → A.guards = some [] → Env0 P w K mg base A outer s H → BindsTo s fd args (ps.zip us) → Vals vs us → sp vs H Q E →
      codeAny (model P w) A (.call (.ref f) args) (CR (MCX P w) outer P w H s Q E) s
end Mi
namespace Mi
open PySem L2
abbrev PM (X : Cx) (ad : Ad) (W : WX) (e : Expr) (m : M T) : Prop := PE X e (tM X.K ad (Rep X.K) W m)
abbrev PMT (X : Cx) (ad : Ad) (W : WX) (e : Expr) (m : M Bool) : Prop := PT X e (tM X.K ad RlB W m)
abbrev PMW (X : Cx) (ad : Ad) (W : WX) (e : Expr) (m : M Bool) : Prop := PW X e (tM X.K ad RlB W m)
abbrev PMA (X : Cx) (ad : Ad) (W : WX) (es : List Expr) (m : M (List T)) : Prop := PA X es (tM X.K ad (Reps X.K) W m)
abbrev PMO (X : Cx) (ad : Ad) (W : WX) (e : Option Expr) (m : M (Option Int)) : Prop := PO X e (tM X.K ad RlI W m)

section
variable {X : Cx} {ad : Ad} {W : WX} {pos p : Pos}
def mVar (i : Nat) : M T := fun ρ st => match ρ[i]? with
  | some (some t) => .ok t st
  | _ => .bad
theorem pm_var {i : Nat} {x : Str} (h : PE X (.Name x pos) (tVar i)) : PM X ad W (.Name x pos) (mVar i) := peW h fun σ H Q ⟨hd, ρ, as, st, A, E, q⟩ => by
  unfold mVar at q
  split at q
  · rename_i t e
    obtain ⟨v, h1, h2⟩ := E.2 i t e
    exact ⟨v, h1, Post.at A h2 q⟩
  · exact q.elim
def mC (t : T) : M T := fun _ st => .ok t st
theorem pm_c {e : Expr} {v : V} {t : T} (h : PE X e (tC v)) (r : ∀ ad as H, Rep X.K ad as H v t) : PM X ad W e (mC t) := peW h fun _ _ _ ⟨_, _, _, _, A, _, q⟩ => Post.at A (r _ _ _) q
theorem pm_int {i j} : PM X ad W (.Constant (.int i) j pos) (mC (.int i)) := pm_c pe_int fun _ _ _ => .int _
theorem pm_bl {i j} : PM X ad W (.Constant (.bool i) j pos) (mC (.bl i)) := pm_c pe_bl fun _ _ _ => .bl _
theorem pm_non {j} : PM X ad W (.Constant .none j pos) (mC .non) := pm_c pe_non fun _ _ _ => .non
theorem pm_str {i j} : PM X ad W (.Constant (.str i) j pos) (mC (.str i)) := pm_c pe_str fun _ _ _ => .str _

def OpM (X : Cx) (f : Value → Value → Sem Value) (op : T → T → Sto → R T) : Prop :=
  ∃ r : R2, OpR X f r ∧ ∀ ad as st H x y tx ty Q W, Ab X.K ad as st H → Rep X.K ad as H x tx → Rep X.K ad as H y ty → Post X.K ad (Rep X.K ad) as H Q W (op tx ty st) → r x y H Q
theorem OpR.alt {f : Value → Value → Sem Value} {r r' : R2} (h : OpR X f r) (h' : OpR X f r') : OpR X f (fun x y H Q => r x y H Q ∨ r' x y H Q) :=
  fun pins s σ H x y v u Q I rx ry q => q.elim (h pins s σ H x y v u Q I rx ry) (h' pins s σ H x y v u Q I rx ry)
theorem OpM.alt {f : Value → Value → Sem Value} {op op' op2 : T → T → Sto → R T} (h : OpM X f op) (h' : OpM X f op')
    (c : ∀ x y st, op2 x y st = op x y st ∨ op2 x y st = op' x y st) : OpM X f op2 := by
  obtain ⟨r, h1, h2⟩ := h
  obtain ⟨r', h1', h2'⟩ := h'
  refine ⟨_, OpR.alt h1 h1', fun ad as st H x y tx ty Q W A rx ry q => ?_⟩
  rcases c tx ty st with e | e
  · rw [e] at q
    exact .inl (h2 ad as st H x y tx ty Q W A rx ry q)
  · rw [e] at q
    exact .inr (h2' ad as st H x y tx ty Q W A rx ry q)
def mBin (op : T → T → Sto → R T) (a b : M T) : M T := fun ρ st => (a ρ st).bind fun x st1 => (b ρ st1).bind fun y st2 => op x y st2
theorem tBin {r : R2} {op : T → T → Sto → R T} {a b : M T} (hop : ∀ ad as st H x y tx ty Q W, Ab X.K ad as st H → Rep X.K ad as H x tx → Rep X.K ad as H y ty → Post X.K ad (Rep X.K ad) as H Q W (op tx ty st) → r x y H Q) :
    ∀ σ H Q, tM X.K ad (Rep X.K) W (mBin op a b) σ H Q → tOp r (tM X.K ad (Rep X.K) W a) (tM X.K ad (Rep X.K) W b) σ H Q := fun σ H Q ⟨hd, ρ, as, st, A, E, q⟩ =>
  ⟨hd, ρ, as, st, A, E, Post.step q fun x st1 as1 H1 vx A1 e1 r1 q1 => ⟨hd, ρ, as1, st1, A1, E.ext e1, Post.step q1 fun y st2 as2 H2 vy A2 e2 r2 q2 => hop _ as2 st2 H2 vx vy x y Q _ A2 (r1.ext e2) r2 q2⟩⟩
theorem pm_bin {o : Operator} {op : T → T → Sto → R T} {a b : Expr} {ma mb : M T} (hop : OpM X (binaryOp o) op) (ha : PM X ad W a ma) (hb : PM X ad W b mb) : PM X ad W (.BinOp a o b pos) (mBin op ma mb) := by
  obtain ⟨r, h1, h2⟩ := hop
  exact peW (pe_op h1 ha hb) (tBin h2)
theorem pm_cmp {o : CmpOp} {op : T → T → Sto → R T} {a b : Expr} {ma mb : M T} (hop : OpM X (compareOp o) op) (ha : PM X ad W a ma) (hb : PM X ad W b mb) (hm : behindInMarks o b = false) : PM X ad W (.Compare a [o] [b] pos) (mBin op ma mb) := by
  obtain ⟨r, h1, h2⟩ := hop
  exact peW (pe_cmpR h1 ha hb hm) (tBin h2)
def rTest (r : R T) : R Bool := r.bind fun t st => match t with
  | .bl b => .ok b st
  | _ => .bad
def mTest (m : M T) : M Bool := fun ρ st => rTest (m ρ st)
theorem tTest_ {m : M T} : ∀ σ H Q, tM X.K ad RlB W (mTest m) σ H Q → tTest (tM X.K ad (Rep X.K) W m) σ H Q := fun σ H Q ⟨hd, ρ, as, st, A, E, q⟩ =>
  ⟨hd, ρ, as, st, A, E, Post.step q fun x st1 as1 H1 vx A1 e1 r1 q1 => by
    cases r1 with
    | bl b => exact ⟨b, rfl, Post.at A1 rfl q1⟩
    | _ => exact q1.elim⟩
theorem ptM_cmp {o : CmpOp} {op : T → T → Sto → R T} {a b : Expr} {ma mb : M T} (hop : OpM X (compareOp o) op) (ha : PM X ad W a ma) (hb : PM X ad W b mb) (hm : behindInMarks o b = false) : PMT X ad W (.Compare a [o] [b] pos) (mTest (mBin op ma mb)) := by
  obtain ⟨r, h1, h2⟩ := hop
  refine ptW (pt_cmpR h1 ha hb hm) fun σ H Q h => ?_
  obtain ⟨hd, ρ, as, st, A, E, q⟩ := tTest_ σ H Q h
  exact tBin h2 σ H _ ⟨hd, ρ, as, st, A, E, q⟩
theorem ptM_val {e : Expr} {m : M T} (h : PM X ad W e m) (he : ∀ whole, isTrue e X.env whole = (do let v ← whole; standAt e.pos; holding [v] (truthy v)) := by intro _; rfl) : PMT X ad W e (mTest m) := ptW (pt_val h he) fun σ H Q q => tTest_ σ H Q q
end
end Mi
namespace Mi
open PySem L2
mutual
def T.eqv : T → T → Bool
  | .non, .non => true
  | .bl a, .bl b => a == b
  | .bl a, .int j => (if a then 1 else 0) == j
  | .int i, .bl b => i == (if b then 1 else 0)
  | .int i, .int j => i == j
  | .str a, .str b => a == b
  | .tup xs, .tup ys => T.eqvs xs ys
  | .lst xs, .lst ys => T.eqvs xs ys
  | _, _ => false
def T.eqvs : List T → List T → Bool
  | [], [] => true
  | x :: xs, y :: ys => T.eqv x y && T.eqvs xs ys
  | _, _ => false
end
def keyPd : Key → PyData
  | .inl i => .int i
  | .inr s => .str s
mutual
def T.pd : T → Option PyData
  | .non => some .none
  | .bl b => some (.bool b)
  | .int i => some (.int i)
  | .str s => some (.str s)
  | .tup ts => (T.pds ts).map .tuple
  | .lst ts => (T.pds ts).map .list
  | .dct ks ts => (T.pds ts).map fun ds => .dict ((ks.map keyPd).zip ds)
  | _ => none
def T.pds : List T → Option (List PyData)
  | [] => some []
  | t :: ts => match t.pd, T.pds ts with
    | some d, some ds => some (d :: ds)
    | _, _ => none
end
theorem T.pds_cons {x : T} {xs : List T} {d : List PyData} (h : T.pds (x :: xs) = some d) : ∃ a b, x.pd = some a ∧ T.pds xs = some b ∧ d = a :: b := by
  simp only [T.pds] at h
  cases h1 : x.pd with
  | none => rw [h1] at h; simp at h
  | some a =>
    cases h2 : T.pds xs with
    | none => rw [h1, h2] at h; simp at h
    | some b => rw [h1, h2] at h; simp at h; exact ⟨a, b, rfl, rfl, h.symm⟩
mutual
theorem T.eqv_pd : ∀ (a b : T) {d e : PyData}, a.pd = some d → b.pd = some e → PyData.eqv d e = T.eqv a b := by
  intro a b d e ha hb
  cases a <;> cases b <;> simp only [T.pd, Option.some.injEq, Option.map_eq_some_iff, reduceCtorEq] at ha hb
  all_goals first
    | (subst ha; subst hb; first | rfl | (simp only [PyData.eqv, T.eqv]))
    | (obtain ⟨xs, h1, rfl⟩ := ha; obtain ⟨ys, h2, rfl⟩ := hb; first | (simp only [PyData.eqv, T.eqv]; first | exact T.eqvs_pd _ _ h1 h2 | done) | (simp only [PyData.eqv, T.eqv]))
    | (obtain ⟨xs, h1, rfl⟩ := ha; subst hb; simp only [PyData.eqv, T.eqv])
    | (obtain ⟨ys, h2, rfl⟩ := hb; subst ha; simp only [PyData.eqv, T.eqv])
theorem T.eqvs_pd : ∀ (a b : List T) {d e : List PyData}, T.pds a = some d → T.pds b = some e → PyData.eqvAll d e = T.eqvs a b
  | [], [], d, e, ha, hb => by
    simp only [T.pds, Option.some.injEq] at ha hb; subst ha; subst hb; rfl
  | [], y :: ys, d, e, ha, hb => by
    simp only [T.pds, Option.some.injEq] at ha hb; subst ha
    split at hb
    · cases hb; simp only [PyData.eqvAll, T.eqvs]
    · cases hb
  | x :: xs, [], d, e, ha, hb => by
    simp only [T.pds, Option.some.injEq] at ha hb; subst hb
    split at ha
    · cases ha; simp only [PyData.eqvAll, T.eqvs]
    · cases ha
  | x :: xs, y :: ys, d, e, ha, hb => by
    obtain ⟨d1, d2, h1, h2, rfl⟩ := T.pds_cons ha
    obtain ⟨e1, e2, h3, h4, rfl⟩ := T.pds_cons hb
    simp only [PyData.eqvAll, T.eqvs]
    rw [T.eqv_pd x y h1 h3, T.eqvs_pd xs ys h2 h4]
end
section
variable {K : PySem.W.Frag} {ad : Ad} {as : List Addr} {H : Hp} {st : Sto}
mutual
theorem Rep.dp : ∀ {v : V} {t : T} {d : PyData}, Rep K ad as H v t → t.pd = some d → d.canLay0 = true → Dp K H v d
  | _, _, _, .non, h, _ => by simp only [T.pd, Option.some.injEq] at h; subst h; exact .non
  | _, _, _, .bl b, h, _ => by simp only [T.pd, Option.some.injEq] at h; subst h; exact .bl b
  | _, _, _, .int b, h, _ => by simp only [T.pd, Option.some.injEq] at h; subst h; exact .int b
  | _, _, _, .str b, h, _ => by simp only [T.pd, Option.some.injEq] at h; subst h; exact .str b
  | _, _, _, .byt b, h, _ => by simp only [T.pd, reduceCtorEq] at h
  | _, _, _, .ty b, h, _ => by simp only [T.pd, reduceCtorEq] at h
  | _, _, _, .tup a r, h, l => by
    simp only [T.pd, Option.map_eq_some_iff] at h
    obtain ⟨ds, h1, rfl⟩ := h
    exact .tup a.sq (Reps.dps r h1 (by simpa only [PyData.canLay0] using l))
  | _, _, _, .lst a r, h, l => by
    simp only [T.pd, Option.map_eq_some_iff] at h
    obtain ⟨ds, h1, rfl⟩ := h
    exact .lst (SqL.of a.2) (Reps.dps r h1 (by simpa only [PyData.canLay0] using l))
  | _, _, _, .frz a r, h, _ => by simp only [T.pd, reduceCtorEq] at h
  | _, _, _, .dct _ _ _ _, h, l => by
    simp only [T.pd, Option.map_eq_some_iff] at h
    obtain ⟨ds, h1, rfl⟩ := h
    simp only [PyData.canLay0] at l
    cases l
  | _, _, _, .ref b, h, _ => by simp only [T.pd, reduceCtorEq] at h
  | _, _, _, .adr b, h, _ => by simp only [T.pd, reduceCtorEq] at h
  | _, _, _, .ptp _ _, h, _ => by simp only [T.pd, reduceCtorEq] at h
theorem Reps.dps : ∀ {v : List V} {t : List T} {d : List PyData}, Reps K ad as H v t → T.pds t = some d → PyData.canLayAll0 d = true → DpAll K H v d
  | _, _, _, .nil, h, _ => by simp only [T.pds, Option.some.injEq] at h; subst h; exact .nil
  | _, _, _, .cons r s, h, l => by
    obtain ⟨d1, d2, h1, h2, rfl⟩ := T.pds_cons h
    simp only [PyData.canLayAll0, Bool.and_eq_true] at l
    exact .cons (Rep.dp r h1 l.1) (Reps.dps s h2 l.2)
end
def now (st : Sto) (t : T) : T := match t with
  | .ref i => match st[i]? with
    | some (.lst ts) => .lst ts
    | _ => t
  | _ => t
theorem Rep.now_dp {v : V} {t : T} {d : PyData} (A : Ab K ad as st H) (r : Rep K ad as H v t) (h : (now st t).pd = some d) (l : d.canLay0 = true) : Dp K H v d := by
  unfold now at h
  split at h
  · rename_i i
    split at h
    · rename_i ts e
      simp only [T.pd, Option.map_eq_some_iff] at h
      obtain ⟨ds, h1, rfl⟩ := h
      obtain ⟨a, h2, xs, h3, h4⟩ := A.get e
      cases r with
      | ref h5 =>
        rw [h2] at h5; cases h5
        exact .lst (SqL.of h3) (Reps.dps h4 h1 (by simpa only [PyData.canLay0] using l))
    · simp only [T.pd, reduceCtorEq] at h
  · exact Rep.dp r h l

theorem Rep.tupI {v : V} {ts : List T} (r : Rep K ad as H v (.tup ts)) : ∃ a xs, v = .ref a ∧ SqT K H a xs ∧ Reps K ad as H xs ts := by
  cases r with
  | tup h s => exact ⟨_, _, rfl, h.sq, s⟩
theorem Rep.intI {v : V} {i : Int} (r : Rep K ad as H v (.int i)) : v = .int i := by cases r; rfl
theorem Rep.strI {v : V} {i : Str} (r : Rep K ad as H v (.str i)) : v = .str i := by cases r; rfl
theorem Rep.blI {v : V} {i : Bool} (r : Rep K ad as H v (.bl i)) : v = .bl i := by cases r; rfl
theorem Rep.nonI {v : V} (r : Rep K ad as H v .non) : v = .non := by cases r; rfl
theorem Rep.bytI {v : V} {i : Array UInt8} (r : Rep K ad as H v (.byt i)) : v = .byt i := by cases r; rfl
def lstR (st : Sto) (t : T) : Option (List T) := match t with
  | .lst ts => some ts
  | .frz ts => some ts
  | .ref i => match st[i]? with
    | some (.lst ts) => some ts
    | _ => none
  | _ => none
def lstD (st : Sto) (t : T) : Option (List T) := match t with
  | .lst ts => some ts
  | .ref i => match st[i]? with
    | some (.lst ts) => some ts
    | _ => none
  | _ => none
theorem Rep.lstD {v : V} {t : T} {ts : List T} (A : Ab K ad as st H) (r : Rep K ad as H v t) (h : lstD st t = some ts) : ∃ a xs, v = .ref a ∧ H a = some (.lst xs) ∧ Reps K ad as H xs ts := by
  unfold Mi.lstD at h
  split at h
  · cases h
    cases r with
    | lst h s => exact ⟨_, _, rfl, h.2, s⟩
  · split at h
    · rename_i e
      cases h
      obtain ⟨a, h2, xs, h3, h4⟩ := A.get e
      cases r with
      | ref h5 =>
        rw [h2] at h5; cases h5
        exact ⟨_, _, rfl, h3, h4⟩
    · cases h
  · cases h
theorem Rep.lstR {v : V} {t : T} {ts : List T} (A : Ab K ad as st H) (r : Rep K ad as H v t) (h : lstR st t = some ts) : ∃ a xs, v = .ref a ∧ SqL K H a xs ∧ Reps K ad as H xs ts := by
  unfold Mi.lstR at h
  split at h
  · cases h
    cases r with
    | lst h s => exact ⟨_, _, rfl, SqL.of h.2, s⟩
  · cases h
    cases r with
    | frz h s => exact ⟨_, _, rfl, h.sq, s⟩
  · split at h
    · rename_i e
      cases h
      obtain ⟨a, h2, xs, h3, h4⟩ := A.get e
      cases r with
      | ref h5 =>
        rw [h2] at h5; cases h5
        exact ⟨_, _, rfl, SqL.of h3, h4⟩
    · cases h
  · cases h
end
section
variable {X : Cx} {ad : Ad}
def opII (f : Int → Int → Option T) (x y : T) (st : Sto) : R T := match x, y with
  | .int i, .int j => match f i j with
    | some t => .ok t st
    | none => .bad
  | _, _ => .bad
theorem opII_ok {o : Value → Value → Sem Value} {C : Int → Int → Prop} {g : Int → Int → V} {f : Int → Int → Option T} (h : OpR X o (rI C g))
    (hf : ∀ i j t, f i j = some t → C i j ∧ ∀ ad as H, Rep X.K ad as H (g i j) t) : OpM X o (opII f) := by
  refine ⟨_, h, fun ad as st H x y tx ty Q W A rx ry q => ?_⟩
  unfold opII at q
  split at q
  · split at q
    · rename_i i j _ t e
      obtain ⟨c, r⟩ := hf i j t e
      exact ⟨i, j, rx.intI, ry.intI, c, Post.at A (r ad as H) q⟩
    · exact q.elim
  · exact q.elim
theorem OpR.rI0 {o : Value → Value → Sem Value} {g : Int → Int → V} (h : OpR X o (L2.rI0 g)) : OpR X o (L2.rI (fun _ _ => True) g) := fun pins s σ H x y v u Q I rx ry ⟨i, j, e1, e2, _, q⟩ => h pins s σ H x y v u Q I rx ry ⟨i, j, e1, e2, q⟩

abbrev opSub : T → T → Sto → R T := opII fun i j => some (.int (i - j))
theorem om_sub : OpM X (binaryOp .Sub) opSub := opII_ok (OpR.rI0 op_sub) fun i j t e => by
  cases e; exact ⟨trivial, fun _ _ _ => .int _⟩
def fFdiv (i j : Int) : Option T := if 0 < j ∧ j.natAbs.log2 < 9000 then some (.int (i / j)) else none
abbrev opFdiv : T → T → Sto → R T := opII fFdiv
theorem om_fdiv : OpM X (binaryOp .FloorDiv) opFdiv := opII_ok op_fdivW fun i j t e => by
  unfold fFdiv at e
  split at e
  · cases e; exact ⟨by assumption, fun _ _ _ => .int _⟩
  · cases e
def fMod (i j : Int) : Option T := if 0 < j then some (.int (i % j)) else none
abbrev opMod : T → T → Sto → R T := opII fMod
theorem om_mod : OpM X (binaryOp .Mod) opMod := opII_ok op_mod fun i j t e => by
  unfold fMod at e
  split at e
  · cases e; exact ⟨by assumption, fun _ _ _ => .int _⟩
  · cases e
def fPow (i j : Int) : Option T := if 0 ≤ j ∧ j ≤ 1000000 ∧ i.natAbs < 18446744073709551616 then some (.int (i ^ j.toNat)) else none
abbrev opPow : T → T → Sto → R T := opII fPow
theorem om_pow : OpM X (binaryOp .Pow) opPow := opII_ok op_pow fun i j t e => by
  unfold fPow at e
  split at e
  · cases e; exact ⟨by assumption, fun _ _ _ => .int _⟩
  · cases e
abbrev opLt : T → T → Sto → R T := opII fun i j => some (.bl (decide (i < j)))
abbrev opLe : T → T → Sto → R T := opII fun i j => some (.bl (decide (i ≤ j)))
abbrev opGt : T → T → Sto → R T := opII fun i j => some (.bl (decide (j < i)))
theorem om_lt : OpM X (compareOp .Lt) opLt := opII_ok (OpR.rI0 op_lt) fun i j t e => by cases e; exact ⟨trivial, fun _ _ _ => .bl _⟩
theorem om_le : OpM X (compareOp .LtE) opLe := opII_ok (OpR.rI0 op_le) fun i j t e => by cases e; exact ⟨trivial, fun _ _ _ => .bl _⟩
theorem om_gt : OpM X (compareOp .Gt) opGt := opII_ok (OpR.rI0 op_gt) fun i j t e => by cases e; exact ⟨trivial, fun _ _ _ => .bl _⟩
def opAdd (x y : T) (st : Sto) : R T := match x, y with
  | .int i, .int j => .ok (.int (i + j)) st
  | .str a, .str b => if a.length + b.length ≤ sizeLine then .ok (.str (a ++ b)) st else .bad
  | .byt a, .byt b => if a.size + b.size ≤ 16777216 then .ok (.byt (a ++ b)) st else .bad
  | .tup a, .tup b => if a.length + b.length ≤ sizeLine then .ok (.tup (a ++ b)) st else .bad
  | x, y => match lstD st x, lstD st y with
    | some a, some b => if a.length + b.length ≤ sizeLine then .ok (.lst (a ++ b)) st else .bad
    | _, _ => .bad
theorem rep_newTup {K : PySem.W.Frag} {as : List Addr} {H : Hp} {st : Sto} {p : Addr} {xs : List V} {ts : List T} (A : Ab K ad as st H) (hp : H p = none) (r : Reps K ad as H xs ts) : Rep K ad as (upd H p (.tup xs)) (.ref p) (.tup ts) :=
  .tup (.inl ⟨A.nin hp, .inl upd_same⟩) (r.ext (Ext.fresh hp))
theorem rep_newLst {K : PySem.W.Frag} {as : List Addr} {H : Hp} {st : Sto} {p : Addr} {xs : List V} {ts : List T} (A : Ab K ad as st H) (hp : H p = none) (r : Reps K ad as H xs ts) : Rep K ad as (upd H p (.lst xs)) (.ref p) (.lst ts) :=
  .lst ⟨⟨A.nin hp, A.notHid hp⟩, upd_same⟩ (r.ext (Ext.fresh hp))
theorem post_newTup {K : PySem.W.Frag} {as : List Addr} {H : Hp} {st : Sto} {p : Addr} {xs : List V} {ts : List T} {Q : V → Hp → Prop} {W : XK} (A : Ab K ad as st H) (hp : H p = none) (r : Reps K ad as H xs ts)
    (q : Post K ad (Rep K ad) as H Q W (.ok (.tup ts) st)) : Q (.ref p) (upd H p (.tup xs)) := q.to (A.fresh hp) (Ext.fresh hp) (rep_newTup A hp r)
theorem post_newLst {K : PySem.W.Frag} {as : List Addr} {H : Hp} {st : Sto} {p : Addr} {xs : List V} {ts : List T} {Q : V → Hp → Prop} {W : XK} (A : Ab K ad as st H) (hp : H p = none) (r : Reps K ad as H xs ts)
    (q : Post K ad (Rep K ad) as H Q W (.ok (.lst ts) st)) : Q (.ref p) (upd H p (.lst xs)) := q.to (A.fresh hp) (Ext.fresh hp) (rep_newLst A hp r)
theorem om_add : OpM X (binaryOp .Add) opAdd := by
  refine ⟨_, OpR.alt (OpR.rI0 op_add) (OpR.alt op_add_str (OpR.alt op_add_byt (OpR.alt op_catA op_cat))), fun ad as st H x y tx ty Q W A rx ry q => ?_⟩
  unfold opAdd at q
  split at q
  · exact .inl ⟨_, _, rx.intI, ry.intI, trivial, Post.at A (.int _) q⟩
  · split at q
    · exact .inr (.inl ⟨_, _, rx.strI, ry.strI, by assumption, Post.at A (.str _) q⟩)
    · exact q.elim
  · split at q
    · exact .inr (.inr (.inl ⟨_, _, rx.bytI, ry.bytI, by assumption, Post.at A (.byt _) q⟩))
    · exact q.elim
  · split at q
    · rename_i ts us hz
      obtain ⟨a, xs, e1, h1, r1⟩ := rx.tupI
      obtain ⟨b, ys, e2, h2, r2⟩ := ry.tupI
      refine .inr (.inr (.inr (.inl ⟨a, b, xs, ys, e1, e2, h1, h2, by rw [r1.length, r2.length]; exact hz, fun ex => ?_, fun _ ey => ?_, fun _ _ p hp => post_newTup A hp (r1.append r2) q⟩)))
      · subst ex
        cases r1
        rw [← e2]
        exact Post.at A ry q
      · subst ey
        cases r2
        rw [← e1]
        rw [List.append_nil] at q
        exact Post.at A rx q
    · exact q.elim
  · split at q
    · rename_i h1 h2
      split at q
      · rename_i hz
        obtain ⟨a, xs, e1, h1, r1⟩ := rx.lstD A h1
        obtain ⟨b, ys, e2, h2, r2⟩ := ry.lstD A h2
        exact .inr (.inr (.inr (.inr ⟨a, b, xs, ys, e1, e2, h1, h2, by rw [r1.length, r2.length]; exact hz, fun p hp => post_newLst A hp (r1.append r2) q⟩)))
      · exact q.elim
    · exact q.elim

def opMul (x y : T) (st : Sto) : R T := match x, y with
  | .int i, .int j => if i.natAbs.log2 + j.natAbs.log2 < 1000000 then .ok (.int (i * j)) st else .bad
  | .tup a, .int k => if a.length ≠ 0 ∧ a.length ≤ 1000 ∧ 2 ≤ k ∧ k ≤ 1000 then .ok (.tup (List.replicate k.toNat a).flatten) st else .bad
  | x, .int k => match lstD st x with
    | some a => if -(2 ^ 63) ≤ k ∧ k < 2 ^ 63 ∧ a.length * k.toNat ≤ sizeLine then .ok (.lst (List.replicate k.toNat a).flatten) st else .bad
    | none => .bad
  | _, _ => .bad
theorem Reps.rep {K : PySem.W.Frag} {as : List Addr} {H : Hp} {xs : List V} {ts : List T} (r : Reps K ad as H xs ts) : ∀ n : Nat, Reps K ad as H (List.replicate n xs).flatten (List.replicate n ts).flatten
  | 0 => .nil
  | n + 1 => by
    rw [List.replicate_succ, List.flatten_cons, List.replicate_succ, List.flatten_cons]
    exact r.append (Reps.rep r n)
theorem om_mul : OpM X (binaryOp .Mult) opMul := by
  refine ⟨_, OpR.alt op_mulW (OpR.alt op_repT op_rep), fun ad as st H x y tx ty Q W A rx ry q => ?_⟩
  unfold opMul at q
  split at q
  · split at q
    · exact .inl ⟨_, _, rx.intI, ry.intI, by assumption, Post.at A (.int _) q⟩
    · exact q.elim
  · split at q
    · rename_i hz
      obtain ⟨a, xs, e1, h1, r1⟩ := rx.tupI
      refine .inr (.inl ⟨a, _, xs, e1, ry.intI, h1, fun e => ?_, hz.2.2.1, hz.2.2.2, by rw [r1.length]; exact hz.2.1, fun p hp => post_newTup A hp (r1.rep _) q⟩)
      subst e
      exact hz.1 r1.length.symm
    · exact q.elim
  · split at q
    · rename_i h1
      split at q
      · rename_i hz
        obtain ⟨a, xs, e1, h1, r1⟩ := rx.lstD A h1
        exact .inr (.inr ⟨a, _, xs, e1, ry.intI, h1, hz.1, hz.2.1, by rw [r1.length]; exact hz.2.2, fun p hp => post_newLst A hp (r1.rep _) q⟩)
      · exact q.elim
    · exact q.elim
  · exact q.elim

def shaped (t : T) : Bool := match t.pd with
  | some d => SeqAt.shaped d
  | none => false
def opEqB (neg : Bool) (x y : T) (st : Sto) : R T := match now st x, now st y with
  | .str a, .str b => .ok (.bl (if neg then !(a == b) else a == b)) st
  | .byt a, .byt b => .ok (.bl (if neg then !(a.toList == b.toList) else a.toList == b.toList)) st
  | x, y => if shaped x && shaped y then .ok (.bl (if neg then !T.eqv x y else T.eqv x y)) st else .bad
theorem now_str {K : PySem.W.Frag} {as : List Addr} {H : Hp} {st : Sto} {v : V} {t : T} {a : Str} (r : Rep K ad as H v t) (h : now st t = .str a) : v = .str a := by
  unfold now at h
  split at h
  · split at h <;> cases h
  · subst h; exact r.strI
theorem now_byt {K : PySem.W.Frag} {as : List Addr} {H : Hp} {st : Sto} {v : V} {t : T} {a : Array UInt8} (r : Rep K ad as H v t) (h : now st t = .byt a) : v = .byt a := by
  unfold now at h
  split at h
  · split at h <;> cases h
  · subst h; exact r.bytI
theorem shaped_pd {t : T} (h : shaped t = true) : ∃ d, t.pd = some d ∧ SeqAt.shaped d = true := by
  unfold shaped at h
  split at h
  · exact ⟨_, by assumption, h⟩
  · cases h
theorem om_eq (hu : X.A.units + 64 < cLine) : OpM X (compareOp .Eq) (opEqB false) := by
  refine ⟨_, OpR.alt op_eq (op_eqD hu), fun ad as st H x y tx ty Q W A rx ry q => ?_⟩
  unfold opEqB at q
  split at q
  · rename_i a b h1 h2
    obtain rfl := now_str rx h1
    obtain rfl := now_str ry h2
    refine .inl ⟨rfl, ?_⟩
    have e : decide (V.str a = V.str b) = (a == b) := by
      by_cases h : a = b
      · subst h; simp
      · have h' : ¬ V.str a = V.str b := fun z => h (by injection z)
        simp [h, h']
    rw [e]
    exact Post.at A (.bl _) q
  · rename_i a b h1 h2
    obtain rfl := now_byt rx h1
    obtain rfl := now_byt ry h2
    refine .inl ⟨rfl, ?_⟩
    rw [dec_byt]
    exact Post.at A (.bl _) q
  · split at q
    · rename_i h
      rw [Bool.and_eq_true] at h
      obtain ⟨d, h1, s1⟩ := shaped_pd h.1
      obtain ⟨e, h2, s2⟩ := shaped_pd h.2
      refine .inr ⟨d, e, rx.now_dp A h1 (SeqAt.canLay_of_shaped s1), ry.now_dp A h2 (SeqAt.canLay_of_shaped s2), s1, s2, ?_⟩
      rw [T.eqv_pd _ _ h1 h2]
      exact Post.at A (.bl _) q
    · exact q.elim
theorem om_ne (hu : X.A.units + 64 < cLine) : OpM X (compareOp .NotEq) (opEqB true) := by
  refine ⟨_, OpR.alt op_ne (op_neD hu), fun ad as st H x y tx ty Q W A rx ry q => ?_⟩
  unfold opEqB at q
  split at q
  · rename_i a b h1 h2
    obtain rfl := now_str rx h1
    obtain rfl := now_str ry h2
    refine .inl ⟨rfl, ?_⟩
    have e : decide (V.str a = V.str b) = (a == b) := by
      by_cases h : a = b
      · subst h; simp
      · have h' : ¬ V.str a = V.str b := fun z => h (by injection z)
        simp [h, h']
    rw [e]
    exact Post.at A (.bl _) q
  · rename_i a b h1 h2
    obtain rfl := now_byt rx h1
    obtain rfl := now_byt ry h2
    refine .inl ⟨rfl, ?_⟩
    rw [dec_byt]
    exact Post.at A (.bl _) q
  · split at q
    · rename_i h
      rw [Bool.and_eq_true] at h
      obtain ⟨d, h1, s1⟩ := shaped_pd h.1
      obtain ⟨e, h2, s2⟩ := shaped_pd h.2
      refine .inr ⟨d, e, rx.now_dp A h1 (SeqAt.canLay_of_shaped s1), ry.now_dp A h2 (SeqAt.canLay_of_shaped s2), s1, s2, ?_⟩
      rw [T.eqv_pd _ _ h1 h2]
      exact Post.at A (.bl _) q
    · exact q.elim

def isNon : T → Bool
  | .non => true
  | _ => false
def opIs (neg : Bool) (x y : T) (st : Sto) : R T := match y with
  | .non => .ok (.bl (if neg then !isNon x else isNon x)) st
  | .bl b => match x with
    | .bl a => .ok (.bl (if neg then !decide (a = b) else decide (a = b))) st
    | _ => .bad
  | _ => .bad
theorem rep_isNon {K : PySem.W.Frag} {as : List Addr} {H : Hp} {v : V} {t : T} (r : Rep K ad as H v t) : decide (v = .non) = isNon t := by
  cases r <;> rfl
theorem om_is : OpM X (compareOp .Is) (opIs false) := by
  refine ⟨_, OpR.alt op_isN op_is_bl, fun ad as st H x y tx ty Q W A rx ry q => ?_⟩
  unfold opIs at q
  split at q
  · refine .inl ⟨ry.nonI, ?_⟩
    rw [rep_isNon rx]
    exact Post.at A (.bl _) q
  · split at q
    · exact .inr ⟨_, _, rx.blI, ry.blI, Post.at A (.bl _) q⟩
    · exact q.elim
  · exact q.elim
def inD (x : T) (ts : List T) : Bool := ts.any fun z => T.eqv z x
def opInB (neg : Bool) (x y : T) (st : Sto) : R T :=
  match (match y with | .tup ts => some ts | _ => lstR st y) with
  | some ts => if shaped x && shaped (.lst ts) then .ok (.bl (if neg then !inD x ts else inD x ts)) st else .bad
  | none => .bad
def rInS (K : PySem.W.Frag) (neg : Bool) : R2 := fun x y H Q => ∃ d ds, Dp K H x d ∧ (Dp K H y (.list ds) ∨ Dp K H y (.tuple ds)) ∧ SeqAt.shaped d = true ∧ SeqAt.shaped (.list ds) = true ∧ Q (.bl (if neg then !ds.any fun z => PyData.eqv z d else ds.any fun z => PyData.eqv z d)) H
theorem in_room {A : PySem.Around} {d : PyData} {ds : List PyData} (h : SeqAt.shaped d = true) (hu : A.units + 65 < cLine) : A.units + 1 + min (PyData.depthAll ds) d.depth < cLine := by
  have h1 := SeqAt.depth_of_shaped h
  have h2 : min (PyData.depthAll ds) d.depth ≤ d.depth := Nat.min_le_right _ _
  omega
theorem op_inS (hu : X.A.units + 65 < cLine) : OpR X (compareOp .In) (rInS X.K false) := by
  intro pins s σ H x y v u Q I rx ry h
  obtain ⟨d, ds, hd, he, sd, se, q⟩ := h
  obtain ⟨as, r1⟩ := Dp.reads I d x v hd rx
  rcases he with he | he
  · obtain ⟨bs, r2⟩ := Dp.reads I _ y u he ry
    exact SeqAt.in_list_reads r2 r1 (SeqAt.canLay_of_shaped se) (SeqAt.canLay_of_shaped sd) (in_room sd hu) ⟨.bl _, H, I, rfl, q⟩
  · obtain ⟨bs, r2⟩ := Dp.reads I _ y u he ry
    exact SeqAt.in_tuple_reads r2 r1 (SeqAt.canLay_of_shaped se) (SeqAt.canLay_of_shaped sd) (in_room sd hu) ⟨.bl _, H, I, rfl, q⟩
theorem op_notInS (hu : X.A.units + 65 < cLine) : OpR X (compareOp .NotIn) (rInS X.K true) := by
  intro pins s σ H x y v u Q I rx ry h
  obtain ⟨d, ds, hd, he, sd, se, q⟩ := h
  obtain ⟨as, r1⟩ := Dp.reads I d x v hd rx
  rcases he with he | he
  · obtain ⟨bs, r2⟩ := Dp.reads I _ y u he ry
    exact SeqAt.notIn_list_reads r2 r1 (SeqAt.canLay_of_shaped se) (SeqAt.canLay_of_shaped sd) (in_room sd hu) ⟨.bl _, H, I, rfl, q⟩
  · obtain ⟨bs, r2⟩ := Dp.reads I _ y u he ry
    exact SeqAt.notIn_tuple_reads r2 r1 (SeqAt.canLay_of_shaped se) (SeqAt.canLay_of_shaped sd) (in_room sd hu) ⟨.bl _, H, I, rfl, q⟩
theorem any_pd {x : T} {d : PyData} (h : x.pd = some d) : ∀ (ts : List T) {ds : List PyData}, T.pds ts = some ds → (ds.any fun z => PyData.eqv z d) = inD x ts
  | [], _, e => by simp only [T.pds, Option.some.injEq] at e; subst e; rfl
  | t :: ts, _, e => by
    obtain ⟨a, b, h1, h2, rfl⟩ := T.pds_cons e
    unfold inD
    rw [List.any_cons, List.any_cons, T.eqv_pd _ _ h1 h, any_pd h ts h2]
    rfl
theorem in_ok {neg : Bool} : ∀ ad as st H x y tx ty Q W, Ab X.K ad as st H → Rep X.K ad as H x tx → Rep X.K ad as H y ty → Post X.K ad (Rep X.K ad) as H Q W (opInB neg tx ty st) → rInS X.K neg x y H Q := by
  intro ad as st H x y tx ty Q W A rx ry q
  unfold opInB at q
  split at q
  · rename_i ts e
    split at q
    · rename_i h
      rw [Bool.and_eq_true] at h
      obtain ⟨d, h1, s1⟩ := shaped_pd h.1
      obtain ⟨l, h2, s2⟩ := shaped_pd h.2
      simp only [T.pd, Option.map_eq_some_iff] at h2
      obtain ⟨ds, h3, rfl⟩ := h2
      have hc := SeqAt.canLay_of_shaped s2
      simp only [PyData.canLay0] at hc
      refine ⟨d, ds, rx.dp h1 (SeqAt.canLay_of_shaped s1), ?_, s1, s2, ?_⟩
      · split at e
        · cases e
          obtain ⟨a, xs, rfl, g1, g2⟩ := ry.tupI
          exact .inr (.tup g1 (g2.dps h3 hc))
        · obtain ⟨a, xs, rfl, g1, g2⟩ := ry.lstR A e
          exact .inl (.lst g1 (g2.dps h3 hc))
      · rw [any_pd h1 ts h3]
        exact Post.at A (.bl _) q
    · exact q.elim
  · exact q.elim
theorem om_in (hu : X.A.units + 65 < cLine) : OpM X (compareOp .In) (opInB false) := ⟨_, op_inS hu, in_ok⟩
theorem om_notin (hu : X.A.units + 65 < cLine) : OpM X (compareOp .NotIn) (opInB true) := ⟨_, op_notInS hu, in_ok⟩

def atT (ts : List T) (i : Int) (st : Sto) : R T := match atI ts i with
  | some t => .ok t st
  | none => .bad
def opIx (x y : T) (st : Sto) : R T := match y with
  | .int i => match x with
    | .tup ts => atT ts i st
    | .str s => if s.length ≤ sizeLine then (match atI s.cps.toList i with
      | some c => .ok (.str ⟨#[c]⟩) st
      | none => .bad) else .bad
    | .byt b => if b.size ≤ sizeLine then (match atI b.toList i with
      | some c => .ok (.int ((c.toNat : Nat) : Int)) st
      | none => .bad) else .bad
    | x => match lstR st x with
      | some ts => atT ts i st
      | none => .bad
  | _ => .bad
theorem Reps.atI {K : PySem.W.Frag} {as : List Addr} {H : Hp} {xs : List V} {ts : List T} {i : Int} {t : T} (r : Reps K ad as H xs ts) (h : L2.atI ts i = some t) : ∃ v, L2.atI xs i = some v ∧ Rep K ad as H v t := by
  unfold L2.atI at h ⊢
  rw [r.length]
  cases e : ixN ts.length i with
  | none => rw [e] at h; cases h
  | some j => rw [e] at h; exact r.get h
def rIxBy : R2 := fun x y H Q => ∃ (z : Array UInt8) (i : Int) (c : UInt8), x = .byt z ∧ y = .int i ∧ z.size ≤ sizeLine ∧ atI z.toList i = some c ∧ Q (.int ((c.toNat : Nat) : Int)) H
theorem ix_byt {X : Cx} : IxR X rIxBy := by
  intro value slice pins s σ H x y v u Q I rx ry h hs
  obtain ⟨z, i, c, rfl, rfl, hz, he, q⟩ := h
  obtain ⟨t, rfl⟩ := rx
  obtain ⟨t', rfl⟩ := ry
  have hl : sizeLine = 16777216 := sizeLine_eq
  obtain ⟨j, h1, h2, h3, h4, h5⟩ := atI_get he
  rw [Array.length_toList] at h1 h3 h4 h5
  exact PyProof.Rows.tail_any (PySem.W.typeIs_bytes s z t) PySem.W.FB.slot_bytes_getitem.lookup (getItem_gives (PySem.W.typeIs_bytes s _ t) (by decide) PySem.W.FB.slot_bytes_getitem PySem.W.FB.entry_bytes_getitem (PySem.W.FB.args_bytes_getitem_2 _ _)
    (PySem.W.gives_bytes_getitem _ i t t' c (by simp only [Builtin.Bytes.fitsIndex, Bool.and_eq_true, decide_eq_true_eq]; omega) (by rw [h1]; simpa using h2)) ⟨.int _, H, I.tok _, ⟨_, rfl⟩, q⟩) hs
theorem pm_ix {W : WX} {pos : Pos} {a b : Expr} {ma mb : M T} (ha : PM X ad W a ma) (hb : PM X ad W b mb) (hs : PlainIx b) : PM X ad W (.Subscript a b pos) (mBin opIx ma mb) := by
  refine peW (pe_ix (ix_seq.or ix_byt) ha hb hs) (tBin fun ad as st H x y tx ty Q W A rx ry q => ?_)
  unfold opIx at q
  split at q
  · obtain rfl := ry.intI
    split at q
    · rename_i ts
      obtain ⟨a, xs, e1, h1, r1⟩ := rx.tupI
      unfold atT at q
      split at q
      · rename_i e
        obtain ⟨v, g1, g2⟩ := r1.atI e
        exact .inl (.inr (.inl ⟨a, xs, _, v, e1, rfl, h1, g1, Post.at A g2 q⟩))
      · exact q.elim
    · split at q
      · split at q
        · exact .inl (.inr (.inr ⟨_, _, _, rx.strI, rfl, by assumption, by assumption, Post.at A (.str _) q⟩))
        · exact q.elim
      · exact q.elim
    · split at q
      · split at q
        · exact .inr ⟨_, _, _, rx.bytI, rfl, by assumption, by assumption, Post.at A (.int _) q⟩
        · exact q.elim
      · exact q.elim
    · split at q
      · rename_i e0
        obtain ⟨a, xs, e1, h1, r1⟩ := rx.lstR A e0
        unfold atT at q
        split at q
        · rename_i e
          obtain ⟨v, g1, g2⟩ := r1.atI e
          exact .inl (.inl ⟨a, xs, _, v, e1, rfl, h1, g1, Post.at A g2 q⟩)
        · exact q.elim
      · exact q.elim
  · exact q.elim
end
end Mi
namespace Mi
open PySem L2
section
variable {X : Cx} {ad : Ad} {W : WX} {pos p : Pos} {e : Expr} {es : List Expr}
def mNil : M (List T) := fun _ st => .ok [] st
def mCons (a : M T) (r : M (List T)) : M (List T) := fun ρ st => (a ρ st).bind fun x st1 => (r ρ st1).bind fun xs st2 => .ok (x :: xs) st2
theorem pma_nil : PMA X ad W [] mNil := paW pa_nil fun _ _ _ ⟨_, _, _, _, A, _, q⟩ => Post.at A .nil q
theorem pma_cons {a : M T} {r : M (List T)} (ha : PM X ad W e a) (hr : PMA X ad W es r) (hs : starEach (e :: es) X.env = (false, eval e X.env) :: starEach es X.env := by rfl) : PMA X ad W (e :: es) (mCons a r) :=
  paW (pa_cons ha hr hs) fun σ H Q ⟨hd, ρ, as, st, A, E, q⟩ => ⟨hd, ρ, as, st, A, E, Post.step q fun x st1 as1 H1 vx A1 e1 r1 q1 =>
    ⟨hd, ρ, as1, st1, A1, E.ext e1, Post.step q1 fun y st2 as2 H2 vy A2 e2 r2 q2 => Post.at A2 (.cons (r1.ext e2) r2) q2⟩⟩
def seqR (st : Sto) (t : T) : Option (List T) := match t with
  | .tup ts => some ts
  | t => lstR st t
theorem Rep.seqR {K : PySem.W.Frag} {as : List Addr} {H : Hp} {st : Sto} {v : V} {t : T} {ts : List T} (A : Ab K ad as st H) (r : Rep K ad as H v t) (h : seqR st t = some ts) :
    ∃ a xs, v = .ref a ∧ (SqL K H a xs ∨ SqT K H a xs) ∧ Reps K ad as H xs ts := by
  unfold Mi.seqR at h
  split at h
  · cases h
    obtain ⟨a, xs, e, h1, h2⟩ := r.tupI
    exact ⟨a, xs, e, .inr h1, h2⟩
  · obtain ⟨a, xs, e, h1, h2⟩ := r.lstR A h
    exact ⟨a, xs, e, .inl h1, h2⟩
def mStar (a : M T) (r : M (List T)) : M (List T) := fun ρ st => (a ρ st).bind fun x st1 => match seqR st1 x with
  | some xs => (r ρ st1).bind fun ys st2 => .ok (xs ++ ys) st2
  | none => .bad
theorem pma_star {a : M T} {r : M (List T)} (ha : PE X e (tM X.K ad (Rep X.K) W a)) (hr : PMA X ad W es r)
    (ps : ∀ {te : TE} {t : TA}, PE X e te → PA X es t → PA X (.Starred e p :: es) (StX.tStar X.K te t)) : PMA X ad W (.Starred e p :: es) (mStar a r) :=
  paW (ps ha hr) fun σ H Q ⟨hd, ρ, as, st, A, E, q⟩ => ⟨hd, ρ, as, st, A, E, Post.step q fun x st1 as1 H1 vx A1 e1 r1 q1 => by
    split at q1
    · rename_i xs ex
      obtain ⟨a, vs, rfl, h1, h2⟩ := r1.seqR A1 ex
      exact ⟨a, vs, rfl, h1.symm, hd, ρ, as1, st1, A1, E.ext e1, Post.step q1 fun y st2 as2 H2 vy A2 e2 r2 q2 => Post.at A2 ((h2.ext e2).append r2) q2⟩
    · exact q1.elim⟩

def mTup (m : M (List T)) : M T := fun ρ st => (m ρ st).bind fun ts st1 => if ts.length ≤ sizeLine then .ok (.tup ts) st1 else .bad
def mLst (m : M (List T)) : M T := fun ρ st => (m ρ st).bind fun ts st1 => if ts.length ≤ sizeLine then .ok (.lst ts) st1 else .bad
def mLstS (m : M (List T)) : M T := fun ρ st => (m ρ st).bind fun ts st1 => if ts.length ≤ sizeLine then .ok (.ref st1.length) (st1 ++ [.lst ts]) else .bad
theorem pm_tup {k : Nat} {m : M (List T)} (h : PMA X ad W es m) : PM X ad W (.Tuple es k pos) (mTup m) :=
  peW (pe_tup h) fun σ H Q ⟨hd, ρ, as, st, A, E, q⟩ => ⟨hd, ρ, as, st, A, E, Post.step q fun x st1 as1 H1 vx A1 e1 r1 q1 => by
    split at q1
    · exact ⟨by rw [r1.length]; assumption, fun p hp => post_newTup A1 hp r1 q1⟩
    · exact q1.elim⟩
theorem pm_lst {m : M (List T)} (h : PMA X ad W es m) : PM X ad W (.List es pos) (mLst m) :=
  peW (pe_lst h) fun σ H Q ⟨hd, ρ, as, st, A, E, q⟩ => ⟨hd, ρ, as, st, A, E, Post.step q fun x st1 as1 H1 vx A1 e1 r1 q1 => by
    split at q1
    · exact ⟨by rw [r1.length]; assumption, fun p hp => post_newLst A1 hp r1 q1⟩
    · exact q1.elim⟩
theorem pm_lstS {m : M (List T)} (h : PMA X ad W es m) : PM X ad W (.List es pos) (mLstS m) :=
  peW (pe_lst h) fun σ H Q ⟨hd, ρ, as, st, A, E, q⟩ => ⟨hd, ρ, as, st, A, E, Post.step q fun x st1 as1 H1 vx A1 e1 r1 q1 => by
    split at q1
    · refine ⟨by rw [r1.length]; assumption, fun p hp => ?_⟩
      obtain ⟨B, ex, r⟩ := A1.newLst hp r1
      exact q1.to B ex r
    · exact q1.elim⟩

def CallM (X : Cx) (f : Value) (op : List T → Sto → R T) : Prop :=
  ∃ r, CallR X f r ∧ ∀ ad as st H xs ts Q W, Ab X.K ad as st H → Reps X.K ad as H xs ts → Post X.K ad (Rep X.K ad) as H Q W (op ts st) → r xs H Q
def mApp (op : List T → Sto → R T) (m : M (List T)) : M T := fun ρ st => (m ρ st).bind op
theorem CallR.alt {f : Value} {r r' : List V → Hp → VK → Prop} (h : CallR X f r) (h' : CallR X f r') : CallR X f (fun xs H Q => r xs H Q ∨ r' xs H Q) :=
  fun pins s σ H xs us Q I rx q => q.elim (h pins s σ H xs us Q I rx) (h' pins s σ H xs us Q I rx)
theorem tApp {r : List V → Hp → VK → Prop} {op : List T → Sto → R T} {m : M (List T)} (hop : ∀ ad as st H xs ts Q W, Ab X.K ad as st H → Reps X.K ad as H xs ts → Post X.K ad (Rep X.K ad) as H Q W (op ts st) → r xs H Q) :
    ∀ σ H Q, tM X.K ad (Rep X.K) W (mApp op m) σ H Q → tCB r (tM X.K ad (Reps X.K) W m) σ H Q := fun σ H Q ⟨hd, ρ, as, st, A, E, q⟩ =>
  ⟨hd, ρ, as, st, A, E, Post.step q fun x st1 as1 H1 vx A1 e1 r1 q1 => hop _ as1 st1 H1 vx x Q _ A1 r1 q1⟩
theorem pm_callB {x : Str} {id : String} {op : List T → Sto → R T} {m : M (List T)} (hc : CallM X (.builtin id) op) (hg : Gl X x) (hm : X.mg x = none) (hv : bootBuiltins x = some (.builtin id)) (ha : PMA X ad W (e :: es) m) (hn : x ≠ "__name__" := by decide)
    (hdb : (x == ("__debug__" : Str)) = false := by decide) (he : starEach (e :: es) X.env = (false, eval e X.env) :: starEach es X.env := by rfl) (hpl : (backTo pos (starEach es X.env)).any (·.1) = false := by rfl) :
    PM X ad W (.Call (.Name x p) (e :: es) [] pos) (mApp op m) := by
  obtain ⟨r, h1, h2⟩ := hc
  exact peW (pe_callB h1 hg hm hv ha hn hdb he hpl) (tApp h2)
theorem pm_callTy {x : Str} {id : String} {op : List T → Sto → R T} {m : M (List T)} (hc : CallM X (.type id) op) (hg : Gl X x) (hm : X.mg x = none) (hv : bootBuiltins x = some (.type id)) (ha : PMA X ad W (e :: es) m) (hn : x ≠ "__name__" := by decide)
    (hdb : (x == ("__debug__" : Str)) = false := by decide) (he : starEach (e :: es) X.env = (false, eval e X.env) :: starEach es X.env := by rfl) (hpl : (backTo pos (starEach es X.env)).any (·.1) = false := by rfl) :
    PM X ad W (.Call (.Name x p) (e :: es) [] pos) (mApp op m) := by
  obtain ⟨r, h1, h2⟩ := hc
  exact peW (pe_callTy h1 hg hm hv ha hn hdb he hpl) (tApp h2)
theorem Reps.one {K : PySem.W.Frag} {as : List Addr} {H : Hp} {xs : List V} {t : T} (r : Reps K ad as H xs [t]) : ∃ v, xs = [v] ∧ Rep K ad as H v t := by
  cases r with
  | cons a b => cases b; exact ⟨_, rfl, a⟩
theorem Reps.two {K : PySem.W.Frag} {as : List Addr} {H : Hp} {xs : List V} {t u : T} (r : Reps K ad as H xs [t, u]) : ∃ v w, xs = [v, w] ∧ Rep K ad as H v t ∧ Rep K ad as H w u := by
  cases r with
  | cons a b => cases b with
    | cons c d => cases d; exact ⟨_, _, rfl, a, c⟩

def fLen (xs : List T) (st : Sto) : R T := match xs with
  | [.str s] => if s.length ≤ sizeLine then .ok (.int s.length) st else .bad
  | [.byt b] => if b.size ≤ sizeLine then .ok (.int b.size) st else .bad
  | [t] => match seqR st t with
    | some ts => .ok (.int ts.length) st
    | none => .bad
  | _ => .bad
theorem cm_len : CallM X (.builtin "len") fLen := by
  refine ⟨_, CallR.alt call_len call_len_seq, fun ad as st H xs ts Q W A r q => ?_⟩
  unfold fLen at q
  split at q
  · obtain ⟨v, rfl, rv⟩ := r.one
    obtain rfl := rv.strI
    split at q
    · exact .inl ⟨_, _, rfl, ⟨by assumption, rfl⟩, Post.at A (.int _) q⟩
    · exact q.elim
  · obtain ⟨v, rfl, rv⟩ := r.one
    obtain rfl := rv.bytI
    split at q
    · exact .inl ⟨_, _, rfl, ⟨by assumption, rfl⟩, Post.at A (.int _) q⟩
    · exact q.elim
  · obtain ⟨v, rfl, rv⟩ := r.one
    split at q
    · rename_i ts e
      obtain ⟨a, vs, rfl, h1, h2⟩ := rv.seqR A e
      refine .inr ⟨a, vs, rfl, h1, ?_⟩
      rw [h2.length]
      exact Post.at A (.int _) q
    · exact q.elim
  · exact q.elim
def fInt (xs : List T) (st : Sto) : R T := match xs with
  | [.int i] => .ok (.int i) st
  | [.bl b] => .ok (.int (if b then 1 else 0)) st
  | _ => .bad
theorem cm_int : CallM X (.type "int") fInt := by
  refine ⟨_, call_int1, fun ad as st H xs ts Q W A r q => ?_⟩
  unfold fInt at q
  split at q
  · obtain ⟨v, rfl, rv⟩ := r.one
    obtain rfl := rv.intI
    exact .inl ⟨_, rfl, Post.at A (.int _) q⟩
  · obtain ⟨v, rfl, rv⟩ := r.one
    obtain rfl := rv.blI
    exact .inr ⟨_, rfl, Post.at A (.int _) q⟩
  · exact q.elim
def fMax2 (xs : List T) (st : Sto) : R T := match xs with
  | [.int i, .int j] => .ok (.int (if j > i then j else i)) st
  | _ => .bad
theorem cm_max2 (hc : X.calm = true) : CallM X (.builtin "max") fMax2 := by
  refine ⟨_, call_max2 hc, fun ad as st H xs ts Q W A r q => ?_⟩
  unfold fMax2 at q
  split at q
  · obtain ⟨v, w, rfl, rv, rw⟩ := r.two
    obtain rfl := rv.intI
    obtain rfl := rw.intI
    exact ⟨_, _, rfl, Post.at A (.int _) q⟩
  · exact q.elim
def fMin2 (xs : List T) (st : Sto) : R T := match xs with
  | [.int i, .int j] => .ok (.int (if j < i then j else i)) st
  | _ => .bad
theorem cm_min2 (hc : X.calm = true) : CallM X (.builtin "min") fMin2 := by
  refine ⟨_, call_min2 hc, fun ad as st H xs ts Q W A r q => ?_⟩
  unfold fMin2 at q
  split at q
  · obtain ⟨v, w, rfl, rv, rw⟩ := r.two
    obtain rfl := rv.intI
    obtain rfl := rw.intI
    exact ⟨_, _, rfl, Post.at A (.int _) q⟩
  · exact q.elim
def fTuple (xs : List T) (st : Sto) : R T := match xs with
  | [.tup ts] => .ok (.tup ts) st
  | [t] => match lstR st t with
    | some ts => .ok (.tup ts) st
    | none => .bad
  | _ => .bad
theorem cm_tuple : CallM X (.type "tuple") fTuple := by
  refine ⟨_, call_tuple_of, fun ad as st H xs ts Q W A r q => ?_⟩
  unfold fTuple at q
  split at q
  · obtain ⟨v, rfl, rv⟩ := r.one
    obtain ⟨a, vs, rfl, h1, h2⟩ := rv.tupI
    exact ⟨a, vs, rfl, .inr ⟨h1, Post.at A rv q⟩⟩
  · obtain ⟨v, rfl, rv⟩ := r.one
    split at q
    · rename_i ts e
      obtain ⟨a, vs, rfl, h1, h2⟩ := rv.lstR A e
      exact ⟨a, vs, rfl, .inl ⟨h1, fun l hl => post_newTup A hl h2 q⟩⟩
    · exact q.elim
  · exact q.elim
def blsOf : List T → Option (List Bool)
  | [] => some []
  | .bl b :: ts => (blsOf ts).map (b :: ·)
  | _ => none
theorem Reps.bls {K : PySem.W.Frag} {as : List Addr} {H : Hp} : ∀ {xs : List V} {ts : List T} {bs : List Bool}, Reps K ad as H xs ts → blsOf ts = some bs → xs = bs.map V.bl
  | _, _, _, .nil, h => by simp only [blsOf, Option.some.injEq] at h; subst h; rfl
  | _, _, _, .cons (.bl b) s, h => by
    simp only [blsOf, Option.map_eq_some_iff] at h
    obtain ⟨bs, h1, rfl⟩ := h
    rw [Reps.bls s h1]; rfl
  | _, _, _, .cons .non _, h | _, _, _, .cons (.int _) _, h | _, _, _, .cons (.str _) _, h | _, _, _, .cons (.byt _) _, h | _, _, _, .cons (.ty _) _, h
  | _, _, _, .cons (.tup _ _) _, h | _, _, _, .cons (.lst _ _) _, h | _, _, _, .cons (.frz _ _) _, h | _, _, _, .cons (.dct _ _ _ _) _, h | _, _, _, .cons (.ref _) _, h | _, _, _, .cons (.adr _) _, h | _, _, _, .cons (.ptp _ _) _, h => by simp [blsOf] at h
def fAll (xs : List T) (st : Sto) : R T := match xs with
  | [t] => match (lstR st t).bind blsOf with
    | some bs => .ok (.bl (bs.all id)) st
    | none => .bad
  | _ => .bad
end
end Mi
namespace Mi
open PySem L2
section
variable {X : Cx} {ad : Ad} {W : WX} {pos p : Pos} {e a b c : Expr} {es rest : List Expr}
theorem cm_all (hc : X.calm = true) : CallM X (.builtin "all") fAll := by
  refine ⟨_, cr_all hc, fun ad as st H xs ts Q W A r q => ?_⟩
  unfold fAll at q
  split at q
  · obtain ⟨v, rfl, rv⟩ := r.one
    split at q
    · rename_i bs e
      obtain ⟨ts, e1, e2⟩ := Option.bind_eq_some_iff.mp e
      obtain ⟨a, vs, rfl, h1, h2⟩ := rv.lstR A e1
      obtain rfl := h2.bls e2
      exact ⟨a, bs, rfl, h1, Post.at A (.bl _) q⟩
    · exact q.elim
  · exact q.elim
def tyName (st : Sto) : T → Option String
  | .non => some "NoneType"
  | .bl _ => some "bool"
  | .int _ => some "int"
  | .str _ => some "str"
  | .byt _ => some "bytes"
  | .tup _ => some "tuple"
  | .lst _ => some "list"
  | .frz _ => some "list"
  | .dct _ _ => some "dict"
  | .ref i => match st[i]? with
    | some (.lst _) => some "list"
    | _ => none
  | _ => none
def isTy (a b : String) : Option Bool := if ["NoneType", "bool", "int", "str", "bytes", "tuple", "list", "dict"].contains a && ["int", "bool", "str", "bytes", "tuple", "list", "dict"].contains b then some (a == b || (a == "bool" && b == "int")) else none
theorem isTy_kit {K : PySem.W.Frag} {a b : String} {r : Bool} (h : isTy a b = some r) : PySem.W.kitOne K (.type a) (.type b) = some r := by
  unfold isTy at h
  split at h
  · rename_i c
    simp only [List.contains_cons, List.contains_nil, Bool.or_false, Bool.and_eq_true, Bool.or_eq_true, beq_iff_eq] at c
    obtain ⟨c1, c2⟩ := c
    cases h
    rcases c1 with rfl | rfl | rfl | rfl | rfl | rfl | rfl | rfl <;> rcases c2 with rfl | rfl | rfl | rfl | rfl | rfl | rfl <;> exact kit_ty (by decide +kernel)
  · cases h
theorem Rep.tyX {K : PySem.W.Frag} {as : List Addr} {H : Hp} {st : Sto} {v : V} {t : T} {n : String} (A : Ab K ad as st H) (r : Rep K ad as H v t) (h : tyName st t = some n) : TyX K H v (.type n) := by
  cases r with
  | non => cases h; exact .base .non
  | bl b => cases h; exact .base (.bl b)
  | int b => cases h; exact .base (.int b)
  | str b => cases h; exact .base (.str b)
  | byt b => cases h; exact .byt b
  | ty b => cases h
  | adr b => cases h
  | ptp q s => cases h
  | tup q s =>
    cases h
    rcases q with ⟨_, q | ⟨o, q⟩⟩ | q
    · exact .base (.tup q)
    · exact .fTuple q
    · rcases q with (q | ⟨o, q⟩) | ⟨o, its, m, q, q2, _⟩
      · cases q
      · cases q
      · exact .kTuple q q2
  | lst q s => cases h; exact .base (.lst q.2)
  | frz q s =>
    cases h
    rcases q with ⟨_, o, q⟩ | q
    · exact .base (.frz q)
    · rcases q with (q | ⟨o, q⟩) | ⟨o, its, m, q, q2, _⟩
      · cases q
      · cases q
      · exact .kList q q2
  | dct _ q _ _ => cases h; exact .base (.dK q)
  | ref q =>
    simp only [tyName] at h
    split at h
    · rename_i e
      cases h
      obtain ⟨a, h2, xs, h3, h4⟩ := A.get e
      rw [q] at h2; cases h2
      exact .base (.lst h3)
    · cases h
section
variable {pins : List (Addr × Obj)} {σ : St} {H : Hp} {s : Shared} {as : List Addr}
theorem keys_read {h : Heap} {P : Program} {w : World} : ∀ {kvs : List (Key × V)} {vs : List (Key × Value)} {es : List DictEntry}, KV kvs vs → Pairs (mixKind P w) es vs →
    ReadsAll h (es.map (·.key)) ((kvs.map (·.1)).map keyPd) [] ∧ Vals (kvs.map (·.2)) (es.map (·.val))
  | _, _, _, .nil, .nil => ⟨.nil, .nil⟩
  | (k, x) :: _, (k', u) :: _, e :: _, .cons ⟨h1, h2⟩ t, .cons q1 q2 q3 => by
    obtain ⟨a1, a2⟩ := keys_read t q3
    have h1 : k = k' := h1
    subst h1
    have q1 : keyIs k e.key = true := q1
    have q2 : e.val = u := q2
    have h2 : RelV x u := h2
    refine ⟨?_, .cons (show RelV x e.val by rw [q2]; exact h2) a2⟩
    have hk : Reads h e.key (keyPd k) [] := by
      rcases keyIs_shape q1 with ⟨i, t, rfl, e⟩ | ⟨y, t, rfl, e⟩
      · rw [e]; exact Reads.int i t
      · rw [e]; exact Reads.str y t
    exact ReadsAll.cons hk a1
mutual
theorem Rep.reads (I : Inv X pins σ H s) (hn : H sysModules = none) : ∀ {v : V} {t : T} {d : PyData} {u : Value}, Rep X.K ad as H v t → t.pd = some d → RelV v u → ∃ bs, Reads s.heap u d bs ∧ sysModules ∉ bs
  | _, _, _, _, .non, h, r => by simp only [T.pd, Option.some.injEq] at h; subst h; cases r; exact ⟨_, Reads.none, by simp⟩
  | _, _, _, _, .bl b, h, r => by simp only [T.pd, Option.some.injEq] at h; subst h; cases r; exact ⟨_, Reads.bool b, by simp⟩
  | _, _, _, _, .int i, h, r => by simp only [T.pd, Option.some.injEq] at h; subst h; obtain ⟨t, rfl⟩ := r; exact ⟨_, Reads.int i t, by simp⟩
  | _, _, _, _, .str i, h, r => by simp only [T.pd, Option.some.injEq] at h; subst h; obtain ⟨t, rfl⟩ := r; exact ⟨_, Reads.str i t, by simp⟩
  | _, _, _, _, .byt _, h, _ | _, _, _, _, .ty _, h, _ | _, _, _, _, .frz _ _, h, _ | _, _, _, _, .ref _, h, _ | _, _, _, _, .adr _, h, _ | _, _, _, _, .ptp _ _, h, _ => by simp only [T.pd, reduceCtorEq] at h
  | _, _, _, _, .tup q rs, h, r => by
    simp only [T.pd, Option.map_eq_some_iff] at h
    obtain ⟨ds, h1, rfl⟩ := h
    cases r
    obtain ⟨its, rv, ⟨o, ho, hc, n, hd⟩, _⟩ := I.tuple q.sq
    obtain ⟨bs, hr, hz⟩ := Reps.reads I hn rs h1 rv
    exact ⟨_, Reads.tuple ho hc hd hr, hz⟩
  | _, _, _, _, .lst (a := a) q rs, h, r => by
    simp only [T.pd, Option.map_eq_some_iff] at h
    obtain ⟨ds, h1, rfl⟩ := h
    cases r
    obtain ⟨its, rv, ⟨o, n, ho, hc, _, hd⟩, _⟩ := I.list (SqL.of q.2)
    obtain ⟨bs, hr, hz⟩ := Reps.reads I hn rs h1 rv
    exact ⟨_, Reads.list ho hc hd hr, fun hm => by
      rcases List.mem_cons.mp hm with e | hm
      · have q2 := q.2
        rw [← e, hn] at q2; cases q2
      · exact hz hm⟩
  | _, _, _, _, .dct (a := a) (kvs := kvs) nn q hk rs, h, r => by
    simp only [T.pd, Option.map_eq_some_iff] at h
    obtain ⟨ds, h1, rfl⟩ := h
    cases r
    obtain ⟨_, _, vs, hv, o, es, ep, ho, hx, hd, _, hp, _⟩ := (show ObjOk X.prog X.w H s.heap a (.dK kvs) from I.hok a _ q)
    obtain ⟨a1, a2⟩ := keys_read (h := s.heap) hv hp
    obtain ⟨bs, hr, hz⟩ := Reps.reads I hn rs h1 a2
    subst hk
    have hl : ds.length = kvs.length := by
      have e1 := SeqAt.ReadsAll.length _ _ _ hr
      have e2 := a2.length
      simp only [List.length_map] at e1 e2
      omega
    have z1 : ((((kvs.map (·.1)).map keyPd).zip ds).map (·.1)) = (kvs.map (·.1)).map keyPd := by
      rw [List.map_fst_zip]
      simp [hl]
    have z2 : ((((kvs.map (·.1)).map keyPd).zip ds).map (·.2)) = ds := by
      rw [List.map_snd_zip]
      simp [hl]
    refine ⟨_, Reads.dict (as := []) (bs := bs) ho hx.1 hd (by rw [z1]; exact a1) (by rw [z2]; exact hr), fun hm => ?_⟩
    rcases List.mem_append.mp hm with hm | hm
    · have e : sysModules = a := by simpa using hm
      rw [← e, hn] at q; cases q
    · exact hz hm
theorem Reps.reads (I : Inv X pins σ H s) (hn : H sysModules = none) : ∀ {v : List V} {t : List T} {d : List PyData} {u : List Value}, Reps X.K ad as H v t → T.pds t = some d → Vals v u → ∃ bs, ReadsAll s.heap u d bs ∧ sysModules ∉ bs
  | _, _, _, _, .nil, h, r => by
    simp only [T.pds, Option.some.injEq] at h; subst h; cases r; exact ⟨_, ReadsAll.nil, by simp⟩
  | _, _, _, _, .cons r1 r2, h, r => by
    obtain ⟨d1, d2, h1, h2, rfl⟩ := T.pds_cons h
    cases r with
    | cons q1 q2 =>
      obtain ⟨bs, a1, z1⟩ := Rep.reads I hn r1 h1 q1
      obtain ⟨cs, a2, z2⟩ := Reps.reads I hn r2 h2 q2
      exact ⟨_, ReadsAll.cons a1 a2, fun hm => (List.mem_append.mp hm).elim z1 z2⟩
end
theorem Inv.noMods (I : Inv X pins σ H s) (hm : ∃ o, X.base.get? sysModules = some o) : H sysModules = none := by
  obtain ⟨o, e⟩ := hm
  exact (I.bs _ _ e).2
theorem Rep.readsNow {st : Sto} {v : V} {t : T} {d : PyData} {u : Value} (I : Inv X pins σ H s) (hn : H sysModules = none) (A : Ab X.K ad as st H) (r : Rep X.K ad as H v t) (h : (now st t).pd = some d) (rv : RelV v u) :
    ∃ bs, Reads s.heap u d bs ∧ sysModules ∉ bs := by
  unfold now at h
  split at h
  · rename_i i
    split at h
    · rename_i ts e
      simp only [T.pd, Option.map_eq_some_iff] at h
      obtain ⟨ds, h1, rfl⟩ := h
      obtain ⟨a, h2, xs, h3, h4⟩ := A.get e
      cases r with
      | ref h5 =>
        rw [h2] at h5; cases h5
        cases rv
        obtain ⟨its, rv, ⟨o, n, ho, hc, _, hd⟩, _⟩ := I.list (SqL.of h3)
        obtain ⟨bs, hr, hz⟩ := Reps.reads I hn h4 h1 rv
        exact ⟨_, Reads.list ho hc hd hr, fun hm => by
          rcases List.mem_cons.mp hm with e | hm
          · rw [← e, hn] at h3; cases h3
          · exact hz hm⟩
    · simp only [T.pd, reduceCtorEq] at h
  · exact Rep.reads I hn r h rv
end
def reprOf (st : Sto) (t : T) : Option Str := match (now st t).pd with
  | some d => if d.showable && decide (d.shown.length ≤ sizeLine) && decide (d.depth ≤ 64) then some d.shown else none
  | none => none
def fRepr (xs : List T) (st : Sto) : R T := match xs with
  | [t] => match reprOf st t with
    | some z => .ok (.str z) st
    | none => .bad
  | _ => .bad
theorem cm_repr {k : Nat} (S : Sit X W k) : CallM X (.builtin "repr") fRepr := by
  refine ⟨fun xs H Q => ∃ ad as st v t z, xs = [v] ∧ Ab X.K ad as st H ∧ Rep X.K ad as H v t ∧ reprOf st t = some z ∧ Q (.str z) H, ?_, fun ad as st H xs ts Q W A r q => ?_⟩
  · intro pins s σ H xs us Q I r h
    obtain ⟨ad, as, st, v, t, z, rfl, A, rv, e, q⟩ := h
    obtain ⟨u, rfl, ru⟩ := vals1 r
    unfold reprOf at e
    split at e
    · rename_i d hd
      split at e
      · rename_i hc
        cases e
        simp only [Bool.and_eq_true, decide_eq_true_eq] at hc
        obtain ⟨⟨h1, h2⟩, h3⟩ := hc
        obtain ⟨bs, hr, hz⟩ := Rep.readsNow I (Inv.noMods I S.sm) A rv hd ru
        have hu := S.rm.un
        have fin : ∀ tk tk', EP X pins σ Q (.str d.shown tk') { s with toks := tk } := fun tk tk' => ⟨.str d.shown, H, I.tok _, ⟨_, rfl⟩, q⟩
        have isref : ∀ {a : Addr}, u = .ref a → wpAny (model X.prog X.w) X.A (call (.builtin "repr") [u]) (EP X pins σ Q) X.xe s := fun {a} ea => by
          subst ea
          exact repr_of_reads' hr h1 (fun _ => hz) S.gd (by omega) (fun b o e => e) (fun h' u tk hk => ⟨.str d.shown, H, I.kept (t' := tk) hk, ⟨_, rfl⟩, q⟩) h2
        cases hr with
        | none => exact PySem.P.repr_of_none (fin _ _)
        | bool b => exact PySem.P.repr_of_bool (fin _ _)
        | int i t => exact PySem.P.repr_of_int (by simpa only [PyData.showable, decide_eq_true_eq] using h1) (fin _ _)
        | str x t => exact PySem.P.repr_of_str (fin _ _) h2
        | list _ _ _ _ => exact isref rfl
        | tuple _ _ _ _ => exact isref rfl
        | dict _ _ _ _ _ => exact isref rfl
      · cases e
    · cases e
  · unfold fRepr at q
    split at q
    · obtain ⟨v, rfl, rv⟩ := r.one
      split at q
      · exact ⟨ad, as, st, v, _, _, rfl, A, rv, by assumption, Post.at A (.str _) q⟩
      · exact q.elim
    · exact q.elim
end
end Mi
namespace Mi
open PySem L2
section
variable {X : Cx} {ad : Ad} {W : WX} {pos p p2 : Pos} {e a b c : Expr} {es rest : List Expr}
def cutT (xs : List T) (lo hi : Option Int) : List T := (xs.drop (HT.sIx xs.length 0 lo)).take (HT.sIx xs.length xs.length hi - HT.sIx xs.length 0 lo)
theorem Reps.cut {K : PySem.W.Frag} {as : List Addr} {H : Hp} {xs : List V} {ts : List T} (r : Reps K ad as H xs ts) (lo hi : Option Int) : Reps K ad as H (cutV xs lo hi) (cutT ts lo hi) := by
  unfold cutV cutT
  rw [r.length]
  exact (r.drop _).take _
def opSl (x : T) (lo hi : Option Int) (st : Sto) : R T := match x with
  | .tup ts => .ok (.tup (cutT ts lo hi)) st
  | .str z => if z.length ≤ sizeLine then .ok (.str (cutS z lo hi)) st else .bad
  | .byt b => if b.size ≤ 16777216 then .ok (.byt (PySem.W.KBy.picked b lo hi)) st else .bad
  | x => match lstR st x with
    | some ts => .ok (.lst (cutT ts lo hi)) st
    | none => .bad
def mNoPart : M (Option Int) := fun _ st => .ok none st
def mPart (m : M T) : M (Option Int) := fun ρ st => (m ρ st).bind fun x st1 => match x with
  | .int i => .ok (some i) st1
  | _ => .bad
theorem pmo_none : PMO X ad W none mNoPart := poW po_none fun _ _ _ ⟨_, _, _, _, A, _, q⟩ => Post.at A rfl q
theorem pmo_some {m : M T} (h : PM X ad W e m) : PMO X ad W (some e) (mPart m) :=
  poW (po_some h) fun σ H Q ⟨hd, ρ, as, st, A, E, q⟩ => ⟨hd, ρ, as, st, A, E, Post.step q fun x st1 as1 H1 vx A1 e1 r1 q1 => by
    cases r1 with
    | int i => exact ⟨i, rfl, Post.at A1 rfl q1⟩
    | _ => exact q1.elim⟩
def mSl (m : M T) (l u : M (Option Int)) : M T := fun ρ st => (m ρ st).bind fun x st1 => (l ρ st1).bind fun lo st2 => (u ρ st2).bind fun hi st3 => opSl x lo hi st3
theorem pm_sl {m : M T} {l u : M (Option Int)} {lo hi : Option Expr} (he : PM X ad W e m) (hl : PMO X ad W lo l) (hu : PMO X ad W hi u) : PM X ad W (.Subscript e (.Slice lo hi none p2) pos) (mSl m l u) := by
  refine peW (pe_slice (sl_tupA.or (sl_str.or (sl_list.or sl_byt))) he hl hu) fun σ H Q ⟨hd, ρ, as, st, A, E, q⟩ =>
    ⟨hd, ρ, as, st, A, E, Post.step q fun x st1 as1 H1 vx A1 e1 r1 q1 => ⟨hd, ρ, as1, st1, A1, E.ext e1, Post.step q1 fun lo st2 as2 H2 vl A2 e2 r2 q2 =>
      ⟨hd, ρ, as2, st2, A2, (E.ext e1).ext e2, Post.step q2 fun hi st3 as3 H3 vh A3 e3 r3 q3 => ?_⟩⟩⟩
  obtain rfl := r2
  obtain rfl := r3
  replace r1 := (r1.ext e2).ext e3
  unfold opSl at q3
  split at q3
  · rename_i ts
    obtain ⟨a, xs, rfl, h1, h2⟩ := r1.tupI
    refine .inl ⟨a, xs, rfl, h1, fun hw => ?_, fun _ p hp => post_newTup A3 hp (h2.cut _ _) q3⟩
    have : cutT ts vl vh = ts := by
      unfold cutT
      rw [h2.length] at hw
      rw [hw.1, hw.2]
      simp
    rw [this] at q3
    exact Post.at A3 r1 q3
  · split at q3
    · exact .inr (.inl ⟨_, r1.strI, by assumption, Post.at A3 (.str _) q3⟩)
    · exact q3.elim
  · split at q3
    · exact .inr (.inr (.inr ⟨_, r1.bytI, by assumption, Post.at A3 (.byt _) q3⟩))
    · exact q3.elim
  · split at q3
    · rename_i ts e
      obtain ⟨a, xs, rfl, h1, h2⟩ := r1.lstR A3 e
      exact .inr (.inr (.inl ⟨a, xs, rfl, h1, fun p hp => post_newLst A3 hp (h2.cut _ _) q3⟩))
    · exact q3.elim

def opNeg (x : T) (st : Sto) : R T := match x with
  | .int i => .ok (.int (-i)) st
  | _ => .bad
def mUn (op : T → Sto → R T) (m : M T) : M T := fun ρ st => (m ρ st).bind op
theorem pm_neg {m : M T} (h : PM X ad W a m) : PM X ad W (.UnaryOp .USub a pos) (mUn opNeg m) :=
  peW (pe_un un_neg h) fun σ H Q ⟨hd, ρ, as, st, A, E, q⟩ => ⟨hd, ρ, as, st, A, E, Post.step q fun x st1 as1 H1 vx A1 e1 r1 q1 => by
    cases r1 with
    | int i => exact ⟨i, rfl, Post.at A1 (.int _) q1⟩
    | _ => exact q1.elim⟩

def mAnd (a b : M T) : M T := fun ρ st => (a ρ st).bind fun x st1 => match x with
  | .bl true => b ρ st1
  | .bl false => .ok (.bl false) st1
  | _ => .bad
def mNot (a : M T) : M T := fun ρ st => (a ρ st).bind fun x st1 => match x with
  | .bl b => .ok (.bl (!b)) st1
  | _ => .bad
theorem pm_one {o : BoolOp} {m : M T} (h : PM X ad W a m) : PM X ad W (.BoolOp o [a] pos) m := pe_one h
theorem pm_and {ma mb : M T} (ha : PM X ad W a ma) (hb : PM X ad W (.BoolOp .And (b :: rest) pos) mb) : PM X ad W (.BoolOp .And (a :: b :: rest) pos) (mAnd ma mb) :=
  peW (pe_and ha hb) fun σ H Q ⟨hd, ρ, as, st, A, E, q⟩ => ⟨hd, ρ, as, st, A, E, Post.step q fun x st1 as1 H1 vx A1 e1 r1 q1 => by
    cases r1 with
    | bl c =>
      refine ⟨c, rfl, ?_⟩
      cases c with
      | true => exact iteT ⟨hd, ρ, as1, st1, A1, E.ext e1, q1⟩
      | false => exact iteF (Post.at A1 (.bl _) q1)
    | _ => exact q1.elim⟩
theorem pm_not {ma : M T} (ha : PM X ad W a ma) : PM X ad W (.UnaryOp .Not a pos) (mNot ma) :=
  peW (pe_not ha) fun σ H Q ⟨hd, ρ, as, st, A, E, q⟩ => ⟨hd, ρ, as, st, A, E, Post.step q fun x st1 as1 H1 vx A1 e1 r1 q1 => by
    cases r1 with
    | bl c => exact ⟨c, rfl, Post.at A1 (.bl _) q1⟩
    | _ => exact q1.elim⟩
def mTAnd (a b : M Bool) : M Bool := fun ρ st => (a ρ st).bind fun x st1 => match x with
  | true => b ρ st1
  | false => .ok false st1
def mTOr (a b : M Bool) : M Bool := fun ρ st => (a ρ st).bind fun x st1 => match x with
  | true => .ok true st1
  | false => b ρ st1
def mTNot (a : M Bool) : M Bool := fun ρ st => (a ρ st).bind fun x st1 => .ok (!x) st1
theorem pmw_and1 {m : M Bool} (h : PMT X ad W a m) : PMW X ad W (.BoolOp .And [a] pos) m := pw_and1 h
theorem pmw_or1 {m : M Bool} (h : PMT X ad W a m) : PMW X ad W (.BoolOp .Or [a] pos) m := pw_or1 h
theorem pmw_and {ma mb : M Bool} (ha : PMT X ad W a ma) (hb : PMW X ad W (.BoolOp .And (b :: rest) pos) mb) : PMW X ad W (.BoolOp .And (a :: b :: rest) pos) (mTAnd ma mb) :=
  pwW (pw_and ha hb) fun σ H Q ⟨hd, ρ, as, st, A, E, q⟩ => ⟨hd, ρ, as, st, A, E, Post.step q fun x st1 as1 H1 vx A1 e1 r1 q1 => by
    obtain rfl := r1
    cases vx with
    | true => exact iteT ⟨hd, ρ, as1, st1, A1, E.ext e1, q1⟩
    | false => exact iteF (Post.at A1 rfl q1)⟩
theorem pmw_or {ma mb : M Bool} (ha : PMT X ad W a ma) (hb : PMW X ad W (.BoolOp .Or (b :: rest) pos) mb) : PMW X ad W (.BoolOp .Or (a :: b :: rest) pos) (mTOr ma mb) :=
  pwW (pw_or ha hb) fun σ H Q ⟨hd, ρ, as, st, A, E, q⟩ => ⟨hd, ρ, as, st, A, E, Post.step q fun x st1 as1 H1 vx A1 e1 r1 q1 => by
    obtain rfl := r1
    cases vx with
    | false => exact iteF ⟨hd, ρ, as1, st1, A1, E.ext e1, q1⟩
    | true => exact iteT (Post.at A1 rfl q1)⟩
theorem pmt_bool {m : M Bool} {o : BoolOp} (h : PMW X ad W (.BoolOp o es pos) m) : PMT X ad W (.BoolOp o es pos) m := h.pt
theorem pmt_not {m : M Bool} (h : PMT X ad W a m) : PMT X ad W (.UnaryOp .Not a pos) (mTNot m) :=
  ptW (pt_not h) fun σ H Q ⟨hd, ρ, as, st, A, E, q⟩ => ⟨hd, ρ, as, st, A, E, Post.step q fun x st1 as1 H1 vx A1 e1 r1 q1 => by
    obtain rfl := r1
    exact Post.at A1 rfl q1⟩
def mIte (c : M Bool) (a b : M T) : M T := fun ρ st => (c ρ st).bind fun x st1 => match x with
  | true => a ρ st1
  | false => b ρ st1
theorem pm_ite {mc : M Bool} {ma mb : M T} (hc : PMT X ad W c mc) (ha : PM X ad W a ma) (hb : PM X ad W b mb) : PM X ad W (.IfExp c a b pos) (mIte mc ma mb) :=
  peW (pe_ifExp hc ha hb) fun σ H Q ⟨hd, ρ, as, st, A, E, q⟩ => ⟨hd, ρ, as, st, A, E, Post.step q fun x st1 as1 H1 vx A1 e1 r1 q1 => by
    obtain rfl := r1
    cases vx with
    | true => exact iteT ⟨hd, ρ, as1, st1, A1, E.ext e1, q1⟩
    | false => exact iteF ⟨hd, ρ, as1, st1, A1, E.ext e1, q1⟩⟩
def mChain (op op' : T → T → Sto → R T) (a b c : M T) : M T := fun ρ st => (a ρ st).bind fun x st1 => (b ρ st1).bind fun y st2 => (op x y st2).bind fun r st3 => match r with
  | .bl true => (c ρ st3).bind fun z st4 => op' y z st4
  | .bl false => .ok (.bl false) st3
  | _ => .bad
theorem op_then {K : PySem.W.Frag} {ad : Ad} {f : Value → Value → Sem Value} {r : R2} {op : T → T → Sto → R T} (h2 : ∀ ad as st H x y tx ty Q W, Ab K ad as st H → Rep K ad as H x tx → Rep K ad as H y ty → Post K ad (Rep K ad) as H Q W (op tx ty st) → r x y H Q)
    {as : List Addr} {st : Sto} {H : Hp} {x y : V} {tx ty : T} {W' : XK} {g : T → Sto → R T} {Q Q' : V → Hp → Prop} (A : Ab K ad as st H) (rx : Rep K ad as H x tx) (ry : Rep K ad as H y ty) (q : Post K ad (Rep K ad) as H Q' W' ((op tx ty st).bind g))
    (k : ∀ t st1 as1 H1 v, Ab K ad as1 st1 H1 → Ext as H as1 H1 → Rep K ad as1 H1 v t → Post K ad (Rep K ad) as1 H1 Q' W' (g t st1) → Q v H1) : r x y H Q := h2 ad as st H x y tx ty Q W' A rx ry (Post.step q k)
theorem pm_chain {o o' : CmpOp} {op op' : T → T → Sto → R T} {ma mb mc : M T} (ho : OpM X (compareOp o) op) (ho' : OpM X (compareOp o') op') (ha : PM X ad W a ma) (hb : PM X ad W b mb) (hc : PM X ad W c mc)
    (hm : lastMarks [o, o'] [b, c] = false := by with_unfolding_all rfl) : PM X ad W (.Compare a [o, o'] [b, c] pos) (mChain op op' ma mb mc) := by
  obtain ⟨r, h1, h2⟩ := ho
  obtain ⟨r', h1', h2'⟩ := ho'
  refine peW (pe_chain h1 h1' ha hb hc hm) fun σ H Q ⟨hd, ρ, as, st, A, E, q⟩ => ⟨hd, ρ, as, st, A, E, Post.step q fun x st1 as1 H1 vx A1 e1 r1 q1 => ⟨hd, ρ, as1, st1, A1, E.ext e1, Post.step q1 fun y st2 as2 H2 vy A2 e2 r2 q2 => ?_⟩⟩
  refine op_then (f := compareOp o) h2 A2 (r1.ext e2) r2 q2 fun t st3 as3 H3 v A3 e3 r3 q3 => ?_
  cases r3 with
  | bl k =>
    refine ⟨k, rfl, ?_⟩
    cases k with
    | true => exact iteT ⟨hd, ρ, as3, st3, A3, ((E.ext e1).ext e2).ext e3, Post.step q3 fun z st4 as4 H4 vz A4 e4 r4 q4 => h2' _ as4 st4 H4 _ _ _ _ Q _ A4 ((r2.ext e3).ext e4) r4 q4⟩
    | false => exact iteF (Post.at A3 (.bl _) q3)
  | _ => exact q3.elim
end
section
variable {X : Cx} {ad : Ad} {W : WX} {k n : Nat} {f : Addr} {fd : FuncData} {ps : List Str} {F : List T → Sto → R T} {x : Str} {p pos : Pos} {e : Expr} {es : List Expr}
theorem run_gn {sp : Sp} {pins : List (Addr × Obj)} {σ : St} {H : Hp} {s : Shared} {Q : VK} {us : List Value} {vs : List V} (G : GnOk X.prog X.w X.K X.mg X.base k f fd ps sp) (S : Sit X W k) (hb : Binds X.K fd ps [])
    (I : Inv X pins σ H s) (r : Vals vs us) (h : sp vs H Q fun u d H' => W u d σ H') : wpAny (model X.prog X.w) X.A (call (.ref f) us) (EP X pins σ Q) X.xe s := by
  have hl : us.length = ps.length := by rw [← r.length]; exact G.len _ _ _ _ h
  have bb := hb s us I.kIn (by simpa using hl)
  rw [List.append_nil] at bb
  refine wpAny_call (codeAny_mono (G.run X.A X.stack s H ⟨us, []⟩ us vs Q _ S.rm S.gd I.env0 bb r h) fun q s' hq => ?_)
  cases q with
  | error e => exact S.tk e s' (XE.of_call I (fun _ _ _ z => z) hq)
  | ok fl =>
    cases fl with
    | ret u => exact I.after hq
    | next => exact False.elim hq
    | brk => exact False.elim hq
    | cont => exact False.elim hq
theorem pm_call {m : M (List T)} (G : GnOk X.prog X.w X.K X.mg X.base k f fd ps (spF X.K ad n F)) (S : Sit X W k) (hg : Gl X x) (hm : X.mg x = some (.ref f)) (hk : PySem.W.keepIn X.K (.ref f) = true) (hb : Binds X.K fd ps [])
    (ha : PMA X ad W (e :: es) m) (hdb : (x == ("__debug__" : Str)) = false := by decide) (he : starEach (e :: es) X.env = (false, eval e X.env) :: starEach es X.env := by rfl) (hpl : (backTo pos (starEach es X.env)).any (·.1) = false := by rfl) :
    PM X ad W (.Call (.Name x p) (e :: es) [] pos) (mApp (fun ts st => if ts.length = n then F ts st else .bad) m) := by
  refine ⟨fun pins s σ H Q I ⟨hd, ρ, as, st, A, E, q⟩ => wpAny_Call_Name_kw (ld_glob I hg hm ?_ hdb)⟩
  refine PySem.W.callWith_K (h₀ := X.base) I.ok.mod.kin hk (thn (ha.run pos pins s σ H _ I ⟨hd, ρ, as, st, A, E, Post.step (Q := fun vs H1 => spF X.K ad n F vs H1 Q fun u d H' => W u d σ H') q fun ts st1 as1 H1 vs A1 e1 r1 q1 => ?_⟩) fun us s1 ⟨vs, H1, I1, r, q⟩ => ⟨I1.kIn, ?_⟩) he hpl
  · split at q1
    · exact ⟨by rw [r1.length]; assumption, hd, as1, st1, ts, A1, r1, q1⟩
    · exact q1.elim
  · exact run_gn G S hb I1 r q
theorem pm_call0 (G : GnOk X.prog X.w X.K X.mg X.base k f fd ps (spF X.K ad 0 F)) (S : Sit X W k) (hg : Gl X x) (hm : X.mg x = some (.ref f)) (hk : PySem.W.keepIn X.K (.ref f) = true) (hb : Binds X.K fd ps [])
    (hdb : (x == ("__debug__" : Str)) = false := by decide) : PM X ad W (.Call (.Name x p) [] [] pos) (mApp (fun ts st => if ts.length = 0 then F ts st else .bad) mNil) := by
  refine ⟨fun pins s σ H Q I ⟨hd, ρ, as, st, A, E, q⟩ => wpAny_Call_Name_kw (ld_glob I hg hm ?_ hdb)⟩
  exact PySem.W.callWith_K0 I.kIn hk (run_gn (us := []) (vs := []) G S hb I .nil ⟨rfl, hd, as, st, [], A, .nil, q⟩)
end
end Mi
namespace Mi
open PySem L2
inductive RS where
  | nx (ρ : Sl) (st : Sto)
  | rt (t : T) (st : Sto)
  | bk (ρ : Sl) (st : Sto)
  | ct (ρ : Sl) (st : Sto)
  | ex (e : Exn) (ρ : Sl) (st : Sto)
  | bad
abbrev SM := Sl → Sto → RS

section
variable (K : PySem.W.Frag) (ad : Ad)
def PostS (as : List Addr) (H : Hp) (D : Ends) (W : WX) : RS → Prop
  | .nx ρ st => ∀ as' H' σ', Ab K ad as' st H' → Ext as H as' H' → En K ad as' H' σ' ρ → D.nx σ' H'
  | .rt t st => ∀ as' H' v, Ab K ad as' st H' → Ext as H as' H' → Rep K ad as' H' v t → D.rt v H'
  | .bk ρ st => ∀ as' H' σ', Ab K ad as' st H' → Ext as H as' H' → En K ad as' H' σ' ρ → D.bk σ' H'
  | .ct ρ st => ∀ as' H' σ', Ab K ad as' st H' → Ext as H as' H' → En K ad as' H' σ' ρ → D.ct σ' H'
  | .ex e ρ st => ∀ as' H' σ' u d, Ab K ad as' st H' → Ext as H as' H' → En K ad as' H' σ' ρ → ExRep K ad as' H' e u d → W u d σ' H'
  | .bad => False
def tS (W : WX) (m : SM) : TS := fun D σ H => ∃ hd ρ as st, Ab K (ad.hide hd) as st H ∧ En K (ad.hide hd) as H σ ρ ∧ PostS K (ad.hide hd) as H D W (m ρ st)
end
abbrev PMS (X : Cx) (ad : Ad) (W : WX) (s : Stmt) (m : SM) : Prop := PS X s (tS X.K ad W m)
abbrev PMSs (X : Cx) (ad : Ad) (W : WX) (s : List Stmt) (m : SM) : Prop := PSs X s (tS X.K ad W m)

def RS.of {α : Type} (r : R α) (ρ : Sl) (f : α → Sto → RS) : RS := match r with
  | .ok a st => f a st
  | .exc e st => .ex e ρ st
  | .bad => .bad
@[simp] theorem RS.of_ok {α : Type} (a : α) (st : Sto) (ρ : Sl) (f : α → Sto → RS) : RS.of (.ok a st) ρ f = f a st := rfl

section
variable {K : PySem.W.Frag} {ad : Ad} {as as' : List Addr} {H H' : Hp} {st : Sto} {σ : St} {ρ : Sl} {D D' : Ends} {W : WX}
theorem PostS.ext (e : Ext as H as' H') {r : RS} (h : PostS K ad as H D W r) : PostS K ad as' H' D W r := by
  cases r with
  | nx ρ st => exact fun a b c A e2 E => h a b c A (e.trans e2) E
  | rt t st => exact fun a b c A e2 E => h a b c A (e.trans e2) E
  | bk ρ st => exact fun a b c A e2 E => h a b c A (e.trans e2) E
  | ct ρ st => exact fun a b c A e2 E => h a b c A (e.trans e2) E
  | ex x ρ st => exact fun a b c u d A e2 E => h a b c u d A (e.trans e2) E
  | bad => exact h
theorem PostS.nxAt (A : Ab K ad as st H) (E : En K ad as H σ ρ) (h : PostS K ad as H D W (.nx ρ st)) : D.nx σ H := h as H σ A Ext.refl E
theorem PostS.expr {α β : Type} {Rl : List Addr → Hp → β → α → Prop} {r : R α} {f : α → Sto → RS} {Q : β → Hp → Prop} (E : En K ad as H σ ρ) (h : PostS K ad as H D W (RS.of r ρ f))
    (k : ∀ t st1 as1 H1 v, Ab K ad as1 st1 H1 → Ext as H as1 H1 → Rl as1 H1 v t → PostS K ad as1 H1 D W (f t st1) → Q v H1) : Post K ad Rl as H Q (fun u d H' => W u d σ H') r := by
  cases r with
  | ok t st' => exact fun as1 H1 v A e r => k t st' as1 H1 v A e r (PostS.ext e h)
  | exc x st' => exact fun as1 H1 u d A e r => h as1 H1 σ u d A e (E.ext e) r
  | bad => exact h
def RS.seq (r : RS) (f : Sl → Sto → RS) : RS := match r with
  | .nx ρ st => f ρ st
  | r => r
theorem PostS.seq {r : RS} {f : Sl → Sto → RS} {N : St → Hp → Prop} (h : PostS K ad as H D W (r.seq f))
    (k : ∀ ρ st1 as1 H1 σ1, Ab K ad as1 st1 H1 → Ext as H as1 H1 → En K ad as1 H1 σ1 ρ → PostS K ad as1 H1 D W (f ρ st1) → N σ1 H1) : PostS K ad as H { D with nx := N } W r := by
  cases r with
  | nx ρ st => exact fun as1 H1 σ1 A e E => k ρ st as1 H1 σ1 A e E (PostS.ext e h)
  | rt t st => exact h
  | bk ρ st => exact h
  | ct ρ st => exact h
  | ex x ρ st => exact h
  | bad => exact h
end
section
variable {X : Cx} {ad : Ad} {W : WX} {pos p p2 : Pos} {e c : Expr} {s : Stmt} {ss a b : List Stmt}
def sNil : SM := fun ρ st => .nx ρ st
def sCons (m r : SM) : SM := fun ρ st => (m ρ st).seq r
theorem pms_nil : PMSs X ad W [] sNil := pssW pss_nil fun _ _ _ ⟨_, _, _, _, A, E, q⟩ => PostS.nxAt A E q
theorem pms_cons {m r : SM} (h1 : PMS X ad W s m) (h2 : PMSs X ad W ss r) : PMSs X ad W (s :: ss) (sCons m r) :=
  pssW (pss_cons h1 h2) fun D σ H ⟨hd, ρ, as, st, A, E, q⟩ => ⟨hd, ρ, as, st, A, E, PostS.seq q fun ρ1 st1 as1 H1 σ1 A1 e1 E1 q1 => ⟨hd, ρ1, as1, st1, A1, E1, q1⟩⟩
def sRet (m : M T) : SM := fun ρ st => RS.of (m ρ st) ρ fun t st1 => .rt t st1
theorem pms_ret {m : M T} (h : PM X ad W e m) : PMS X ad W (.Return (some e) pos) (sRet m) :=
  psW (ps_ret h) fun D σ H ⟨hd, ρ, as, st, A, E, q⟩ => ⟨hd, ρ, as, st, A, E, PostS.expr E q fun t st1 as1 H1 v A1 e1 r1 q1 => q1 as1 H1 v A1 Ext.refl r1⟩
def sExpr (m : M T) : SM := fun ρ st => RS.of (m ρ st) ρ fun _ st1 => .nx ρ st1
theorem pms_expr {m : M T} (h : PM X ad W e m) (hs : swapsWith e none pos.line X.env = pure false := by rfl) : PMS X ad W (.Expr e pos) (sExpr m) :=
  psW (ps_expr h hs) fun D σ H ⟨hd, ρ, as, st, A, E, q⟩ => ⟨hd, ρ, as, st, A, E, PostS.expr E q fun t st1 as1 H1 v A1 e1 r1 q1 => PostS.nxAt A1 (E.ext e1) q1⟩
def sIf (c : M Bool) (a b : SM) : SM := fun ρ st => RS.of (c ρ st) ρ fun x st1 => match x with
  | true => a ρ st1
  | false => b ρ st1
theorem pms_if {mc : M Bool} {ma mb : SM} (hc : PMT X ad W c mc) (ha : PMSs X ad W a ma) (hb : PMSs X ad W b mb) : PMS X ad W (.If c a b pos) (sIf mc ma mb) :=
  psW (ps_if hc ha hb) fun D σ H ⟨hd, ρ, as, st, A, E, q⟩ => ⟨hd, ρ, as, st, A, E, PostS.expr E q fun t st1 as1 H1 v A1 e1 r1 q1 => by
    obtain rfl := r1
    cases v with
    | true => exact iteT ⟨hd, ρ, as1, st1, A1, E.ext e1, q1⟩
    | false => exact iteF ⟨hd, ρ, as1, st1, A1, E.ext e1, q1⟩⟩
abbrev GM := T → Sl → Sto → R Sl
def tG (K : PySem.W.Frag) (ad : Ad) (g : GM) : TG := fun v σ H Q => ∃ hd ρ as st t, Ab K (ad.hide hd) as st H ∧ En K (ad.hide hd) as H σ ρ ∧ Rep K (ad.hide hd) as H v t ∧
  Post K (ad.hide hd) (En K (ad.hide hd)) as H (fun σ' H' => Q σ' H') (fun _ _ _ => False) (g t ρ st)
abbrev PMG (X : Cx) (ad : Ad) (e : Expr) (g : GM) : Prop := PG X e (tG X.K ad g)
def gSet (i : Nat) : GM := fun t ρ st => .ok (ρ.set i (some t)) st
theorem pmg_name {i : Nat} {x : Str} (h : PG X (.Name x pos) (gName i)) : PMG X ad (.Name x pos) (gSet i) :=
  pgW h fun v σ H Q ⟨hd, ρ, as, st, t, A, E, r, q⟩ => q as H _ A Ext.refl (E.set r)
abbrev GsM := List T → Sl → Sto → R Sl
def tGs (K : PySem.W.Frag) (ad : Ad) (g : GsM) : TGs := fun vs σ H Q => ∃ hd ρ as st ts, Ab K (ad.hide hd) as st H ∧ En K (ad.hide hd) as H σ ρ ∧ Reps K (ad.hide hd) as H vs ts ∧
  Post K (ad.hide hd) (En K (ad.hide hd)) as H (fun σ' H' => Q σ' H') (fun _ _ _ => False) (g ts ρ st)
theorem pgsW {es : List Expr} {t t' : TGs} (h : PGs X es t) (w : ∀ v σ H Q, t' v σ H Q → t v σ H Q) : PGs X es t' := ⟨fun pins s σ H v u Q I r q => h.run pins s σ H v u Q I r (w _ _ _ _ q)⟩
def gsNil : GsM := fun ts ρ st => match ts with
  | [] => .ok ρ st
  | _ => .bad
def gsCons (g : GM) (r : GsM) : GsM := fun ts ρ st => match ts with
  | t :: ts => (g t ρ st).bind fun ρ1 st1 => r ts ρ1 st1
  | [] => .bad
theorem pmgs_nil : PGs X [] (tGs X.K ad gsNil) := pgsW pgs_nil fun v σ H Q ⟨hd, ρ, as, st, ts, A, E, r, q⟩ => by
  cases r with
  | nil => exact ⟨rfl, q as H _ A Ext.refl E⟩
  | cons _ _ => exact q.elim
theorem pmgs_cons {es : List Expr} {g : GM} {r : GsM} (h1 : PMG X ad e g) (h2 : PGs X es (tGs X.K ad r)) (hs : (assignEach (e :: es) X.env).map (·.2) = assign e X.env :: (assignEach es X.env).map (·.2) := by rfl) : PGs X (e :: es) (tGs X.K ad (gsCons g r)) :=
  pgsW (pgs_cons h1 h2 hs) fun v σ H Q ⟨hd, ρ, as, st, ts, A, E, r, q⟩ => by
    cases r with
    | nil => exact q.elim
    | cons r1 r2 => exact ⟨_, _, rfl, hd, ρ, as, st, _, A, E, r1, Post.step q fun ρ1 st1 as1 H1 σ1 A1 e1 E1 q1 => ⟨hd, ρ1, as1, st1, _, A1, E1, r2.ext e1, q1⟩⟩
def gTupM (n : Nat) (g : GsM) : GM := fun t ρ st => match seqR st t with
  | some ts => if ts.length = n then g ts ρ st else .bad
  | none => .bad
theorem pg_alt {t1 t2 : TG} (h1 : PG X e t1) (h2 : PG X e t2) : PG X e (fun v σ H Q => t1 v σ H Q ∨ t2 v σ H Q) :=
  ⟨fun pins s σ H v u Q I r q => q.elim (h1.run pins s σ H v u Q I r) (h2.run pins s σ H v u Q I r)⟩
theorem pmg_tup {es : List Expr} {k n : Nat} {g : GsM} (hc : X.calm = true) (h : PGs X es (tGs X.K ad g)) (hn : (assignEach es X.env).length = n := by rfl) (hst : (assignEach es X.env).findIdx? (·.1) = none := by rfl) :
    PMG X ad (.Tuple es k pos) (gTupM n g) := pgW (pg_alt (pg_tup hc h hn hst) (pg_unl hc h hn hst)) fun v σ H Q ⟨hd, ρ, as, st, t, A, E, r, q⟩ => by
  unfold gTupM at q
  split at q
  · rename_i ts e
    split at q
    · obtain ⟨a, xs, rfl, h1, h2⟩ := r.seqR A e
      rcases h1 with h1 | h1
      · exact .inr ⟨a, xs, rfl, h1, by rw [h2.length]; assumption, hd, ρ, as, st, _, A, E, h2, q⟩
      · exact .inl ⟨a, xs, rfl, h1, by rw [h2.length]; assumption, hd, ρ, as, st, _, A, E, h2, q⟩
    · exact q.elim
  · exact q.elim
def sAsg (m : M T) (g : GM) : SM := fun ρ st => RS.of (m ρ st) ρ fun t st1 => match g t ρ st1 with
  | .ok ρ2 st2 => .nx ρ2 st2
  | _ => .bad
theorem postG {hd : List Addr} {as : List Addr} {H : Hp} {D : Ends} {r : R Sl} (q : PostS X.K (ad.hide hd) as H D W (match r with | .ok ρ2 st2 => .nx ρ2 st2 | _ => .bad)) :
    Post X.K (ad.hide hd) (En X.K (ad.hide hd)) as H (fun σ' H' => D.nx σ' H') (fun _ _ _ => False) r := by
  cases r with
  | ok ρ st => exact q
  | exc _ _ => exact q.elim
  | bad => exact q
theorem pms_set {m : M T} {x : Str} {i : Nat} {pos' : Pos} (hN : X.N.Nodup) (hi : X.N[i]? = some x) (hx : Loc X.env.scope x) (h : PM X ad W e m) (hs : swapsWith e (some (.Name x pos')) pos.line X.env = pure false := by rfl)
    (hf : X.fn x = true ∨ X.env.scope.names.lookup x = some .local := by first | exact .inl rfl | exact .inr rfl | assumption) : PMS X ad W (.Assign [.Name x pos'] e pos) (sAsg m (gSet i)) :=
  psW (ps_set hN hi hx h hs hf) fun D σ H ⟨hd, ρ, as, st, A, E, q⟩ => ⟨hd, ρ, as, st, A, E, PostS.expr E q fun t st1 as1 H1 v A1 e1 r1 q1 => PostS.nxAt A1 ((E.ext e1).set r1) q1⟩
theorem pms_asg {m : M T} {tg : Expr} {g : GM} (h : PM X ad W e m) (hg : PMG X ad tg g) (hs : swapsWithSole [tg] e pos.line X.env = pure false := by rfl) (hw : swappedStores [tg] e X.env = pure none := by rfl)
    (h1 : (assignEach [tg] X.env).map (·.2) = [assign tg X.env] := by rfl) : PMS X ad W (.Assign [tg] e pos) (sAsg m g) :=
  psW (ps_asg h hg hs hw h1) fun D σ H ⟨hd, ρ, as, st, A, E, q⟩ => ⟨hd, ρ, as, st, A, E, PostS.expr E q fun t st1 as1 H1 v A1 e1 r1 q1 => ⟨hd, ρ, as1, st1, t, A1, E.ext e1, r1, postG q1⟩⟩
def sPar (i j : Nat) (m : M (List T)) : SM := fun ρ st => RS.of (m ρ st) ρ fun ts st1 => match ts with
  | [t, u] => .nx ((ρ.set i (some t)).set j (some u)) st1
  | _ => .bad
theorem pms_par {i j : Nat} {x y : Str} {a b : Expr} {m : M (List T)} {px py pt : Pos} {kt k2 : Nat} {pt2 : Pos} (h : PMA X ad W [a, b] m)
    (pp : ∀ {ta : TA}, PA X [a, b] ta → PS X (.Assign [.Tuple [.Name x px, .Name y py] kt pt] (.Tuple [a, b] k2 pt2) pos) (tPar i j ta)) :
    PMS X ad W (.Assign [.Tuple [.Name x px, .Name y py] kt pt] (.Tuple [a, b] k2 pt2) pos) (sPar i j m) :=
  psW (pp h) fun D σ H ⟨hd, ρ, as, st, A, E, q⟩ => ⟨hd, ρ, as, st, A, E, PostS.expr E q fun t st1 as1 H1 v A1 e1 r1 q1 => by
    split at q1
    · obtain ⟨v, w, rfl, rv, rw⟩ := r1.two
      exact ⟨v, w, rfl, PostS.nxAt A1 (((E.ext e1).set rv).set rw) q1⟩
    · exact q1.elim⟩
def gItem (mo mi : M T) : GM := fun t ρ st => (mo ρ st).bind fun o st1 => (mi ρ st1).bind fun i st2 => match o, i with
  | .ref r, .int k => match st2[r]? with
    | some (.lst ts) => match ixN ts.length k with
      | some j => .ok ρ (st2.set r (.lst (ts.set j t)))
      | none => .bad
    | _ => .bad
  | _, _ => .bad
theorem pmg_item {o i : Expr} {mo mi : M T} (ho : PM X ad W o mo) (hi : PM X ad W i mi)
    (ha : ∀ v, assign (.Subscript o i pos) X.env v = (do
      let ov ← holding [v] (eval o X.env)
      let iv ← holding [v, ov] (eval i X.env)
      standAt pos
      holding [v, ov, iv] (setItem ov iv v)
      release [v, ov, iv] []) := by intro _; rfl) : PMG X ad (.Subscript o i pos) (gItem mo mi) :=
  pgW (pg_sub ho hi set_list ha) fun v σ H Q ⟨hd, ρ, as, st, t, A, E, r, q⟩ => ⟨hd, ρ, as, st, A, E, Post.imp (Post.step q fun ot st1 as1 H1 vo A1 e1 r1 q1 =>
    (⟨hd, ρ, as1, st1, A1, E.ext e1, Post.imp (Post.step q1 fun it st2 as2 H2 vi A2 e2 r2 q2 => by
      split at q2
      · split at q2
        · rename_i ts hs
          split at q2
          · rename_i j hj
            obtain rfl := r2.intI
            obtain ⟨a, h2, xs, h3, h4⟩ := A2.get hs
            have r1 := r1.ext e2
            cases r1 with
            | ref h5 =>
              rw [h2] at h5; cases h5
              refine ⟨a, xs, _, j, rfl, rfl, h3, by rw [h4.length]; exact hj, ?_⟩
              obtain ⟨B, ex⟩ := A2.putLst h2 hs h3 (h4.set ((r.ext e1).ext e2) j)
              exact q2.to B ex (((E.ext e1).ext e2).ext ex)
          · exact q2.elim
        · exact q2.elim
      · exact q2.elim) (fun _ _ z => z) (fun _ _ _ z => z.elim)⟩ : tM X.K ad (Rep X.K) W mi σ H1 _)) (fun _ _ z => z) (fun _ _ _ z => z.elim)⟩

inductive Wk where
  | seq (ts : List T)
  | live (r : Nat)
  | dyn (n : Nat) (f : Sto → Nat → Option (Option T))
def liveAt (st : Sto) (r i : Nat) : Option T := match st[r]? with
  | some (.lst ts) => ts[i]?
  | _ => none
def liveLen (st : Sto) (r : Nat) : Nat := match st[r]? with
  | some (.lst ts) => ts.length
  | _ => 0
def ItOk (K : PySem.W.Frag) (ad : Ad) (J : It) (as0 : List Addr) (H0 : Hp) : Wk → Prop
  | .seq ts => ∀ (hd : List Addr), (∀ D ∈ hd, D ∈ ad.hid ∨ H0 D = none) → ∀ (i : Nat) as st H, Ab K (ad.hide hd) as st H → Ext as0 H0 as H → match ts[i]? with
    | none => J.stop i H
    | some t => J.go i H ∧ ∀ x H', J.yld i H x H' → Ab K (ad.hide hd) as st H' ∧ Ext as H as H' ∧ Rep K (ad.hide hd) as H' x t
  | .live r => ∀ (hd : List Addr) (i : Nat) as st H, Ab K (ad.hide hd) as st H → Ext as0 H0 as H → (∃ ts, st[r]? = some (.lst ts)) → match liveAt st r i with
    | none => J.stop i H
    | some t => J.go i H ∧ ∀ x H', J.yld i H x H' → Ab K (ad.hide hd) as st H' ∧ Ext as H as H' ∧ Rep K (ad.hide hd) as H' x t
  | .dyn _ f => ∀ (hd : List Addr), (∀ D ∈ hd, D ∈ ad.hid ∨ H0 D = none) → ∀ (i : Nat) as st H, Ab K (ad.hide hd) as st H → Ext as0 H0 as H → ∀ z, f st i = some z → match z with
    | none => J.stop i H
    | some t => J.go i H ∧ ∀ x H', J.yld i H x H' → Ab K (ad.hide hd) as st H' ∧ Ext as H as H' ∧ Rep K (ad.hide hd) as H' x t
section
variable {K : PySem.W.Frag} {ad : Ad} {as as' : List Addr} {H H' : Hp} {hd : List Addr}
mutual
theorem Rep.extH (e : Ext as H as' H') (hh : ∀ D ∈ hd, D ∈ ad.hid ∨ H D = none) : ∀ {v : V} {t : T}, Rep K ad as H v t → Rep K (ad.hide hd) as' H' v t
  | _, _, .non => .non
  | _, _, .bl b => .bl b
  | _, _, .int b => .int b
  | _, _, .str b => .str b
  | _, _, .byt b => .byt b
  | _, _, .ty b => .ty b
  | _, _, .tup h r => .tup (h.ext e) (Reps.extH e hh r)
  | _, _, .lst h r => .lst ⟨⟨(h.ext e).1.1, fun z => (hh _ z).elim h.1.2 fun n => by rw [h.2] at n; cases n⟩, (h.ext e).2⟩ (Reps.extH e hh r)
  | _, _, .frz h r => .frz (h.ext e) (Reps.extH e hh r)
  | _, _, .dct n h k r => .dct ⟨e.nin n.1 h, fun z => (hh _ z).elim n.2 fun q => by rw [h] at q; cases q⟩ (e.kp n.1 h) k (Reps.extH e hh r)
  | _, _, .ref h => .ref (e.get h)
  | _, _, .adr i => .adr (ad := ad.hide hd) i
  | _, _, .ptp h r => .ptp (h.ext e) (Reps.extH e hh r)
theorem Reps.extH (e : Ext as H as' H') (hh : ∀ D ∈ hd, D ∈ ad.hid ∨ H D = none) : ∀ {v : List V} {t : List T}, Reps K ad as H v t → Reps K (ad.hide hd) as' H' v t
  | _, _, .nil => .nil
  | _, _, .cons r s => .cons (Rep.extH e hh r) (Reps.extH e hh s)
end
end
def tI (K : PySem.W.Frag) (ad : Ad) (W : WX) (m : M Wk) : TI := fun σ H R => ∃ hd ρ as st, Ab K (ad.hide hd) as st H ∧ En K (ad.hide hd) as H σ ρ ∧
  Post K (ad.hide hd) (fun as1 H1 J it => ItOk K (ad.hide hd) J as1 H1 it) as H R (fun u d H' => W u d σ H') (m ρ st)
abbrev PMI (X : Cx) (ad : Ad) (W : WX) (tg iter : Expr) (m : M Wk) : Prop := PI X tg iter (tI X.K ad W m)
theorem piW {tg iter : Expr} {t t' : TI} (h : PI X tg iter t) (w : ∀ σ H R, t' σ H R → t σ H R) : PI X tg iter t' := ⟨fun pins s σ H R I q => h.run pins s σ H R I (w _ _ _ q)⟩
def itSeq (x : T) (st : Sto) : R Wk := match x with
  | .tup ts => .ok (.seq ts) st
  | .lst ts => .ok (.seq ts) st
  | .frz ts => .ok (.seq ts) st
  | .byt b => .ok (.seq (b.toList.map fun c => .int ((c.toNat : Nat) : Int))) st
  | .ref r => match st[r]? with
    | some (.lst _) => .ok (.live r) st
    | _ => .bad
  | _ => .bad
def mIt (m : M T) : M Wk := fun ρ st => (m ρ st).bind itSeq
theorem itOk_lst {K : PySem.W.Frag} {ad : Ad} {as : List Addr} {H : Hp} {a : Addr} {xs : List V} {ts : List T} (h : ∀ as' H', Ext as H as' H' → SqL K H' a xs) (r : Reps K ad as H xs ts) :
    ItOk K ad (Itl K a) as H (.seq ts) := fun hd hh i as1 st1 H1 A e => by
  cases et : ts[i]? with
  | none =>
    refine ⟨xs, h _ _ e, ?_⟩
    rw [r.length]
    exact List.getElem?_eq_none_iff.mp et
  | some t =>
    obtain ⟨x, h1, h2⟩ := r.get et
    refine ⟨⟨xs, x, h _ _ e, h1⟩, fun y H' ⟨e1, e2⟩ => ?_⟩
    subst e1
    have := e2 xs (h _ _ e)
    rw [h1] at this; cases this
    exact ⟨A, Ext.refl, h2.extH e hh⟩
theorem itOk_tup {K : PySem.W.Frag} {ad : Ad} {as : List Addr} {H : Hp} {a : Addr} {xs : List V} {ts : List T} (h : ∀ as' H', Ext as H as' H' → SqT K H' a xs) (r : Reps K ad as H xs ts) :
    ItOk K ad (Itt K a) as H (.seq ts) := fun hd hh i as1 st1 H1 A e => by
  cases et : ts[i]? with
  | none =>
    refine ⟨xs, h _ _ e, ?_⟩
    rw [r.length]
    exact List.getElem?_eq_none_iff.mp et
  | some t =>
    obtain ⟨x, h1, h2⟩ := r.get et
    refine ⟨⟨xs, x, h _ _ e, h1⟩, fun y H' ⟨e1, e2⟩ => ?_⟩
    subst e1
    have := e2 xs (h _ _ e)
    rw [h1] at this; cases this
    exact ⟨A, Ext.refl, h2.extH e hh⟩
theorem itOk_live {K : PySem.W.Frag} {ad : Ad} {as : List Addr} {H : Hp} {a : Addr} {r : Nat} (h : as[r]? = some a) : ItOk K ad (Itl K a) as H (.live r) := fun hd i as1 st1 H1 A e ⟨ts, hs⟩ => by
  obtain ⟨b, h2, xs, h3, h4⟩ := A.get hs
  rw [e.get h] at h2; cases h2
  unfold liveAt
  rw [hs]
  show match ts[i]? with | none => _ | some t => _
  cases et : ts[i]? with
  | none =>
    refine ⟨xs, SqL.of h3, ?_⟩
    rw [h4.length]
    exact List.getElem?_eq_none_iff.mp et
  | some t =>
    obtain ⟨x, h5, h6⟩ := h4.get et
    refine ⟨⟨xs, x, SqL.of h3, h5⟩, fun y H' ⟨e1, e2⟩ => ?_⟩
    subst e1
    have := e2 xs (SqL.of h3)
    rw [h5] at this; cases this
    exact ⟨A, Ext.refl, h6⟩
theorem itOk_byt {K : PySem.W.Frag} {ad : Ad} {as : List Addr} {H : Hp} {b : Array UInt8} : ItOk K ad (Itb b) as H (.seq (b.toList.map fun c => .int ((c.toNat : Nat) : Int))) := fun hd hh i as1 st1 H1 A e => by
  cases et : b[i]? with
  | none =>
    rw [List.getElem?_map, Array.getElem?_toList, et]
    exact Array.getElem?_eq_none_iff.mp et
  | some c =>
    rw [List.getElem?_map, Array.getElem?_toList, et]
    refine ⟨(Array.getElem?_eq_some_iff.mp et).1, fun x H' ⟨e1, d, e2, e3⟩ => ?_⟩
    rw [et] at e2; cases e2
    subst e1; subst e3
    exact ⟨A, Ext.refl, .int _⟩
theorem pmi_seq {tg l : Expr} {m : M T} (h : PM X ad W l m) : PMI X ad W tg l (mIt m) := ⟨fun pins s σ H R I ⟨hd, ρ, as, st, A, E, q⟩ => by
  unfold mIt at q
  cases hm : m ρ st with
  | bad => rw [hm] at q; exact q.elim
  | exc x st1 =>
    rw [hm] at q
    exact (pi_list h).run pins s σ H R I ⟨hd, ρ, as, st, A, E, by rw [hm]; exact q⟩
  | ok x st1 =>
    rw [hm] at q
    replace q : Post X.K (ad.hide hd) (fun as1 H1 J it => ItOk X.K (ad.hide hd) J as1 H1 it) as H R (fun u d H' => W u d σ H') (itSeq x st1) := q
    cases x with
    | tup ts =>
      refine (pi_tup h).run pins s σ H R I ⟨hd, ρ, as, st, A, E, ?_⟩
      rw [hm]
      intro as1 H1 v A1 e1 r1
      cases r1 with
      | tup h1 r1 => exact ⟨_, rfl, ⟨_, h1.sq⟩, q as1 H1 _ A1 e1 (itOk_tup (fun as' H' e => (h1.ext e).sq) r1)⟩
    | lst ts =>
      refine (pi_list h).run pins s σ H R I ⟨hd, ρ, as, st, A, E, ?_⟩
      rw [hm]
      intro as1 H1 v A1 e1 r1
      cases r1 with
      | lst h1 r1 => exact ⟨_, rfl, ⟨_, SqL.of h1.2⟩, q as1 H1 _ A1 e1 (itOk_lst (fun as' H' e => SqL.of (h1.ext e).2) r1)⟩
    | frz ts =>
      refine (pi_list h).run pins s σ H R I ⟨hd, ρ, as, st, A, E, ?_⟩
      rw [hm]
      intro as1 H1 v A1 e1 r1
      cases r1 with
      | frz h1 r1 => exact ⟨_, rfl, ⟨_, h1.sq⟩, q as1 H1 _ A1 e1 (itOk_lst (fun as' H' e => (h1.ext e).sq) r1)⟩
    | byt b =>
      refine (pi_byt h).run pins s σ H R I ⟨hd, ρ, as, st, A, E, ?_⟩
      rw [hm]
      intro as1 H1 v A1 e1 r1
      cases r1 with
      | byt b => exact ⟨_, rfl, q as1 H1 _ A1 e1 itOk_byt⟩
    | ref r =>
      replace q : Post X.K (ad.hide hd) (fun as1 H1 J it => ItOk X.K (ad.hide hd) J as1 H1 it) as H R (fun u d H' => W u d σ H') (match st1[r]? with
        | some (.lst _) => .ok (.live r) st1
        | _ => .bad) := q
      split at q
      · rename_i ts hs
        refine (pi_list h).run pins s σ H R I ⟨hd, ρ, as, st, A, E, ?_⟩
        rw [hm]
        intro as1 H1 v A1 e1 r1
        obtain ⟨a, h2, xs, h3, h4⟩ := A1.get hs
        cases r1 with
        | ref h5 =>
          rw [h2] at h5; cases h5
          exact ⟨_, rfl, ⟨_, SqL.of h3⟩, q as1 H1 _ A1 e1 (itOk_live h2)⟩
      · exact q.elim
    | _ => exact q.elim⟩
def rgT (lo : Int) (n : Nat) : List T := (List.range n).map fun i => .int (lo + (i : Nat))
theorem itOk_rng {K : PySem.W.Frag} {ad : Ad} {as : List Addr} {H : Hp} {lo : Int} {n : Nat} : ItOk K ad (L2.Itr lo n) as H (.seq (rgT lo n)) := fun hd hh i as1 st1 H1 A e => by
  by_cases hi : i < n
  · have : (rgT lo n)[i]? = some (.int (lo + (i : Nat))) := by simp [rgT, hi]
    rw [this]
    exact ⟨hi, fun x H' ⟨e1, e2⟩ => by subst e1; subst e2; exact ⟨A, Ext.refl, .int _⟩⟩
  · have : (rgT lo n)[i]? = none := by simp [rgT]; omega
    rw [this]
    exact Nat.le_of_not_lt hi
def itRng1 (ts : List T) (st : Sto) : R Wk := match ts with
  | [.int j] => if -(2 ^ 62) ≤ j ∧ j < 2 ^ 62 then .ok (.seq (rgT 0 j.toNat)) st else .bad
  | _ => .bad
def mRng (f : List T → Sto → R Wk) (m : M (List T)) : M Wk := fun ρ st => (m ρ st).bind f
theorem pmi_rng1 {tg a : Expr} {m : M (List T)} (hg : Gl X "range") (hm : X.mg "range" = none) (ha : PMA X ad W [a] m) (hs : starEach [a] X.env = [(false, eval a X.env)] := by rfl) : PMI X ad W tg (.Call (.Name "range" p) [a] [] pos) (mRng itRng1 m) :=
  piW (pi_range1 hg hm ha hs) fun σ H R ⟨hd, ρ, as, st, A, E, q⟩ => ⟨hd, ρ, as, st, A, E, Post.step q fun t st1 as1 H1 v A1 e1 r1 q1 => by
    unfold itRng1 at q1
    split at q1
    · split at q1
      · rename_i hb
        obtain ⟨v, rfl, rv⟩ := r1.one
        obtain rfl := rv.intI
        exact ⟨_, rfl, hb.1, hb.2, q1 as1 H1 _ A1 Ext.refl itOk_rng⟩
      · exact q1.elim
    · exact q1.elim⟩
def RS.turn (r : RS) (f : Sl → Sto → RS) : RS := match r with
  | .nx ρ st => f ρ st
  | .ct ρ st => f ρ st
  | .bk ρ st => .nx ρ st
  | .rt t st => .rt t st
  | .ex e ρ st => .ex e ρ st
  | .bad => .bad
def forL (g : GM) (body : SM) : List T → SM
  | [], ρ, st => .nx ρ st
  | t :: ts, ρ, st => match g t ρ st with
    | .ok ρ1 st1 => (body ρ1 st1).turn (forL g body ts)
    | _ => .bad
def forLive (g : GM) (body : SM) (r : Nat) : Nat → Nat → SM
  | 0, _, _, _ => .bad
  | n + 1, i, ρ, st => match st[r]? with
    | some (.lst ts) => match ts[i]? with
      | none => .nx ρ st
      | some t => match g t ρ st with
        | .ok ρ1 st1 => (body ρ1 st1).turn (forLive g body r n (i + 1))
        | _ => .bad
    | _ => .bad
def forDyn (g : GM) (body : SM) (f : Sto → Nat → Option (Option T)) : Nat → Nat → SM
  | 0, _, _, _ => .bad
  | n + 1, i, ρ, st => match f st i with
    | none => .bad
    | some none => .nx ρ st
    | some (some t) => match g t ρ st with
      | .ok ρ1 st1 => (body ρ1 st1).turn (forDyn g body f n (i + 1))
      | _ => .bad
def forI (g : GM) (body : SM) (it : Wk) : SM := fun ρ st => match it with
  | .seq ts => forL g body ts ρ st
  | .live r => forLive g body r (liveLen st r + 1) 0 ρ st
  | .dyn n f => forDyn g body f n 0 ρ st
def sFor (m : M Wk) (g : GM) (body : SM) : SM := fun ρ st => RS.of (m ρ st) ρ fun it st1 => forI g body it ρ st1
theorem PostS.turn {K : PySem.W.Frag} {as : List Addr} {H : Hp} {D : Ends} {r : RS} {f : Sl → Sto → RS} {N : St → Hp → Prop} (h : PostS K ad as H D W (r.turn f))
    (k : ∀ ρ st1 as1 H1 σ1, Ab K ad as1 st1 H1 → Ext as H as1 H1 → En K ad as1 H1 σ1 ρ → PostS K ad as1 H1 D W (f ρ st1) → N σ1 H1) : PostS K ad as H { D with nx := N, ct := N, bk := D.nx } W r := by
  cases r with
  | nx ρ st => exact fun as1 H1 σ1 A e E => k ρ st as1 H1 σ1 A e E (PostS.ext e h)
  | rt t st => exact h
  | bk ρ st => exact h
  | ct ρ st => exact fun as1 H1 σ1 A e E => k ρ st as1 H1 σ1 A e E (PostS.ext e h)
  | ex x ρ st => exact h
  | bad => exact h
theorem postGx {hd : List Addr} {as : List Addr} {H : Hp} {D : Ends} {r : R Sl} {f : Sl → Sto → RS} {N : St → Hp → Prop} (q : PostS X.K (ad.hide hd) as H D W (match r with | .ok ρ2 st2 => f ρ2 st2 | _ => .bad))
    (k : ∀ ρ st1 as1 H1 σ1, Ab X.K (ad.hide hd) as1 st1 H1 → Ext as H as1 H1 → En X.K (ad.hide hd) as1 H1 σ1 ρ → PostS X.K (ad.hide hd) as1 H1 D W (f ρ st1) → N σ1 H1) :
    Post X.K (ad.hide hd) (En X.K (ad.hide hd)) as H (fun σ' H' => N σ' H') (fun _ _ _ => False) r := by
  cases r with
  | ok ρ st => exact fun as1 H1 σ1 A e E => k ρ st as1 H1 σ1 A e E (PostS.ext e q)
  | exc _ _ => exact q.elim
  | bad => exact q
theorem pms_for {tg iter : Expr} {body : List Stmt} {m : M Wk} {g : GM} {mb : SM} {k : Nat} (S : Sit X W k) (hi : PMI X ad W tg iter m) (hg : PMG X ad tg g) (hb : PMSs X ad W body mb) (hs : ∀ x, foldedSetIterable iter X.env x = pure x := by intro _; rfl) :
    PMS X ad W (.For tg iter body [] pos) (sFor m g mb) :=
  psW (ps_for S.po S.calm hi hg hb hs) fun D σ H ⟨hd, ρ, as, st, A, E, q⟩ => ⟨hd, ρ, as, st, A, E, PostS.expr E q fun it st1 as1 H1 J A1 e1 r1 q1 => by
    cases it with
    | seq ts =>
      replace q1 : PostS X.K (ad.hide hd) as1 H1 D W (forL g mb ts ρ st1) := q1
      refine ⟨fun i n σ2 H2 => n = ts.length - i ∧ i ≤ ts.length ∧ ∃ ρ2 as2 st2, Ab X.K (ad.hide hd) as2 st2 H2 ∧ En X.K (ad.hide hd) as2 H2 σ2 ρ2 ∧ Ext as1 H1 as2 H2 ∧ PostS X.K (ad.hide hd) as2 H2 D W (forL g mb (ts.drop i) ρ2 st2),
        ⟨ts.length, by simp, Nat.zero_le _, ρ, as1, st1, A1, E.ext e1, Ext.refl, q1⟩, ?_⟩
      rintro i n σ2 H2 ⟨rfl, hi, ρ2, as2, st2, A2, E2, e2, q2⟩
      have := r1 hd (fun _ z => .inl z) i as2 st2 H2 A2 e2
      by_cases hlt : i < ts.length
      · rw [List.getElem?_eq_getElem hlt] at this
        obtain ⟨go, yl⟩ := this
        refine .inr ⟨go, fun σ3 H3 => i + 1 ≤ ts.length ∧ ∃ ρ3 as3 st3, Ab X.K (ad.hide hd) as3 st3 H3 ∧ En X.K (ad.hide hd) as3 H3 σ3 ρ3 ∧ Ext as1 H1 as3 H3 ∧ PostS X.K (ad.hide hd) as3 H3 D W (forL g mb (ts.drop (i + 1)) ρ3 st3),
          fun σ3 H3 ⟨hi3, h3⟩ => ⟨ts.length - (i + 1), by omega, rfl, hi3, h3⟩, fun x H3 y => ?_⟩
        obtain ⟨A3, e3, r3⟩ := yl x H3 y
        rw [List.drop_eq_getElem_cons hlt] at q2
        replace q2 := PostS.ext e3 q2
        refine ⟨hd, ρ2, as2, st2, ts[i], A3, E2.ext e3, r3, postGx q2 fun ρ4 st4 as4 H4 σ4 A4 e4 E4 q4 => ?_⟩
        exact ⟨hd, ρ4, as4, st4, A4, E4, PostS.turn q4 fun ρ5 st5 as5 H5 σ5 A5 e5 E5 q5 => ⟨hlt, ρ5, as5, st5, A5, E5, ((e2.trans e3).trans e4).trans e5, q5⟩⟩
      · have hi' : i = ts.length := by omega
        subst hi'
        rw [List.getElem?_eq_none (Nat.le_refl _)] at this
        rw [List.drop_length] at q2
        exact .inl ⟨this, PostS.nxAt A2 E2 q2⟩
    | live r =>
      replace q1 : PostS X.K (ad.hide hd) as1 H1 D W (forLive g mb r (liveLen st1 r + 1) 0 ρ st1) := q1
      refine ⟨fun i n σ2 H2 => ∃ ρ2 as2 st2, Ab X.K (ad.hide hd) as2 st2 H2 ∧ En X.K (ad.hide hd) as2 H2 σ2 ρ2 ∧ Ext as1 H1 as2 H2 ∧ PostS X.K (ad.hide hd) as2 H2 D W (forLive g mb r n i ρ2 st2),
        ⟨_, ρ, as1, st1, A1, E.ext e1, Ext.refl, q1⟩, ?_⟩
      rintro i n σ2 H2 ⟨ρ2, as2, st2, A2, E2, e2, q2⟩
      cases n with
      | zero => exact q2.elim
      | succ n =>
        unfold forLive at q2
        split at q2
        · rename_i ts hts
          have := r1 hd i as2 st2 H2 A2 e2 ⟨ts, hts⟩
          have hl : liveAt st2 r i = ts[i]? := by unfold liveAt; rw [hts]
          rw [hl] at this
          split at q2
          · rename_i hn
            rw [hn] at this
            exact .inl ⟨this, PostS.nxAt A2 E2 q2⟩
          · rename_i t ht
            rw [ht] at this
            obtain ⟨go, yl⟩ := this
            refine .inr ⟨go, fun σ3 H3 => ∃ ρ3 as3 st3, Ab X.K (ad.hide hd) as3 st3 H3 ∧ En X.K (ad.hide hd) as3 H3 σ3 ρ3 ∧ Ext as1 H1 as3 H3 ∧ PostS X.K (ad.hide hd) as3 H3 D W (forLive g mb r n (i + 1) ρ3 st3),
              fun σ3 H3 h3 => ⟨n, Nat.lt_succ_self _, h3⟩, fun x H3 y => ?_⟩
            obtain ⟨A3, e3, r3⟩ := yl x H3 y
            replace q2 := PostS.ext e3 q2
            refine ⟨hd, ρ2, as2, st2, t, A3, E2.ext e3, r3, postGx q2 fun ρ4 st4 as4 H4 σ4 A4 e4 E4 q4 => ?_⟩
            exact ⟨hd, ρ4, as4, st4, A4, E4, PostS.turn q4 fun ρ5 st5 as5 H5 σ5 A5 e5 E5 q5 => ⟨ρ5, as5, st5, A5, E5, ((e2.trans e3).trans e4).trans e5, q5⟩⟩
        · exact q2.elim
    | dyn n f =>
      replace q1 : PostS X.K (ad.hide hd) as1 H1 D W (forDyn g mb f n 0 ρ st1) := q1
      refine ⟨fun i n σ2 H2 => ∃ ρ2 as2 st2, Ab X.K (ad.hide hd) as2 st2 H2 ∧ En X.K (ad.hide hd) as2 H2 σ2 ρ2 ∧ Ext as1 H1 as2 H2 ∧ PostS X.K (ad.hide hd) as2 H2 D W (forDyn g mb f n i ρ2 st2),
        ⟨_, ρ, as1, st1, A1, E.ext e1, Ext.refl, q1⟩, ?_⟩
      rintro i n σ2 H2 ⟨ρ2, as2, st2, A2, E2, e2, q2⟩
      cases n with
      | zero => exact q2.elim
      | succ n =>
        unfold forDyn at q2
        have this := r1 hd (fun _ z => .inl z) i as2 st2 H2 A2 e2
        split at q2
        · exact q2.elim
        · rename_i hn
          exact .inl ⟨this _ hn, PostS.nxAt A2 E2 q2⟩
        · rename_i t ht
          obtain ⟨go, yl⟩ := this _ ht
          refine .inr ⟨go, fun σ3 H3 => ∃ ρ3 as3 st3, Ab X.K (ad.hide hd) as3 st3 H3 ∧ En X.K (ad.hide hd) as3 H3 σ3 ρ3 ∧ Ext as1 H1 as3 H3 ∧ PostS X.K (ad.hide hd) as3 H3 D W (forDyn g mb f n (i + 1) ρ3 st3),
            fun σ3 H3 h3 => ⟨n, Nat.lt_succ_self _, h3⟩, fun x H3 y => ?_⟩
          obtain ⟨A3, e3, r3⟩ := yl x H3 y
          replace q2 := PostS.ext e3 q2
          refine ⟨hd, ρ2, as2, st2, t, A3, E2.ext e3, r3, postGx q2 fun ρ4 st4 as4 H4 σ4 A4 e4 E4 q4 => ?_⟩
          exact ⟨hd, ρ4, as4, st4, A4, E4, PostS.turn q4 fun ρ5 st5 as5 H5 σ5 A5 e5 E5 q5 => ⟨ρ5, as5, st5, A5, E5, ((e2.trans e3).trans e4).trans e5, q5⟩⟩⟩

end
end Mi
namespace Mi
open PySem L2
def wipeT (ρ : Sl) : List Nat → Sl
  | [] => ρ
  | v :: vs => (wipeT ρ vs).set v none
def TgM (K : PySem.W.Frag) (g : TG) (gm : T → Sl → Option Sl) (vs : List Nat) : Prop :=
  ∀ ad ρ ρ' as st t v σ H Q, Ab K ad as st H → En K ad as H σ ρ → Rep K ad as H v t → gm t ρ = some ρ' → (∀ σ', wipe σ' vs = wipe σ vs → En K ad as H σ' ρ' → Q σ' H) → g v σ H Q
def noExc {α : Type} (r : R α) : R α := match r with
  | .ok a st => .ok a st
  | _ => .bad
def lcL (g : T → Sl → Option Sl) (tt : M Bool) (elt : M T) (ρ : Sl) : List T → Sto → R (List T)
  | [], st => .ok [] st
  | t :: ts, st => match g t ρ with
    | some ρ1 => (noExc (tt ρ1 st)).bind fun b st2 => match b with
      | true => (noExc (elt ρ1 st2)).bind fun y st3 => (lcL g tt elt ρ ts st3).bind fun ys st4 => .ok (y :: ys) st4
      | false => lcL g tt elt ρ ts st2
    | none => .bad
def lcLv (g : T → Sl → Option Sl) (tt : M Bool) (elt : M T) (ρ : Sl) (r : Nat) : Nat → Nat → Sto → R (List T)
  | 0, _, _ => .bad
  | n + 1, i, st => match st[r]? with
    | some (.lst ts) => if ts.length ≤ sizeLine then (match ts[i]? with
      | none => .ok [] st
      | some t => match g t ρ with
        | some ρ1 => (noExc (tt ρ1 st)).bind fun b st2 => match b with
          | true => (noExc (elt ρ1 st2)).bind fun y st3 => (lcLv g tt elt ρ r n (i + 1) st3).bind fun ys st4 => .ok (y :: ys) st4
          | false => lcLv g tt elt ρ r n (i + 1) st2
        | none => .bad) else .bad
    | _ => .bad
def lcDyn (g : T → Sl → Option Sl) (tt : M Bool) (elt : M T) (ρ : Sl) (f : Sto → Nat → Option (Option T)) : Nat → Nat → Sto → R (List T)
  | 0, _, _ => .bad
  | n + 1, i, st => match f st i with
    | none => .bad
    | some none => .ok [] st
    | some (some t) => match g t ρ with
      | some ρ1 => (noExc (tt ρ1 st)).bind fun b st2 => match b with
        | true => (noExc (elt ρ1 st2)).bind fun y st3 => (lcDyn g tt elt ρ f n (i + 1) st3).bind fun ys st4 => .ok (y :: ys) st4
        | false => lcDyn g tt elt ρ f n (i + 1) st2
      | none => .bad
def lcW (g : T → Sl → Option Sl) (tt : M Bool) (elt : M T) (ρ : Sl) (it : Wk) (st : Sto) : R (List T) := match it with
  | .seq ts => if ts.length ≤ sizeLine then lcL g tt elt ρ ts st else .bad
  | .live r => lcLv g tt elt ρ r (liveLen st r + 1) 0 st
  | .dyn n f => if n ≤ sizeLine then lcDyn g tt elt ρ f n 0 st else .bad
def mLc (mi : M Wk) (g : T → Sl → Option Sl) (tt : M Bool) (elt : M T) (vs : List Nat) : M T := fun ρ st => (mi ρ st).bind fun it st1 => (lcW g tt elt (wipeT ρ vs) it st1).bind fun ys st2 => .ok (.lst ys) st2

section
variable {K : PySem.W.Frag} {ad : Ad} {as : List Addr} {H : Hp} {st : Sto}
theorem En.setNone {σ : St} {ρ : Sl} (E : En K ad as H σ ρ) (i : Nat) : En K ad as H (σ.set i none) (ρ.set i none) := by
  refine ⟨by simp [E.1], fun j t h => ?_⟩
  by_cases hj : i = j
  · subst hj
    by_cases hl : i < ρ.length
    · rw [List.getElem?_set_self hl] at h; cases h
    · rw [List.getElem?_eq_none (by simpa using hl)] at h; cases h
  · rw [List.getElem?_set_ne hj] at h
    rw [List.getElem?_set_ne hj]
    exact E.2 j t h
theorem En.wipe {σ : St} {ρ : Sl} (E : En K ad as H σ ρ) : ∀ vs : List Nat, En K ad as H (L2.wipe σ vs) (wipeT ρ vs)
  | [] => E
  | v :: vs => by
    unfold L2.wipe wipeT
    exact (En.wipe E vs).setNone v
theorem En.hide {D : Addr} {o : HO} {σ : St} {ρ : Sl} (hD : H D = none) (E : En K ad as H σ ρ) : En K (ad.hide (D :: ad.hid)) as (upd H D o) σ ρ := ⟨E.1, fun i t h => by
  obtain ⟨v, h1, h2⟩ := E.2 i t h
  exact ⟨v, h1, h2.hide hD⟩⟩
theorem En.grow {D : Addr} {ys zs : List V} {σ : St} {ρ : Sl} (hh : D ∈ ad.hid) (hD : H D = some (.lst ys)) (E : En K ad as H σ ρ) : En K ad as (upd H D (.lst zs)) σ ρ := ⟨E.1, fun i t h => by
  obtain ⟨v, h1, h2⟩ := E.2 i t h
  exact ⟨v, h1, h2.grow hh hD⟩⟩
end
theorem wipe_set {σ : St} {i : Nat} {x : Option V} : ∀ {vs : List Nat}, i ∈ vs → wipe (σ.set i x) vs = wipe σ vs
  | v :: vs, h => by
    unfold wipe
    by_cases hv : i ∈ vs
    · rw [wipe_set hv]
    · have e : i = v := by rcases List.mem_cons.mp h with e | h; exact e; exact absurd h hv
      subst e
      have key : ∀ (ws : List Nat), i ∉ ws → wipe (σ.set i x) ws = (wipe σ ws).set i x := by
        intro ws
        induction ws with
        | nil => intro _; rfl
        | cons w ws ih =>
          intro hn
          unfold wipe
          rw [ih (fun q => hn (List.mem_cons_of_mem _ q)), List.set_comm]
          intro q
          exact hn (by rw [q]; exact List.mem_cons_self)
      rw [key vs hv, List.set_set]
theorem wipe_wipe (σ : St) (vs : List Nat) : wipe (wipe σ vs) vs = wipe σ vs := by
  have key : ∀ ws : List Nat, (∀ w ∈ ws, w ∈ vs) → wipe (wipe σ ws) vs = wipe σ vs := by
    intro ws
    induction ws with
    | nil => intro _; rfl
    | cons w ws ih =>
      intro h
      have e : wipe σ (w :: ws) = (wipe σ ws).set w none := rfl
      rw [e, wipe_set (h w List.mem_cons_self)]
      exact ih fun x hx => h x (List.mem_cons_of_mem _ hx)
  exact key vs fun _ h => h
section
variable {X : Cx} {ad : Ad} {W : WX} {pos p : Pos}
def tgN (i : Nat) (t : T) (ρ : Sl) : Option Sl := some (ρ.set i (some t))
theorem tg_name {i : Nat} {vs : List Nat} (hi : i ∈ vs) : TgM X.K (gName i) (tgN i) vs := fun ad ρ ρ' as st t v σ H Q A E r h k => by
  cases h
  exact k _ (wipe_set hi) (E.set r)
def tg2 (i j : Nat) (t : T) (ρ : Sl) : Option Sl := match t with
  | .tup [a, b] => some ((ρ.set i (some a)).set j (some b))
  | _ => none
theorem tg_pair {i j : Nat} {vs : List Nat} (hi : i ∈ vs) (hj : j ∈ vs) : TgM X.K (gTup X.K 2 (gCons (gName i) (gCons (gName j) gNil))) (tg2 i j) vs := fun ad ρ ρ' as st t v σ H Q A E r h k => by
  unfold tg2 at h
  split at h
  · cases h
    obtain ⟨a, xs, rfl, h1, h2⟩ := r.tupI
    obtain ⟨x, y, rfl, rx, ry⟩ := h2.two
    exact ⟨a, _, rfl, h1, rfl, _, _, rfl, _, _, rfl, rfl, k _ (by rw [wipe_set hj, wipe_set hi]) ((E.set rx).set ry)⟩
  · cases h
def mYes : M Bool := fun _ st => .ok true st
abbrev PMTs (X : Cx) (ad : Ad) (W : WX) (es : List Expr) (m : M Bool) : Prop := PTs X es (tM X.K ad RlB W m)
theorem pmts_nil : PMTs X ad W [] mYes := ⟨fun pins s σ H Q I ⟨_, _, as, _, A, _, q⟩ => pts_nil.run pins s σ H Q I (Post.at A rfl q)⟩
abbrev W0 : WX := fun _ _ _ _ => False
section
variable {K : PySem.W.Frag} {ad : Ad} {as : List Addr} {H : Hp} {st : Sto} {D : Addr} {xs : List V}
def FinOk (K : PySem.W.Frag) (ad : Ad) (fin : List T → Sto → R T) : Prop := ∀ (hd : List Addr) (as1 : List Addr) (H1 : Hp) (D : Addr) (as2 : List Addr) (st2 : Sto) (H2 : Hp) (xs : List V) (acc : List T) (Q : VK) (W : XK),
  H1 D = none → (D ∈ hd → False) → Ab K (ad.hide (D :: hd)) as2 st2 H2 → Ext as1 H1 as2 H2 → (D ∈ as2 → False) → H2 D = some (.lst xs) → Reps K (ad.hide (D :: hd)) as2 H2 xs acc →
  Post K (ad.hide hd) (Rep K (ad.hide hd)) as1 H1 Q W (fin acc st2) → Q (.ref D) H2
def finV (ys : List T) (st : Sto) : R T := .ok (.lst ys) st
theorem finV_ok : FinOk K ad finV := fun hd as1 H1 D as2 st2 H2 xs acc Q W hD nh A2 e2 nD hD2 r2 q => q.to (A2.show_ (ad := ad.hide hd)) e2 (.lst ⟨⟨nD, nh⟩, hD2⟩ (Reps.show_ (ad := ad.hide hd) r2))
end
def mLcF (fin : List T → Sto → R T) (mi : M Wk) (gm : T → Sl → Option Sl) (tt : M Bool) (elt : M T) (vs : List Nat) : M T := fun ρ st => (mi ρ st).bind fun it st1 => (lcW gm tt elt (wipeT ρ vs) it st1).bind fun ys st2 => fin ys st2
theorem tLcF_of {K : PySem.W.Frag} {g : TG} {gm : T → Sl → Option Sl} {vs : List Nat} {mi : M Wk} {tt : M Bool} {elt : M T} {fin : List T → Sto → R T} (hf : FinOk K ad fin) (hg : TgM K g gm vs) :
    ∀ σ H Q, tM K ad (Rep K) W (mLcF fin mi gm tt elt vs) σ H Q → tLc (tI K ad W mi) g (tM K ad RlB W0 tt) (tM K ad (Rep K) W0 elt) vs σ H Q := fun σ H Q ⟨hd, ρ, as, st, A, E, q⟩ =>
  ⟨hd, ρ, as, st, A, E, Post.step q fun it st1 as1 H1 J A1 e1 r1 q1 => by
    intro D hD
    cases it with
    | live r =>
      replace q1 : Post K (ad.hide hd) (Rep K (ad.hide hd)) as1 H1 Q (fun u d H' => W u d σ H') (R.bind (lcLv gm tt elt (wipeT ρ vs) r (liveLen st1 r + 1) 0 st1) fun ys st2 => fin ys st2) := q1
      refine ⟨fun i n H2 => ∃ acc xs as2 st2, acc.length ≤ i ∧ Ab K (ad.hide (D :: hd)) as2 st2 H2 ∧ Ext as1 H1 as2 H2 ∧ (D ∈ as2 → False) ∧ H2 D = some (.lst xs) ∧ Reps K (ad.hide (D :: hd)) as2 H2 xs acc ∧
          En K (ad.hide (D :: hd)) as2 H2 σ ρ ∧ Post K (ad.hide hd) (Rep K (ad.hide hd)) as1 H1 Q (fun u d H' => W u d σ H') ((lcLv gm tt elt (wipeT ρ vs) r n i st2).bind fun ys st3 => fin (acc ++ ys) st3),
        ⟨_, [], [], as1, st1, Nat.le_refl _, A1.hide hD, Ext.fresh hD, A1.nin hD, upd_same, .nil, (E.ext e1).hide hD, q1⟩, ?_⟩
      rintro i n H2 ⟨acc, xs, as2, st2, hacc, A2, e2, nD, hD2, r2, E2, q2⟩
      cases n with
      | zero => exact q2.elim
      | succ n =>
      unfold lcLv at q2
      split at q2
      case h_2 => exact q2.elim
      case h_1 ts hts =>
      split at q2
      case isFalse => exact q2.elim
      case isTrue hsz =>
      have it := r1 (D :: hd) i as2 st2 H2 A2 e2 ⟨ts, hts⟩
      have hl : liveAt st2 r i = ts[i]? := by unfold liveAt; rw [hts]
      rw [hl] at it
      split at q2
      case h_1 hn =>
        rw [hn] at it
        refine .inl ⟨it, ?_⟩
        have q3 : Post K (ad.hide hd) (Rep K (ad.hide hd)) as1 H1 Q (fun u d H' => W u d σ H') (fin (acc ++ []) st2) := q2
        rw [List.append_nil] at q3
        exact hf hd as1 H1 D as2 st2 H2 xs acc Q _ hD (fun z => by
          obtain ⟨_, u, e, _⟩ := A1.hid D z
          rw [hD] at e; cases e) A2 e2 nD hD2 r2 q3
      case h_2 t ht =>
        rw [ht] at it
        have hlt : i < ts.length := (List.getElem?_eq_some_iff.mp ht).1
        obtain ⟨go, yl⟩ := it
        refine .inr ⟨go, fun H3 => ∃ acc xs as2 st2, acc.length ≤ (i + 1) ∧ Ab K (ad.hide (D :: hd)) as2 st2 H3 ∧ Ext as1 H1 as2 H3 ∧ (D ∈ as2 → False) ∧ H3 D = some (.lst xs) ∧ Reps K (ad.hide (D :: hd)) as2 H3 xs acc ∧
          En K (ad.hide (D :: hd)) as2 H3 σ ρ ∧ Post K (ad.hide hd) (Rep K (ad.hide hd)) as1 H1 Q (fun u d H' => W u d σ H') ((lcLv gm tt elt (wipeT ρ vs) r n (i + 1) st2).bind fun ys st3 => fin (acc ++ ys) st3),
          fun H3 h2 => ⟨n, Nat.lt_succ_self _, h2⟩, fun x H3 y => ?_⟩
        obtain ⟨A3, e3, r3⟩ := yl x H3 y
        have hD3 : H3 D = some (.lst xs) := e3.kp nD hD2
        split at q2
        case h_2 => exact q2.elim
        case h_1 ρ1 hρ1 =>
        refine hg _ _ _ as2 st2 _ _ _ H3 _ A3 ((E2.ext e3).wipe vs) r3 hρ1 fun σ4 hw E4 => ⟨hw.trans (wipe_wipe σ vs), D :: hd, ρ1, as2, st2, A3, E4, ?_⟩
        cases h1 : tt ρ1 st2 with
        | bad => rw [h1] at q2; exact q2.elim
        | exc _ _ => rw [h1] at q2; exact q2.elim
        | ok b st3 =>
          rw [h1] at q2
          intro as4 H4 c A4 e4 rc
          obtain rfl := rc
          have hD4 : H4 D = some (.lst xs) := e4.kp nD hD3
          have nD4 := e4.nin nD hD3
          cases c with
          | false =>
            exact iteF ⟨acc, xs, as4, st3, Nat.le_succ_of_le hacc, A4, (e2.trans e3).trans e4, nD4, hD4, (r2.ext e3).ext e4, (E2.ext e3).ext e4, q2⟩
          | true =>
            refine iteT ⟨D :: hd, ρ1, as4, st3, A4, E4.ext e4, ?_⟩
            replace q2 : Post K (ad.hide hd) (Rep K (ad.hide hd)) as1 H1 Q (fun u d H' => W u d σ H') (R.bind (R.bind (noExc (elt ρ1 st3)) fun y st3 => (lcLv gm tt elt (wipeT ρ vs) r n (i + 1) st3).bind fun ys st4 => .ok (y :: ys) st4) fun ys st3 => fin (acc ++ ys) st3) := q2
            cases h2 : elt ρ1 st3 with
            | bad => rw [h2] at q2; exact q2.elim
            | exc _ _ => rw [h2] at q2; exact q2.elim
            | ok z st5 =>
              rw [h2] at q2
              intro as5 H5 vz A5 e5 rz
              have hD5 : H5 D = some (.lst xs) := e5.kp nD4 hD4
              have nD5 := e5.nin nD4 hD4
              have memD : D ∈ (ad.hide (D :: hd)).hid := List.mem_cons_self
              have r5 := ((r2.ext e3).ext e4).ext e5
              refine ⟨xs, hD5, by rw [r5.length]; omega, acc ++ [z], xs ++ [vz], as5, st5, by simp; omega, A5.grow memD hD5, ?_, nD5, upd_same, (r5.append (.cons rz .nil)).grow memD hD5, (((E2.ext e3).ext e4).ext e5).grow memD hD5, ?_⟩
              · have ee := ((e2.trans e3).trans e4).trans e5
                refine ⟨ee.more, fun a o na q nt => ?_, fun a q => ?_⟩
                · have na' : a ≠ D := ne_of_none q hD
                  rw [upd_ne na']
                  exact ee.keep a o na q nt
                · refine ee.dom a ?_
                  by_cases ea : a = D
                  · subst ea
                    exact (q.no upd_same (fun _ w => by cases w)).elim
                  · intro o w
                    exact q o (by rw [upd_ne ea]; exact w)
              · replace q2 : Post K (ad.hide hd) (Rep K (ad.hide hd)) as1 H1 Q (fun u d H' => W u d σ H') (R.bind (R.bind (lcLv gm tt elt (wipeT ρ vs) r n (i + 1) st5) fun ys st4 => .ok (z :: ys) st4) fun ys st3 => fin (acc ++ ys) st3) := q2
                show Post K (ad.hide hd) (Rep K (ad.hide hd)) as1 H1 Q (fun u d H' => W u d σ H') (R.bind (lcLv gm tt elt (wipeT ρ vs) r n (i + 1) st5) fun ys st3 => fin (acc ++ [z] ++ ys) st3)
                cases h3 : (lcLv gm tt elt (wipeT ρ vs) r n (i + 1) st5) with
                | bad => rw [h3] at q2; exact q2.elim
                | exc _ _ => rw [h3] at q2; exact q2
                | ok ys st6 =>
                  rw [h3] at q2
                  have e : acc ++ [z] ++ ys = acc ++ z :: ys := by simp
                  show Post K (ad.hide hd) (Rep K (ad.hide hd)) as1 H1 Q (fun u d H' => W u d σ H') (fin (acc ++ [z] ++ ys) st6)
                  rw [e]
                  exact q2
    | dyn N f =>
      replace q1 : Post K (ad.hide hd) (Rep K (ad.hide hd)) as1 H1 Q (fun u d H' => W u d σ H') (R.bind (if N ≤ sizeLine then lcDyn gm tt elt (wipeT ρ vs) f N 0 st1 else .bad) fun ys st2 => fin ys st2) := q1
      split at q1
      case isFalse => exact q1.elim
      case isTrue hsz =>
      refine ⟨fun i n H2 => i + n = N ∧ ∃ acc xs as2 st2, acc.length ≤ i ∧ Ab K (ad.hide (D :: hd)) as2 st2 H2 ∧ Ext as1 H1 as2 H2 ∧ (D ∈ as2 → False) ∧ H2 D = some (.lst xs) ∧ Reps K (ad.hide (D :: hd)) as2 H2 xs acc ∧
          En K (ad.hide (D :: hd)) as2 H2 σ ρ ∧ Post K (ad.hide hd) (Rep K (ad.hide hd)) as1 H1 Q (fun u d H' => W u d σ H') ((lcDyn gm tt elt (wipeT ρ vs) f n i st2).bind fun ys st3 => fin (acc ++ ys) st3),
        ⟨_, Nat.zero_add _, [], [], as1, st1, Nat.le_refl _, A1.hide hD, Ext.fresh hD, A1.nin hD, upd_same, .nil, (E.ext e1).hide hD, q1⟩, ?_⟩
      rintro i n H2 ⟨hin, acc, xs, as2, st2, hacc, A2, e2, nD, hD2, r2, E2, q2⟩
      cases n with
      | zero => exact q2.elim
      | succ n =>
      unfold lcDyn at q2
      have it := r1 (D :: hd) (fun z hz => (List.mem_cons.mp hz).elim (fun e => .inr (by rw [e]; exact hD)) .inl) i as2 st2 H2 A2 e2
      split at q2
      case h_1 => exact q2.elim
      case h_2 hn =>
        refine .inl ⟨it _ hn, ?_⟩
        have q3 : Post K (ad.hide hd) (Rep K (ad.hide hd)) as1 H1 Q (fun u d H' => W u d σ H') (fin (acc ++ []) st2) := q2
        rw [List.append_nil] at q3
        exact hf hd as1 H1 D as2 st2 H2 xs acc Q _ hD (fun z => by
          obtain ⟨_, u, e, _⟩ := A1.hid D z
          rw [hD] at e; cases e) A2 e2 nD hD2 r2 q3
      case h_3 t ht =>
        obtain ⟨go, yl⟩ := it _ ht
        refine .inr ⟨go, fun H3 => ∃ acc xs as2 st2, acc.length ≤ (i + 1) ∧ Ab K (ad.hide (D :: hd)) as2 st2 H3 ∧ Ext as1 H1 as2 H3 ∧ (D ∈ as2 → False) ∧ H3 D = some (.lst xs) ∧ Reps K (ad.hide (D :: hd)) as2 H3 xs acc ∧
          En K (ad.hide (D :: hd)) as2 H3 σ ρ ∧ Post K (ad.hide hd) (Rep K (ad.hide hd)) as1 H1 Q (fun u d H' => W u d σ H') ((lcDyn gm tt elt (wipeT ρ vs) f n (i + 1) st2).bind fun ys st3 => fin (acc ++ ys) st3),
          fun H3 h2 => ⟨n, Nat.lt_succ_self _, by omega, h2⟩, fun x H3 y => ?_⟩
        obtain ⟨A3, e3, r3⟩ := yl x H3 y
        have hD3 : H3 D = some (.lst xs) := e3.kp nD hD2
        split at q2
        case h_2 => exact q2.elim
        case h_1 ρ1 hρ1 =>
        refine hg _ _ _ as2 st2 _ _ _ H3 _ A3 ((E2.ext e3).wipe vs) r3 hρ1 fun σ4 hw E4 => ⟨hw.trans (wipe_wipe σ vs), D :: hd, ρ1, as2, st2, A3, E4, ?_⟩
        cases h1 : tt ρ1 st2 with
        | bad => rw [h1] at q2; exact q2.elim
        | exc _ _ => rw [h1] at q2; exact q2.elim
        | ok b st3 =>
          rw [h1] at q2
          intro as4 H4 c A4 e4 rc
          obtain rfl := rc
          have hD4 : H4 D = some (.lst xs) := e4.kp nD hD3
          have nD4 := e4.nin nD hD3
          cases c with
          | false =>
            exact iteF ⟨acc, xs, as4, st3, Nat.le_succ_of_le hacc, A4, (e2.trans e3).trans e4, nD4, hD4, (r2.ext e3).ext e4, (E2.ext e3).ext e4, q2⟩
          | true =>
            refine iteT ⟨D :: hd, ρ1, as4, st3, A4, E4.ext e4, ?_⟩
            replace q2 : Post K (ad.hide hd) (Rep K (ad.hide hd)) as1 H1 Q (fun u d H' => W u d σ H') (R.bind (R.bind (noExc (elt ρ1 st3)) fun y st3 => (lcDyn gm tt elt (wipeT ρ vs) f n (i + 1) st3).bind fun ys st4 => .ok (y :: ys) st4) fun ys st3 => fin (acc ++ ys) st3) := q2
            cases h2 : elt ρ1 st3 with
            | bad => rw [h2] at q2; exact q2.elim
            | exc _ _ => rw [h2] at q2; exact q2.elim
            | ok z st5 =>
              rw [h2] at q2
              intro as5 H5 vz A5 e5 rz
              have hD5 : H5 D = some (.lst xs) := e5.kp nD4 hD4
              have nD5 := e5.nin nD4 hD4
              have memD : D ∈ (ad.hide (D :: hd)).hid := List.mem_cons_self
              have r5 := ((r2.ext e3).ext e4).ext e5
              refine ⟨xs, hD5, by rw [r5.length]; omega, acc ++ [z], xs ++ [vz], as5, st5, by simp; omega, A5.grow memD hD5, ?_, nD5, upd_same, (r5.append (.cons rz .nil)).grow memD hD5, (((E2.ext e3).ext e4).ext e5).grow memD hD5, ?_⟩
              · have ee := ((e2.trans e3).trans e4).trans e5
                refine ⟨ee.more, fun a o na q nt => ?_, fun a q => ?_⟩
                · have na' : a ≠ D := ne_of_none q hD
                  rw [upd_ne na']
                  exact ee.keep a o na q nt
                · refine ee.dom a ?_
                  by_cases ea : a = D
                  · subst ea
                    exact (q.no upd_same (fun _ w => by cases w)).elim
                  · intro o w
                    exact q o (by rw [upd_ne ea]; exact w)
              · replace q2 : Post K (ad.hide hd) (Rep K (ad.hide hd)) as1 H1 Q (fun u d H' => W u d σ H') (R.bind (R.bind (lcDyn gm tt elt (wipeT ρ vs) f n (i + 1) st5) fun ys st4 => .ok (z :: ys) st4) fun ys st3 => fin (acc ++ ys) st3) := q2
                show Post K (ad.hide hd) (Rep K (ad.hide hd)) as1 H1 Q (fun u d H' => W u d σ H') (R.bind (lcDyn gm tt elt (wipeT ρ vs) f n (i + 1) st5) fun ys st3 => fin (acc ++ [z] ++ ys) st3)
                cases h3 : (lcDyn gm tt elt (wipeT ρ vs) f n (i + 1) st5) with
                | bad => rw [h3] at q2; exact q2.elim
                | exc _ _ => rw [h3] at q2; exact q2
                | ok ys st6 =>
                  rw [h3] at q2
                  have e : acc ++ [z] ++ ys = acc ++ z :: ys := by simp
                  show Post K (ad.hide hd) (Rep K (ad.hide hd)) as1 H1 Q (fun u d H' => W u d σ H') (fin (acc ++ [z] ++ ys) st6)
                  rw [e]
                  exact q2
    | seq ts =>
      replace q1 : Post K (ad.hide hd) (Rep K (ad.hide hd)) as1 H1 Q (fun u d H' => W u d σ H') (R.bind (if ts.length ≤ sizeLine then lcL gm tt elt (wipeT ρ vs) ts st1 else .bad) fun ys st2 => fin ys st2) := q1
      split at q1
      case isFalse => exact q1.elim
      case isTrue hsz =>
      -- hd2: D hidden besides
      refine ⟨fun i n H2 => n = ts.length - i ∧ i ≤ ts.length ∧ ∃ acc xs as2 st2, acc.length ≤ i ∧ Ab K (ad.hide (D :: hd)) as2 st2 H2 ∧ Ext as1 H1 as2 H2 ∧ (D ∈ as2 → False) ∧ H2 D = some (.lst xs) ∧ Reps K (ad.hide (D :: hd)) as2 H2 xs acc ∧
          En K (ad.hide (D :: hd)) as2 H2 σ ρ ∧ Post K (ad.hide hd) (Rep K (ad.hide hd)) as1 H1 Q (fun u d H' => W u d σ H') ((lcL gm tt elt (wipeT ρ vs) (ts.drop i) st2).bind fun ys st3 => fin (acc ++ ys) st3),
        ⟨ts.length, by simp, Nat.zero_le _, [], [], as1, st1, Nat.le_refl _, A1.hide hD, Ext.fresh hD, A1.nin hD, upd_same, .nil, (E.ext e1).hide hD, q1⟩, ?_⟩
      rintro i n H2 ⟨rfl, hi, acc, xs, as2, st2, hacc, A2, e2, nD, hD2, r2, E2, q2⟩
      have it := r1 (D :: hd) (fun z hz => (List.mem_cons.mp hz).elim (fun e => .inr (by rw [e]; exact hD)) .inl) i as2 st2 H2 A2 e2
      by_cases hlt : i < ts.length
      · rw [List.getElem?_eq_getElem hlt] at it
        obtain ⟨go, yl⟩ := it
        rw [List.drop_eq_getElem_cons hlt] at q2
        refine .inr ⟨go, fun H3 => i + 1 ≤ ts.length ∧ ∃ acc xs as2 st2, acc.length ≤ i + 1 ∧ Ab K (ad.hide (D :: hd)) as2 st2 H3 ∧ Ext as1 H1 as2 H3 ∧ (D ∈ as2 → False) ∧ H3 D = some (.lst xs) ∧ Reps K (ad.hide (D :: hd)) as2 H3 xs acc ∧
          En K (ad.hide (D :: hd)) as2 H3 σ ρ ∧ Post K (ad.hide hd) (Rep K (ad.hide hd)) as1 H1 Q (fun u d H' => W u d σ H') ((lcL gm tt elt (wipeT ρ vs) (ts.drop (i + 1)) st2).bind fun ys st3 => fin (acc ++ ys) st3),
          fun H3 ⟨h1, h2⟩ => ⟨ts.length - (i + 1), by omega, rfl, h1, h2⟩, fun x H3 y => ?_⟩
        obtain ⟨A3, e3, r3⟩ := yl x H3 y
        have hD3 : H3 D = some (.lst xs) := e3.kp nD hD2
        unfold lcL at q2
        split at q2
        case h_2 => exact q2.elim
        case h_1 ρ1 hρ1 =>
        refine hg _ _ _ as2 st2 _ _ _ H3 _ A3 ((E2.ext e3).wipe vs) r3 hρ1 fun σ4 hw E4 => ⟨hw.trans (wipe_wipe σ vs), D :: hd, ρ1, as2, st2, A3, E4, ?_⟩
        cases h1 : tt ρ1 st2 with
        | bad => rw [h1] at q2; exact q2.elim
        | exc _ _ => rw [h1] at q2; exact q2.elim
        | ok b st3 =>
          rw [h1] at q2
          intro as4 H4 c A4 e4 rc
          obtain rfl := rc
          have hD4 : H4 D = some (.lst xs) := e4.kp nD hD3
          have nD4 := e4.nin nD hD3
          cases c with
          | false =>
            refine iteF ⟨hlt, acc, xs, as4, st3, Nat.le_succ_of_le hacc, A4, (e2.trans e3).trans e4, nD4, hD4, (r2.ext e3).ext e4, (E2.ext e3).ext e4, q2⟩
          | true =>
            refine iteT ⟨D :: hd, ρ1, as4, st3, A4, E4.ext e4, ?_⟩
            replace q2 : Post K (ad.hide hd) (Rep K (ad.hide hd)) as1 H1 Q (fun u d H' => W u d σ H') (R.bind (R.bind (noExc (elt ρ1 st3)) fun y st3 => (lcL gm tt elt (wipeT ρ vs) (ts.drop (i + 1)) st3).bind fun ys st4 => .ok (y :: ys) st4) fun ys st3 => fin (acc ++ ys) st3) := q2
            cases h2 : elt ρ1 st3 with
            | bad => rw [h2] at q2; exact q2.elim
            | exc _ _ => rw [h2] at q2; exact q2.elim
            | ok z st5 =>
              rw [h2] at q2
              intro as5 H5 vz A5 e5 rz
              have hD5 : H5 D = some (.lst xs) := e5.kp nD4 hD4
              have nD5 := e5.nin nD4 hD4
              have memD : D ∈ (ad.hide (D :: hd)).hid := List.mem_cons_self
              have r5 := ((r2.ext e3).ext e4).ext e5
              refine ⟨xs, hD5, by rw [r5.length]; omega, hlt, acc ++ [z], xs ++ [vz], as5, st5, by simp; omega, A5.grow memD hD5, ?_, nD5, upd_same, (r5.append (.cons rz .nil)).grow memD hD5, (((E2.ext e3).ext e4).ext e5).grow memD hD5, ?_⟩
              · have ee := ((e2.trans e3).trans e4).trans e5
                refine ⟨ee.more, fun a o na q nt => ?_, fun a q => ?_⟩
                · have na' : a ≠ D := ne_of_none q hD
                  rw [upd_ne na']
                  exact ee.keep a o na q nt
                · refine ee.dom a ?_
                  by_cases ea : a = D
                  · subst ea
                    exact (q.no upd_same (fun _ w => by cases w)).elim
                  · intro o w
                    exact q o (by rw [upd_ne ea]; exact w)
              · replace q2 : Post K (ad.hide hd) (Rep K (ad.hide hd)) as1 H1 Q (fun u d H' => W u d σ H') (R.bind (R.bind (lcL gm tt elt (wipeT ρ vs) (ts.drop (i + 1)) st5) fun ys st4 => .ok (z :: ys) st4) fun ys st3 => fin (acc ++ ys) st3) := q2
                show Post K (ad.hide hd) (Rep K (ad.hide hd)) as1 H1 Q (fun u d H' => W u d σ H') (R.bind (lcL gm tt elt (wipeT ρ vs) (ts.drop (i + 1)) st5) fun ys st3 => fin (acc ++ [z] ++ ys) st3)
                have q3 : Post K (ad.hide hd) (Rep K (ad.hide hd)) as1 H1 Q (fun u d H' => W u d σ H') (R.bind (lcL gm tt elt (wipeT ρ vs) (ts.drop (i + 1)) st5) fun ys st3 => fin (acc ++ [z] ++ ys) st3) := by
                  cases h3 : lcL gm tt elt (wipeT ρ vs) (ts.drop (i + 1)) st5 with
                  | bad => rw [h3] at q2; exact q2.elim
                  | exc _ _ => rw [h3] at q2; exact q2
                  | ok ys st6 =>
                    rw [h3] at q2
                    have e : acc ++ [z] ++ ys = acc ++ z :: ys := by simp
                    show Post K (ad.hide hd) (Rep K (ad.hide hd)) as1 H1 Q (fun u d H' => W u d σ H') (fin (acc ++ [z] ++ ys) st6)
                    rw [e]
                    exact q2
                exact q3
      · have hi' : i = ts.length := by omega
        subst hi'
        rw [List.getElem?_eq_none (Nat.le_refl _)] at it
        rw [List.drop_length] at q2
        refine .inl ⟨it, ?_⟩
        have q3 : Post K (ad.hide hd) (Rep K (ad.hide hd)) as1 H1 Q (fun u d H' => W u d σ H') (fin (acc ++ []) st2) := q2
        rw [List.append_nil] at q3
        exact hf hd as1 H1 D as2 st2 H2 xs acc Q _ hD (fun z => by
          obtain ⟨_, u, e, _⟩ := A1.hid D z
          rw [hD] at e; cases e) A2 e2 nD hD2 r2 q3⟩

theorem tLc_of {K : PySem.W.Frag} {g : TG} {gm : T → Sl → Option Sl} {vs : List Nat} {mi : M Wk} {tt : M Bool} {elt : M T} (hg : TgM K g gm vs) :
    ∀ σ H Q, tM K ad (Rep K) W (mLc mi gm tt elt vs) σ H Q → tLc (tI K ad W mi) g (tM K ad RlB W0 tt) (tM K ad (Rep K) W0 elt) vs σ H Q := fun σ H Q q => tLcF_of finV_ok hg σ H Q q
theorem pm_lc {elt tg iter : Expr} {ifs : List Expr} {scope : Scope} {own : List (Str × Nat)} {mi : M Wk} {g : TG} {gm : T → Sl → Option Sl} {tt : M Bool} {me : M T} {k : Nat} (S : Sit X W k) (hN : X.N.Nodup) (hgm : TgM X.K g gm (own.map (·.2)))
    (hi : PMI X ad W tg iter mi) (ok : BlkOk X.N X.env.scope scope own)
    (hg : ∀ (s : Shared) (H : Hp) (C : Addr) (cl : List (Str × Addr)) (fp : List Addr), PG (X.blk s H scope (compEnvC scope cl C X.env) fp) tg g)
    (ht : ∀ (s : Shared) (H : Hp) (C : Addr) (cl : List (Str × Addr)) (fp : List Addr), PMTs (X.blk s H scope (compEnvC scope cl C X.env) fp) ad W0 ifs tt)
    (he : ∀ (s : Shared) (H : Hp) (C : Addr) (cl : List (Str × Addr)) (fp : List Addr), PM (X.blk s H scope (compEnvC scope cl C X.env) fp) ad W0 elt me) (hs : ∀ x, foldedSetIterable iter X.env x = pure x := by intro _; rfl) :
    PM X ad W (.ListComp elt [⟨tg, iter, ifs, 0⟩] scope pos) (mLc mi gm tt me (own.map (·.2))) := peW (pe_lc S.calm hN hi ok hg ht he hs) (tLc_of hgm)
theorem pms_setLc {i : Nat} {y : Str} {py spos : Pos} {elt tg iter : Expr} {ifs : List Expr} {scope : Scope} {own : List (Str × Nat)} {mi : M Wk} {g : TG} {gm : T → Sl → Option Sl} {tt : M Bool} {me : M T} {k : Nat} (S : Sit X W k) (hN : X.N.Nodup) (hy : X.N[i]? = some y)
    (hyl : X.env.scope.names.lookup y = some .local) (hsw : swapsWith (.ListComp elt [⟨tg, iter, ifs, 0⟩] scope pos) (some (.Name y py)) spos.line X.env = pure true) (hgm : TgM X.K g gm (own.map (·.2)))
    (hi : PMI X ad W tg iter mi) (ok : BlkOk X.N X.env.scope scope own)
    (hg : ∀ (s : Shared) (H : Hp) (C : Addr) (cl : List (Str × Addr)) (fp : List Addr), PG (X.blk s H scope (compEnvC scope cl C X.env) fp) tg g)
    (ht : ∀ (s : Shared) (H : Hp) (C : Addr) (cl : List (Str × Addr)) (fp : List Addr), PMTs (X.blk s H scope (compEnvC scope cl C X.env) fp) ad W0 ifs tt)
    (he : ∀ (s : Shared) (H : Hp) (C : Addr) (cl : List (Str × Addr)) (fp : List Addr), PM (X.blk s H scope (compEnvC scope cl C X.env) fp) ad W0 elt me) (hs : ∀ x, foldedSetIterable iter X.env x = pure x := by intro _; rfl) :
    PMS X ad W (.Assign [.Name y py] (.ListComp elt [⟨tg, iter, ifs, 0⟩] scope pos) spos) (sAsg (mLc mi gm tt me (own.map (·.2))) (gSet i)) :=
  psW (ps_setLc S.calm hN hy hyl hsw hi ok hg ht he hs) fun D σ H ⟨hd, ρ, as, st, A, E, q⟩ => tLc_of hgm σ H _ ⟨hd, ρ, as, st, A, E, PostS.expr E q fun t st1 as1 H1 v A1 e1 r1 q1 => PostS.nxAt A1 ((E.ext e1).set r1) q1⟩
theorem Sit.blk {k : Nat} (S : Sit X W k) (s : Shared) (H : Hp) (scope : Scope) (cenv : PySem.Env) (fp : List Addr) : Sit (X.blk s H scope cenv fp) W0 k := ⟨S.calm, S.gd, S.rm, takes0, PassesOwn.never, S.sm⟩
end
end Mi
namespace Mi
open PySem L2 PySem.Spec PyProof.Rows
def runF (n : Nat) (body : SM) (ts : List T) (st : Sto) : R T := match body (ts.map some ++ List.replicate (n - ts.length) none) st with
  | .nx _ st' => .ok .non st'
  | .rt t st' => .ok t st'
  | .ex e _ st' => .exc e st'
  | _ => .bad

section
variable {P : Program} {w : World} {K : PySem.W.Frag} {mg : Str → Option Value} {base : Heap} {ad : Ad}
theorem start_en {K : PySem.W.Frag} {ad : Ad} {as : List Addr} {H : Hp} {N : List Str} {vs : List V} {ts : List T} (r : Reps K ad as H vs ts) : En K ad as H (L2.start N vs) (ts.map some ++ List.replicate (N.length - ts.length) none) := by
  have hl := r.length
  refine ⟨by simp [L2.start, hl], fun i t h => ?_⟩
  unfold L2.start
  by_cases hi : i < ts.length
  · rw [List.getElem?_append_left (by simpa using hi), List.getElem?_map] at h
    cases e : ts[i]? with
    | none => rw [e] at h; cases h
    | some u =>
      rw [e] at h
      cases h
      obtain ⟨v, h1, h2⟩ := r.get e
      exact ⟨v, by rw [List.getElem?_append_left (by simpa [hl] using hi), List.getElem?_map, h1]; rfl, h2⟩
  · rw [List.getElem?_append_right (by simpa using hi), List.getElem?_replicate] at h
    split at h <;> cases h
structure FunA (K : PySem.W.Frag) (x qual : Str) (st : Stmt) (f : Addr) (fd : FuncData) : Prop where
  ex : ∃ (oc : Value) (od : Option Addr) (dV kV doc pm : Value) (an : Option Addr) (cdv ct : Value) (osl : Array (Option Value)),
    fd = PySem.W.fnOf x qual (defArgs st) (defBody st) (defScope st) dV kV doc pm an cdv ct ∧ K.lookup f = some ⟨oc, od, .func fd, osl⟩ ∧ PySem.W.codeIn K cdv qual = true
  kp : PySem.W.keepIn K (.ref f) = true
theorem funA_mk {K : PySem.W.Frag} {x qual : Str} {st : Stmt} {f : Addr} {oc : Value} {od an : Option Addr} {osl : Array (Option Value)} {dV kV doc pm cdv ct : Value} (l : K.lookup f = some ⟨oc, od, .func (PySem.W.fnOf x qual (defArgs st) (defBody st) (defScope st) dV kV doc pm an cdv ct), osl⟩)
    (c : PySem.W.codeIn K cdv qual = true) (k : PySem.W.keepIn K (.ref f) = true) : FunA K x qual st f (PySem.W.fnOf x qual (defArgs st) (defBody st) (defScope st) dV kV doc pm an cdv ct) := ⟨⟨oc, od, dV, kV, doc, pm, an, cdv, ct, osl, rfl, l, c⟩, k⟩
theorem gn_okC {x qual : Str} {st : Stmt} {f : Addr} {fd : FuncData} {N ps : List Str} {k n : Nat} {body : SM} (F : FunA K x qual st f fd) (S : FnScope N ps (defScope st)) (hsm : ∃ o, base.get? sysModules = some o) (hn : ps.length = n)
    (hbody : ∀ (cdv : Value) (A : Around) (outer : List PySem.Env) (s : Shared) (H : Hp) (E : XK), fd.code = cdv → Sit (cxOf (MCX P w) P w K mg base N qual (defScope st) f cdv A outer s H E) (fun c d _ H => E c d H) k →
      PMSs (cxOf (MCX P w) P w K mg base N qual (defScope st) f cdv A outer s H E) ad (fun c d _ H => E c d H) (defBody st) body) :
    GnOk P w K mg base (k + 1) f fd ps (spF K ad n (runF N.length body)) := by
  obtain ⟨oc, od, dV, kV, doc, pm, an, cdv, ct, osl, rfl, lk, hcd⟩ := F.ex
  refine ⟨fun vs H Q E h => h.1.trans hn.symm, fun A outer s H args us vs Q E hr hg e0 hb r hsp => ?_⟩
  obtain ⟨hl, hd, as, sto, ts, Ab0, rts, hq⟩ := hsp
  rw [← hn] at hl
  have KX : K.In s.heap := e0.mod.kin.keeps fun b o e => (e0.bs b o e).1
  have lim : s.heap.NoLimit := e0.mod.nolimit.keeps fun b o e => (e0.bs b o e).1
  have hkind : ∀ y ∈ ps.zip us, (defScope st).names.lookup y.1 = some .local ∨
      ((defScope st).names.lookup y.1 = some .cell ∧ ((cellsFrom (s.heap.objs.size + 1) (defScope st).names []).lookup y.1).isSome = true) := by
    rintro ⟨n, v⟩ hy
    rcases S.par n (List.of_mem_zip hy).1 with q | q
    · exact .inl q
    · exact .inr ⟨q, PySem.W.cellsFrom_some _ _ _ (.inl q)⟩
  refine codeAny_call_function hr.depth (KX _ _ lk) rfl S.co S.gen rfl (PySem.W.codeRec_of KX hcd) (hb _ _ _ _ (wpAny_newFunctionEnv_cells S.kind hkind fun env he s1 x => ?_))
  subst he
  refine ⟨lim.keeps x.toInCall.keep, codeAny_func ?_⟩
  have sit : Sit (cxOf (MCX P w) P w K mg base N qual (defScope st) f cdv A outer s H E) (fun c d _ H => E c d H) k :=
    ⟨rfl, hg, hr.deeper _, takes_of rfl rfl rfl rfl, passes_of rfl, hsm⟩
  have I : Inv (cxOf (MCX P w) P w K mg base N qual (defScope st) f cdv A outer s H E) [] (L2.start N vs) H s1 := inv_start S hr.hd e0 hl r x
  have fin : ∀ {σ' : L2.St} {H' : Hp} {v : V} {u : Value} {s' : Shared}, Inv (cxOf (MCX P w) P w K mg base N qual (defScope st) f cdv A outer s H E) [] σ' H' s' → RelV v u → Q v H' → CE outer P w H s Q u s' :=
    fun {σ' H' v u s'} J rv q => ⟨v, H', J.os, J.bare, J.base, J.hok, rv, q⟩
  have start_ok : tS K ad (fun c d _ H => E c d H) body { nx := fun _ H' => Q .non H', rt := Q } (L2.start N vs) H := by
    refine ⟨hd, _, as, sto, Ab0, start_en rts, ?_⟩
    unfold runF at hq
    revert hq
    generalize body (ts.map some ++ List.replicate (N.length - ts.length) none) sto = r
    intro hq
    cases r with
    | nx ρ st => exact fun as' H' σ' A e E => hq as' H' .non A e .non
    | rt t st => exact fun as' H' v A e r => hq as' H' v A e r
    | bk ρ st => exact hq.elim
    | ct ρ st => exact hq.elim
    | ex x ρ st => exact fun as' H' σ' u d A e _ r => hq as' H' u d A e r
    | bad => exact hq.elim
  refine wpAny_mono ((hbody cdv A outer s H E rfl sit).run [] s1 (L2.start N vs) H _ I start_ok) (fun fl s' hs => ?_) fun e s' hs => hs
  cases fl with
  | ret u =>
    obtain ⟨v, σ', H', J, rv, q⟩ := hs
    exact fin J rv q
  | next =>
    obtain ⟨σ', H', J, q⟩ := hs
    exact fin (v := V.non) (u := Value.none) J rfl q
  | brk => exact False.elim (let ⟨_, _, _, q⟩ := hs; q)
  | cont => exact False.elim (let ⟨_, _, _, q⟩ := hs; q)
theorem gn_ok {x qual : Str} {st : Stmt} {f : Addr} {fd : FuncData} {N ps : List Str} {k n : Nat} {body : SM} (F : FunA K x qual st f fd) (S : FnScope N ps (defScope st)) (hsm : ∃ o, base.get? sysModules = some o) (hn : ps.length = n)
    (hbody : ∀ (cdv : Value) (A : Around) (outer : List PySem.Env) (s : Shared) (H : Hp) (E : XK), Sit (cxOf (MCX P w) P w K mg base N qual (defScope st) f cdv A outer s H E) (fun c d _ H => E c d H) k →
      PMSs (cxOf (MCX P w) P w K mg base N qual (defScope st) f cdv A outer s H E) ad (fun c d _ H => E c d H) (defBody st) body) :
    GnOk P w K mg base (k + 1) f fd ps (spF K ad n (runF N.length body)) := gn_okC F S hsm hn fun cdv A outer s H E _ sit => hbody cdv A outer s H E sit
theorem gn_none {f : Addr} {fd : FuncData} {ps : List Str} {n : Nat} (hn : ps.length = n) {k : Nat} : GnOk P w K mg base k f fd ps (spF K ad n fun _ _ => .bad) :=
  ⟨fun vs H Q E h => h.1.trans hn.symm, fun A outer s H args us vs Q E _ _ _ _ _ h => by
    obtain ⟨_, _, _, _, _, _, _, q⟩ := h
    exact q.elim⟩
theorem GnOk.mono {f : Addr} {fd : FuncData} {ps : List Str} {sp : Sp} {j k : Nat} (F : GnOk P w K mg base j f fd ps sp) (h : j ≤ k) : GnOk P w K mg base k f fd ps sp :=
  ⟨F.len, fun A outer s H args us vs Q E hr => F.run A outer s H args us vs Q E (hr.mono h)⟩
end
end Mi
namespace Mi
open PySem L2
section
variable {X : Cx} {ad : Ad} {W : WX} {pos p cpos apos : Pos} {o e : Expr} {es : List Expr}
def MethM (X : Cx) (id : String) (op : T → List T → Sto → R T) : Prop :=
  ∃ r, MtR X id r ∧ ∀ ad as st H x xs tx ts Q W, Ab X.K ad as st H → Rep X.K ad as H x tx → Reps X.K ad as H xs ts → Post X.K ad (Rep X.K ad) as H Q W (op tx ts st) → r x xs H Q
def tyM (st : Sto) (t : T) : Option String := match t with
  | .str _ => some "str"
  | .int _ => some "int"
  | .dct _ _ => some "dict"
  | t => match lstR st t with
    | some _ => some "list"
    | none => none
theorem Rep.tyV {K : PySem.W.Frag} {as : List Addr} {H : Hp} {st : Sto} {v : V} {t : T} {n : String} (A : Ab K ad as st H) (r : Rep K ad as H v t) (h : tyM st t = some n) : L2.tyV K n v H := by
  unfold tyM at h
  split at h
  · cases h; obtain rfl := r.strI; exact rfl
  · cases h; obtain rfl := r.intI; exact rfl
  · cases h
    cases r with
    | dct _ h _ _ => exact .inr (.inr (.inl ⟨rfl, .inl ⟨_, h⟩⟩))
  · split at h
    · rename_i ts e
      cases h
      obtain ⟨a, xs, rfl, h1, _⟩ := r.lstR A e
      exact .inl ⟨rfl, _, h1⟩
    · cases h
def mMeth (ty : String) (op : T → List T → Sto → R T) (mo : M T) (ma : M (List T)) : M T := fun ρ st => (mo ρ st).bind fun x st1 => if tyM st1 x = some ty then (ma ρ st1).bind fun ts st2 => op x ts st2 else .bad
theorem pm_meth {name : Str} {ty id : String} {op : T → List T → Sto → R T} {mo : M T} {ma : M (List T)} (hm : MethM X id op) (pa : PlainAttrs ty) (slot : Slot ty name id) (hty : typeOf (.builtin id) = pure (.type "method_descriptor"))
    (ho : PM X ad W o mo) (ha : PMA X ad W (e :: es) ma)
    (hbase : attributeBase o name X.env (eval o X.env) = eval o X.env := by rfl)
    (hfew : ((backTo cpos (starEach (e :: es) X.env)).all (fun x => !x.1) && (backToKw cpos (keywordEach [] X.env)).all (fun x => x.1.isSome)
      && decide ((e :: es).length + ([] : List Keyword).length + (if ([] : List Keyword).isEmpty then 0 else 1) < 30)) = true := by rfl)
    (hline : (apos.endLine == cpos.line) = true := by rfl) (hs : starEach (e :: es) X.env = (false, eval e X.env) :: starEach es X.env := by rfl) (hplain : (backTo cpos (starEach es X.env)).any (·.1) = false := by rfl) :
    PM X ad W (.Call (.Attribute o name apos) (e :: es) [] cpos) (mMeth ty op mo ma) := by
  obtain ⟨r, h1, h2⟩ := hm
  refine peW (pe_bm pa slot hty h1 ho ha hbase hfew hline hs hplain) fun σ H Q ⟨hd, ρ, as, st, A, E, q⟩ => ⟨hd, ρ, as, st, A, E, Post.step q fun x st1 as1 H1 vx A1 e1 r1 q1 => ?_⟩
  split at q1
  · exact ⟨r1.tyV A1 (by assumption), hd, ρ, as1, st1, A1, E.ext e1, Post.step q1 fun y st2 as2 H2 vy A2 e2 r2 q2 => h2 _ as2 st2 H2 vx vy x y Q _ A2 (r1.ext e2) r2 q2⟩
  · exact q1.elim
def atS (st : Sto) (t : T) : Option (Nat × List T) := match t with
  | .ref i => match st[i]? with
    | some (.lst ts) => some (i, ts)
    | _ => none
  | _ => none
theorem Rep.atS {K : PySem.W.Frag} {as : List Addr} {H : Hp} {st : Sto} {v : V} {t : T} {i : Nat} {ts : List T} (A : Ab K ad as st H) (r : Rep K ad as H v t) (h : atS st t = some (i, ts)) :
    ∃ a xs, v = .ref a ∧ as[i]? = some a ∧ st[i]? = some (.lst ts) ∧ H a = some (.lst xs) ∧ Reps K ad as H xs ts := by
  unfold Mi.atS at h
  split at h
  · split at h
    · rename_i e
      cases h
      obtain ⟨a, h2, xs, h3, h4⟩ := A.get e
      cases r with
      | ref h5 =>
        rw [h2] at h5; cases h5
        exact ⟨_, _, rfl, h2, e, h3, h4⟩
    · cases h
  · cases h
def fAppend (x : T) (ys : List T) (st : Sto) : R T := match atS st x, ys with
  | some (i, ts), [y] => if ts.length < sizeLine then .ok .non (st.set i (.lst (ts ++ [y]))) else .bad
  | _, _ => .bad
theorem mm_append : MethM X "list.append" fAppend := by
  refine ⟨_, mt_append, fun ad as st H x xs tx ts Q W A r rs q => ?_⟩
  unfold fAppend at q
  split at q
  · split at q
    · rename_i e hz
      obtain ⟨a, vs, rfl, h1, h2, h3, h4⟩ := r.atS A e
      obtain ⟨v, rfl, rv⟩ := rs.one
      obtain ⟨B, ex⟩ := A.putLst h1 h2 h3 (h4.append (.cons rv .nil))
      exact ⟨a, vs, v, rfl, rfl, h3, by rw [h4.length]; exact hz, q.to B ex .non⟩
    · exact q.elim
  · exact q.elim
def rIsiS (K : PySem.W.Frag) : List V → Hp → VK → Prop := fun xs H Q => ∃ (x : V) (tp : Addr) (cs : List V) (t : Value) (us : List Value) (b : Bool), xs = [x, .ref tp] ∧ SqT K H tp cs ∧ Paired ClsV cs us ∧ TyX K H x t ∧ PySem.W.kitAny K t us = some b ∧ Q (.bl b) H
theorem call_isiS : CallR X (.builtin "isinstance") (rIsiS X.K) := by
  intro pins s σ H xs us Q I r h
  obtain ⟨x, tp, cs, t, ws, b, rfl, hT, k, ty, e, q⟩ := h
  obtain ⟨u1, u2, rfl, r1, r2⟩ := vals2 r
  cases (show u2 = Value.ref tp from r2)
  obtain ⟨P, Z, p, hx⟩ := kit_of I r1 ty
  obtain ⟨its, rv, ⟨o, h1, h2, n, h3⟩, _⟩ := I.tuple hT
  have e3 := ClsV.all k rv
  subst e3
  obtain ⟨oc, od, dt, sl⟩ := o
  simp only at h2 h3
  subst h2 h3
  exact PySem.W.kia_tup Z I.kIn p h1 e hx fun tk => ⟨.bl b, H, I.tok tk, rfl, q⟩
def tysOf : List T → Option (List String)
  | [] => some []
  | .ty n :: ts => (tysOf ts).map (n :: ·)
  | _ => none
theorem Reps.tys {K : PySem.W.Frag} {as : List Addr} {H : Hp} : ∀ {xs : List V} {ts : List T} {bs : List String}, Reps K ad as H xs ts → tysOf ts = some bs → Paired ClsV xs (bs.map Value.type)
  | _, _, _, .nil, h => by simp only [tysOf, Option.some.injEq] at h; subst h; exact .nil
  | _, _, _, .cons (.ty b) s, h => by
    simp only [tysOf, Option.map_eq_some_iff] at h
    obtain ⟨bs, h1, rfl⟩ := h
    exact .cons (.ty b) (Reps.tys s h1)
  | _, _, _, .cons .non _, h | _, _, _, .cons (.bl _) _, h | _, _, _, .cons (.str _) _, h | _, _, _, .cons (.byt _) _, h | _, _, _, .cons (.int _) _, h
  | _, _, _, .cons (.tup _ _) _, h | _, _, _, .cons (.lst _ _) _, h | _, _, _, .cons (.frz _ _) _, h | _, _, _, .cons (.dct _ _ _ _) _, h | _, _, _, .cons (.ref _) _, h | _, _, _, .cons (.adr _) _, h | _, _, _, .cons (.ptp _ _) _, h => by simp [tysOf] at h
def isTys (a : String) : List String → Option Bool
  | [] => some false
  | b :: bs => match isTy a b, isTys a bs with
    | some x, some y => some (x || y)
    | _, _ => none
theorem isTys_kit {K : PySem.W.Frag} {a : String} : ∀ {bs : List String} {r : Bool}, isTys a bs = some r → PySem.W.kitAny K (.type a) (bs.map Value.type) = some r
  | [], r, h => by simp only [isTys, Option.some.injEq] at h; subst h; rfl
  | b :: bs, r, h => by
    unfold isTys at h
    split at h
    · rename_i x y e1 e2
      cases h
      refine kitAny_cons (isTy_kit e1) (fun hb => ?_) fun hb => by rw [hb]; rfl
      subst hb
      rw [Bool.false_or]
      exact isTys_kit e2
    · cases h
def fIsiS (xs : List T) (st : Sto) : R T := match xs with
  | [t, .ty n] => match (tyName st t).bind fun a => isTy a n with
    | some r => .ok (.bl r) st
    | none => .bad
  | [t, .tup ts] => match (tyName st t).bind fun a => (tysOf ts).bind fun bs => isTys a bs with
    | some r => .ok (.bl r) st
    | none => .bad
  | _ => .bad
theorem cm_isiS : CallM X (.builtin "isinstance") fIsiS := by
  refine ⟨_, CallR.alt call_isi call_isiS, fun ad as st H xs ts Q W A r q => ?_⟩
  unfold fIsiS at q
  split at q
  · obtain ⟨v, w, rfl, rv, rw⟩ := r.two
    cases rw
    split at q
    · rename_i e
      obtain ⟨a, e1, e2⟩ := Option.bind_eq_some_iff.mp e
      exact .inl ⟨_, _, _, _, _, rfl, .ty _, rv.tyX A e1, isTy_kit e2, Post.at A (.bl _) q⟩
    · exact q.elim
  · obtain ⟨v, w, rfl, rv, rw⟩ := r.two
    obtain ⟨tp, cs, rfl, h1, h2⟩ := rw.tupI
    split at q
    · rename_i e
      obtain ⟨a, e1, e2⟩ := Option.bind_eq_some_iff.mp e
      obtain ⟨bs, e3, e4⟩ := Option.bind_eq_some_iff.mp e2
      exact .inr ⟨_, tp, cs, _, _, _, rfl, h1, h2.tys e3, rv.tyX A e1, isTys_kit e4, Post.at A (.bl _) q⟩
    · exact q.elim
  · exact q.elim

def mDict0 : M T := fun _ st => .ok (.dct [] []) st
theorem pm_dict0 : PM X ad W (.Dict [] [] pos) mDict0 :=
  peW pe_dnewK fun σ H Q ⟨hd, ρ, as, st, A, E, q⟩ p hp => q.to (A.fresh hp) (Ext.fresh hp) (.dct ⟨A.nin hp, A.notHid hp⟩ upd_same rfl .nil)
def opAddS (x y : T) (st : Sto) : R T := match lstD st x, lstD st y with
  | some a, some b => if a.length + b.length ≤ sizeLine then .ok (.ref st.length) (st ++ [.lst (a ++ b)]) else .bad
  | _, _ => .bad
theorem om_addS : OpM X (binaryOp .Add) opAddS := by
  refine ⟨_, op_cat, fun ad as st H x y tx ty Q W A rx ry q => ?_⟩
  unfold opAddS at q
  split at q
  · rename_i h1 h2
    split at q
    · rename_i hz
      obtain ⟨a, xs, e1, h1, r1⟩ := rx.lstD A h1
      obtain ⟨b, ys, e2, h2, r2⟩ := ry.lstD A h2
      refine ⟨a, b, xs, ys, e1, e2, h1, h2, by rw [r1.length, r2.length]; exact hz, fun p hp => ?_⟩
      obtain ⟨B, ex, r⟩ := A.newLst hp (r1.append r2)
      exact q.to B ex r
    · exact q.elim
  · exact q.elim
end
end Mi
namespace Mi
open PySem L2 PySem.Spec PyProof.Rows HT
theorem adjust_rev (n : Nat) : Builtin.Slice.sliceAdjust none none (-1) (n : Int) = ((n : Int) - 1, -1) := by
  unfold Builtin.Slice.sliceAdjust
  simp
theorem places_rev (n : Nat) : Builtin.Slice.slicePlaces ((n : Int) - 1) (-1) (-1) = n := by
  unfold Builtin.Slice.slicePlaces
  have h1 : ¬ ((-1 : Int) > 0) := by omega
  simp only [h1, if_false]
  split
  · have : ((n : Int) - 1 - -1 - 1) / (- -1) = (n : Int) - 1 := by
      rw [show (- -1 : Int) = 1 by decide, Int.ediv_one]; omega
    rw [this]; omega
  · omega
theorem pick_rev (xs : Array Value) : ((List.range xs.size).filterMap fun (k : Nat) => xs[((xs.size : Int) - 1 + (k : Int) * (-1)).toNat]?).toArray = xs.toList.reverse.toArray := by
  have e : ∀ k ∈ List.range xs.size, xs[((xs.size : Int) - 1 + (k : Int) * (-1)).toNat]? = xs.toList.reverse[k]? := fun k hk => by
    have hk := List.mem_range.mp hk
    rw [List.getElem?_reverse (by simpa using hk)]
    have : ((xs.size : Int) - 1 + (k : Int) * (-1)).toNat = xs.size - 1 - k := by omega
    rw [this]
    simp
  have fc : ∀ (l : List Nat) (f g : Nat → Option Value), (∀ k ∈ l, f k = g k) → l.filterMap f = l.filterMap g := fun l f g => by
    induction l with
    | nil => intro _; rfl
    | cons a l ih =>
      intro h
      rw [List.filterMap_cons, List.filterMap_cons, h a (List.mem_cons_self ..), ih fun k hk => h k (List.mem_cons_of_mem _ hk)]
  rw [fc _ _ _ e]
  congr 1
  have : ∀ (l : List Value) (n : Nat), n = l.length → (List.range n).filterMap (fun k => l[k]?) = l := fun l => by
    induction l with
    | nil => rintro _ rfl; rfl
    | cons a l ih =>
      rintro _ rfl
      rw [List.length_cons, List.range_succ_eq_map, List.filterMap_cons]
      simp only [List.getElem?_cons_zero, List.filterMap_map]
      congr 1
      exact ih _ rfl
  exact this _ _ (by simp)
section
variable {prog : Program} {w : World} {A : PySem.Around} {E : Value → Shared → Prop} {s : Shared}
theorem sliceApplied_rev {sl : Addr} {vl vu vs : Value} {n : Nat} {Q : Int × Int × Nat → Shared → Prop} (hs : s.heap.IsSliceOf sl vl vu vs) (pl : IsPart vl none) (pu : IsPart vu none) (ps : IsPart vs (some (-1)))
    (h : Q ((n : Int) - 1, -1, n) s) : wpAny (model prog w) A (Builtin.Slice.sliceApplied (.ref sl) (pure (n : Int))) Q E s := by
  obtain ⟨os, hos, hcs, hds⟩ := id hs
  unfold Builtin.Slice.sliceApplied Builtin.Slice.sliceFields
  refine wpAny_bind (wpAny_bind (wpAny_field hos hds (x := vl) rfl (wpAny_bind (wpAny_field hos hds (x := vu) rfl (wpAny_bind (wpAny_field hos hds (x := vs) rfl (wpAny_pure ?_)))))))
  refine wpAny_bind (slicePart_ ps ?_)
  show wpAny _ _ (if ((-1 : Int) == 0) = true then _ else _) _ _ s
  rw [if_neg (by decide)]
  refine wpAny_bind (slicePart_ pl (wpAny_bind (slicePart_ pu (wpAny_bind (wpAny_pure ?_)))))
  show wpAny _ _ (match Builtin.Slice.sliceAdjust none none (-1) (n : Int) with | (lo, hi) => pure (lo, (-1 : Int), Builtin.Slice.slicePlaces lo hi (-1))) _ _ s
  rw [adjust_rev n]
  show wpAny _ _ (pure ((n : Int) - 1, (-1 : Int), Builtin.Slice.slicePlaces ((n : Int) - 1) (-1) (-1))) _ _ s
  rw [places_rev]
  exact wpAny_pure h
theorem getItem_tuple_rev {t sl : Addr} {items : Array Value} {vl vu vs : Value} {Q : Value → Shared → Prop} (ht : IsTup s.heap t items) (hs : s.heap.IsSliceOf sl vl vu vs) (pl : IsPart vl none) (pu : IsPart vu none) (ps : IsPart vs (some (-1)))
    (h : Q (.ref s.heap.objs.size) { s with heap := s.heap.push { cls := .type "tuple", data := .seq items.toList.reverse.toArray } })
    (hsz : items.size ≤ sizeLine) : wpAny (model prog w) A (getItem (.ref t) (.ref sl)) Q E s := by
  have htake : sizeOk (.seq items.toList.reverse.toArray) := by
    show items.toList.reverse.toArray.size ≤ sizeLine
    rw [List.size_toArray, List.length_reverse, Array.length_toList]
    exact hsz
  obtain ⟨os, hos, hcs, hds⟩ := id hs
  have hTs : s.TypeIs (.ref sl) "slice" := ⟨os, hos, hcs⟩
  unfold getItem
  try with_reducible refine wpAny_holding ?_
  first | refine wpAny_bind (wpAny_pure ?_) | skip
  refine wpAny_bind (wpAny_sequenceKey ht.typeIs (by decide) ?_)
  refine wpAny_bind (wpAny_callSpecial?_slot (name := Str.ofString "__getitem__") ht.typeIs PyProof.Rows.slot_tuple_getitem
    (wpAny_call_entry PyProof.Rows.slot_tuple_getitem ht.typeIs entry_tuple_getitem ?_ (args_tuple_getitem _ _)))
  show wpAny _ _ (Builtin.Tuple.tupleItemsOf (.ref t) >>= _) _ _ s
  refine wpAny_bind (tupleItemsOf_ ht ?_)
  refine wpAny_bind (wpAny_typeOf hTs ?_)
  rw [if_pos (by decide)]
  refine wpAny_bind (sliceApplied_rev hs pl pu ps ?_)
  have hno : ¬ ((((items.size : Int) - 1) == 0 && (-1 : Int) == 1 && items.size == items.size) = true) := by
    intro q
    rw [Bool.and_eq_true, Bool.and_eq_true] at q
    exact absurd (eq_of_beq q.1.2) (by decide)
  show wpAny _ _ (if (((items.size : Int) - 1) == 0 && (-1 : Int) == 1 && items.size == items.size) = true then _ else _) _ _ s
  rw [if_neg hno, pick_rev]
  first
    | exact wpAny_bind (m := Builtin.Tuple.tupleExact _) (wpAny_newObj_type (wpAny_pure ⟨_, rfl, wpAny_pure h⟩) htake)
    | exact wpAny_bind (m := Builtin.Tuple.tupleExact _) (wpAny_newObj_type (wpAny_bind (wpAny_pure (wpAny_pure ⟨_, rfl, wpAny_pure h⟩))) htake)
    | exact wpAny_bind (wpAny_bind (m := Builtin.Tuple.tupleExact _) (wpAny_newObj_type (wpAny_pure (wpAny_pure ⟨_, rfl, wpAny_pure h⟩)) htake))
    | exact wpAny_bind (wpAny_bind (m := Builtin.Tuple.tupleExact _) (wpAny_newObj_type (wpAny_pure ⟨_, rfl, wpAny_pure h⟩) htake))
end
def tRevA (K : PySem.W.Frag) (te : TE) : TE := fun σ H Q => te σ H fun x H1 => ∃ a xs, x = .ref a ∧ ((SqT K H1 a xs ∧ ∀ p, H1 p = none → Q (.ref p) (upd H1 p (.tup xs.reverse))) ∨ (SqL K H1 a xs ∧ ∀ p, H1 p = none → Q (.ref p) (upd H1 p (.lst xs.reverse))))
section
variable {X : Cx} {ad : Ad} {W : WX} {pos p1 p2 p3 : Pos} {e : Expr}
theorem pe_revA {te : TE} {k : Nat} (he : PE X e te) : PE X (.Subscript e (.Slice none none (some (.UnaryOp .USub (.Constant (.int 1) k p1) p2)) p3) pos) (tRevA X.K te) := by
  refine ⟨fun pins s σ H Q I h => ?_⟩
  refine Subscript_ (thn (he.run pins s σ H _ I h) fun v s1 ⟨x, H1, I1, r1, q1⟩ => ?_)
  obtain ⟨a, xs, ex, q⟩ := q1
  subst ex
  cases r1
  have hst : PO X (some (.UnaryOp .USub (.Constant (.int 1) k p1) p2)) (tPart (tUn (rU fun i => .int (-i)) (tC (.int 1)))) := po_some (pe_un un_neg pe_int)
  refine wpAny_Slice (thn (po_none.run pins s1 σ H1 (fun o H2 => o = none ∧ H2 = H1) I1 ⟨rfl, rfl⟩) fun vl s2 ⟨l, H2, I2, pl, el, e2⟩ => ?_)
  subst el e2
  refine thn (po_none.run pins s2 σ H2 (fun o H3 => o = none ∧ H3 = H2) I2 ⟨rfl, rfl⟩) fun vu s3 ⟨u, H3, I3, pu, eu, e3⟩ => ?_
  subst eu e3
  refine thn (hst.run pins s3 σ H3 (fun o H4 => o = some (-1) ∧ H4 = H3) I3 ⟨1, rfl, -1, rfl, rfl, rfl⟩) fun vs s4 ⟨o, H4, I4, ps, eo, e4⟩ => ?_
  subst eo e4
  have I5 : Inv X pins σ H4 { s4 with heap := s4.heap.push { cls := .type "slice", data := .fields #[vl, vu, vs] } } := I4.kept (t' := s4.toks) fun b ob q => Heap.get?_push_of_some _ q
  show wpAny (model X.prog X.w) X.A (subscriptTail e (.Slice none none (some (.UnaryOp .USub (.Constant (.int 1) k p1) p2)) p3) (.ref a) (.ref s4.heap.objs.size)) (EP X pins σ Q) X.xe { s4 with heap := s4.heap.push { cls := .type "slice", data := .fields #[vl, vu, vs] } }
  rcases q with ⟨hx, q⟩ | ⟨hx, q⟩
  · obtain ⟨its, r, ht, hz⟩ := I5.tuple hx
    have hlen := r.length
    refine tail_any (ops := [.ref a, .ref s4.heap.objs.size]) ht.typeIs (PyProof.Rows.slot_tuple_getitem.lookup) ?_ (by with_unfolding_all rfl)
    refine getItem_tuple_rev ht (Heap.IsSliceOf.new _ vl vu vs) pl pu ps ?_ (by rw [List.size_toArray]; omega)
    refine ⟨.ref _, _, I5.laid (t' := s4.toks) (o := .tup xs.reverse) (fun b ob q => Heap.get?_push_of_some _ q) (Nat.le_refl _) ?_, rfl, q _ (I5.hok.fresh (Nat.le_refl _))⟩
    exact ⟨by rw [List.length_reverse]; exact hz, _, r.reverse, IsTup.new _ _⟩
  · obtain ⟨its, r, ht, hz⟩ := I5.list hx
    have hlen := r.length
    refine tail_any (ops := [.ref a, .ref s4.heap.objs.size]) ht.isList.typeIs (PySem.slot_list_getitem.lookup) ?_ (by with_unfolding_all rfl)
    refine wpAny_getItem_list_slice ht.isList (Heap.IsSliceOf.new _ vl vu vs) pl pu ps (by decide) ?_ (by rw [List.size_toArray]; omega)
    rw [PySem.W.krv_pick]
    refine ⟨.ref _, _, I5.laid (t' := s4.toks) (o := .lst xs.reverse) (fun b ob q => Heap.get?_push_of_some _ q) (Nat.le_refl _) ?_, rfl, q _ (I5.hok.fresh (Nat.le_refl _))⟩
    exact ⟨by rw [List.length_reverse]; exact hz, _, 0, r.reverse, Heap.get?_push_size _ rfl⟩
def opRev (x : T) (st : Sto) : R T := match x with
  | .tup ts => .ok (.tup ts.reverse) st
  | x => match lstR st x with
    | some ts => .ok (.lst ts.reverse) st
    | none => .bad
theorem pm_rev {k : Nat} {m : M T} (h : PM X ad W e m) : PM X ad W (.Subscript e (.Slice none none (some (.UnaryOp .USub (.Constant (.int 1) k p1) p2)) p3) pos) (mUn opRev m) :=
  peW (pe_revA h) fun σ H Q ⟨hd, ρ, as, st, A, E, q⟩ => ⟨hd, ρ, as, st, A, E, Post.step q fun x st1 as1 H1 vx A1 e1 r1 q1 => by
    unfold opRev at q1
    split at q1
    · obtain ⟨a, xs, rfl, h1, h2⟩ := r1.tupI
      exact ⟨a, xs, rfl, .inl ⟨h1, fun p hp => post_newTup A1 hp h2.reverse q1⟩⟩
    · split at q1
      · rename_i ts ee
        obtain ⟨a, xs, rfl, h1, h2⟩ := r1.lstR A1 ee
        exact ⟨a, xs, rfl, .inr ⟨h1, fun p hp => post_newLst A1 hp h2.reverse q1⟩⟩
      · exact q1.elim⟩
end
end Mi
namespace Mi
open PySem L2
def mCall (n : Nat) (F : List T → Sto → R T) (m : M (List T)) : M T := mApp (fun ts st => if ts.length = n then F ts st else .bad) m
section
variable {X : Cx} {W : WX} {k : Nat}
theorem Sit.u64 (S : Sit X W k) : X.A.units + 64 < cLine := S.rm.units
theorem Sit.u65 (S : Sit X W k) : X.A.units + 65 < cLine := by
  have := S.rm.un
  omega
theorem pm_ty {ad : Ad} {x : Str} {n : String} {pos : Pos} (hg : Gl X x) (hm : X.mg x = none) (hv : bootBuiltins x = some (.type n)) (hn : x ≠ "__name__" := by decide) (hd : (x == ("__debug__" : Str)) = false := by decide) : PM X ad W (.Name x pos) (mC (.ty n)) :=
  pm_c (pe_bltn (v := .ty n) hg hm hv rfl hn hd) fun _ _ _ => .ty n
mutual
inductive Cst (K : PySem.W.Frag) : Value → T → Prop
  | non : Cst K .none .non
  | bl (b : Bool) : Cst K (.bool b) (.bl b)
  | int (i : Int) (t : Tok) : Cst K (.int i t) (.int i)
  | str (i : Str) (t : Tok) : Cst K (.str i t) (.str i)
  | tup {a : Addr} {d : Option Addr} {its : Array Value} {n : Nat} {s : Array (Option Value)} {ts : List T} : K.lookup a = some ⟨.type "tuple", d, .seq its n, s⟩ → its.size ≤ 1000 → Csts K its.toList ts → Cst K (.ref a) (.tup ts)
inductive Csts (K : PySem.W.Frag) : List Value → List T → Prop
  | nil : Csts K [] []
  | cons {v : Value} {vs : List Value} {t : T} {ts : List T} : Cst K v t → Csts K vs ts → Csts K (v :: vs) (t :: ts)
end
mutual
theorem Cst.rep {K : PySem.W.Frag} : ∀ {u : Value} {t : T}, Cst K u t → ∃ v, RelV v u ∧ ∀ ad as H, Rep K ad as H v t
  | _, _, .non => ⟨.non, rfl, fun _ _ _ => .non⟩
  | _, _, .bl b => ⟨.bl b, rfl, fun _ _ _ => .bl b⟩
  | _, _, .int i t => ⟨.int i, ⟨t, rfl⟩, fun _ _ _ => .int i⟩
  | _, _, .str i t => ⟨.str i, ⟨t, rfl⟩, fun _ _ _ => .str i⟩
  | _, _, .tup (a := a) (its := its) (n := n) l z h =>
    have ⟨vs, h1, h2⟩ := Csts.reps h
    ⟨.ref a, rfl, fun ad as H => .tup (.inr (.inr ⟨_, its, n, l, rfl, rfl, Nat.le_of_lt (small1000 z), h1⟩)) (h2 ad as H)⟩
theorem Csts.reps {K : PySem.W.Frag} : ∀ {u : List Value} {t : List T}, Csts K u t → ∃ v, Vals v u ∧ ∀ ad as H, Reps K ad as H v t
  | _, _, .nil => ⟨[], .nil, fun _ _ _ => .nil⟩
  | _, _, .cons a b =>
    have ⟨v, h1, h2⟩ := Cst.rep a
    have ⟨vs, h3, h4⟩ := Csts.reps b
    ⟨v :: vs, .cons h1 h3, fun ad as H => .cons (h2 ad as H) (h4 ad as H)⟩
end
def CstM (K : PySem.W.Frag) (mg : Str → Option Value) (x : Str) (t : T) : Prop := ∃ u, mg x = some u ∧ Cst K u t
theorem CstM.pm {ad : Ad} {x : Str} {t : T} {pos : Pos} (h : CstM X.K X.mg x t) (hg : Gl X x) (hd : (x == ("__debug__" : Str)) = false := by decide) : PM X ad W (.Name x pos) (mC t) := by
  obtain ⟨u, h1, h2⟩ := h
  obtain ⟨v, h3, h4⟩ := h2.rep
  exact pm_c (pe_glob hg h1 h3 hd) h4
end
end Mi
namespace Mi
open PySem L2
def Ok {α : Type} (r : R α) (Q : α → Sto → Prop) (E : Exn → Sto → Prop) : Prop := match r with
  | .ok a st => Q a st
  | .exc e st => E e st
  | .bad => False
abbrev noE : Exn → Sto → Prop := fun _ _ => False
def OkS (r : RS) (N : Sl → Sto → Prop) (Rt : T → Sto → Prop) (B C : Sl → Sto → Prop) (E : Exn → Sl → Sto → Prop) : Prop := match r with
  | .nx ρ st => N ρ st
  | .rt t st => Rt t st
  | .bk ρ st => B ρ st
  | .ct ρ st => C ρ st
  | .ex e ρ st => E e ρ st
  | .bad => False
section
variable {α β : Type} {Q Q' : α → Sto → Prop} {E E' : Exn → Sto → Prop}
theorem Ok.imp {r : R α} (h : Ok r Q E) (hq : ∀ a st, Q a st → Q' a st) (he : ∀ e st, E e st → E' e st) : Ok r Q' E' := by
  cases r with
  | ok a st => exact hq _ _ h
  | exc e st => exact he _ _ h
  | bad => exact h
theorem Ok.eq {r : R α} {a : α} {st : Sto} (h : Ok r (fun b s => b = a ∧ s = st) noE) : r = .ok a st := by
  cases r with
  | ok b s => obtain ⟨h1, h2⟩ := h; rw [h1, h2]
  | exc e st => exact h.elim
  | bad => exact h.elim
@[simp] theorem Ok_ok (a : α) (st : Sto) : Ok (.ok a st) Q E ↔ Q a st := Iff.rfl
@[simp] theorem Ok_exc (e : Exn) (st : Sto) : Ok (.exc e st : R α) Q E ↔ E e st := Iff.rfl
@[simp] theorem Ok_bad : Ok (.bad : R α) Q E ↔ False := Iff.rfl
@[simp] theorem Ok_bind {Q : β → Sto → Prop} (r : R α) (f : α → Sto → R β) : Ok (r.bind f) Q E ↔ Ok r (fun a st => Ok (f a st) Q E) E := by cases r <;> rfl
@[simp] theorem Ok_iteB {p : Prop} [Decidable p] (a : R α) : Ok (if p then a else .bad) Q E ↔ p ∧ Ok a Q E := by
  split
  · exact ⟨fun h => ⟨by assumption, h⟩, fun h => h.2⟩
  · exact ⟨fun h => h.elim, fun h => absurd h.1 (by assumption)⟩
end
section
variable {Q : T → Sto → Prop} {E : Exn → Sto → Prop} {ρ : Sl} {y0 : Option T} {st : Sto}
@[simp] theorem Ok_var (i : Nat) : Ok (mVar i (y0 :: ρ) st) Q E ↔ ∃ t, (y0 :: ρ)[i]? = some (some t) ∧ Q t st := by
  unfold mVar
  split
  · rename_i t e
    constructor
    · exact fun h => ⟨t, e, h⟩
    · rintro ⟨u, h1, h2⟩
      rw [e] at h1; cases h1; exact h2
  · rename_i h
    constructor
    · exact fun h => h.elim
    · rintro ⟨u, h1, h2⟩
      exact absurd h1 (h u)
@[simp] theorem Ok_C (t : T) : Ok (mC t (y0 :: ρ) st) Q E ↔ Q t st := Iff.rfl
@[simp] theorem Ok_bin (op : T → T → Sto → R T) (a b : M T) : Ok (mBin op a b (y0 :: ρ) st) Q E ↔ Ok (a (y0 :: ρ) st) (fun x st1 => Ok (b (y0 :: ρ) st1) (fun y st2 => Ok (op x y st2) Q E) E) E := by unfold mBin; simp only [Ok_bind]
@[simp] theorem Ok_un (op : T → Sto → R T) (a : M T) : Ok (mUn op a (y0 :: ρ) st) Q E ↔ Ok (a (y0 :: ρ) st) (fun x st1 => Ok (op x st1) Q E) E := by unfold mUn; simp only [Ok_bind]
@[simp] theorem Ok_app (op : List T → Sto → R T) (a : M (List T)) : Ok (mApp op a (y0 :: ρ) st) Q E ↔ Ok (a (y0 :: ρ) st) (fun x st1 => Ok (op x st1) Q E) E := by unfold mApp; simp only [Ok_bind]
@[simp] theorem Ok_call (n : Nat) (F : List T → Sto → R T) (a : M (List T)) : Ok (mCall n F a (y0 :: ρ) st) Q E ↔ Ok (a (y0 :: ρ) st) (fun x st1 => x.length = n ∧ Ok (F x st1) Q E) E := by unfold mCall; simp only [Ok_app, Ok_iteB]
@[simp] theorem Ok_nil {Q : List T → Sto → Prop} : Ok (mNil (y0 :: ρ) st) Q E ↔ Q [] st := Iff.rfl
@[simp] theorem Ok_cons {Q : List T → Sto → Prop} (a : M T) (b : M (List T)) : Ok (mCons a b (y0 :: ρ) st) Q E ↔ Ok (a (y0 :: ρ) st) (fun x st1 => Ok (b (y0 :: ρ) st1) (fun y st2 => Q (x :: y) st2) E) E := by unfold mCons; simp only [Ok_bind, Ok_ok]
@[simp] theorem Ok_tup (a : M (List T)) : Ok (mTup a (y0 :: ρ) st) Q E ↔ Ok (a (y0 :: ρ) st) (fun x st1 => x.length ≤ sizeLine ∧ Q (.tup x) st1) E := by unfold mTup; simp only [Ok_bind, Ok_ok, Ok_iteB]
@[simp] theorem Ok_lst (a : M (List T)) : Ok (mLst a (y0 :: ρ) st) Q E ↔ Ok (a (y0 :: ρ) st) (fun x st1 => x.length ≤ sizeLine ∧ Q (.lst x) st1) E := by unfold mLst; simp only [Ok_bind, Ok_ok, Ok_iteB]
@[simp] theorem Ok_lstS (a : M (List T)) : Ok (mLstS a (y0 :: ρ) st) Q E ↔ Ok (a (y0 :: ρ) st) (fun x st1 => x.length ≤ sizeLine ∧ Q (.ref st1.length) (st1 ++ [.lst x])) E := by unfold mLstS; simp only [Ok_bind, Ok_ok, Ok_iteB]
@[simp] theorem Ok_dict0 : Ok (mDict0 (y0 :: ρ) st) Q E ↔ Q (.dct [] []) st := Iff.rfl
@[simp] theorem Ok_and (a b : M T) : Ok (mAnd a b (y0 :: ρ) st) Q E ↔ Ok (a (y0 :: ρ) st) (fun x st1 => ∃ c, x = .bl c ∧ (if c = true then Ok (b (y0 :: ρ) st1) Q E else Q (.bl false) st1)) E := by
  unfold mAnd
  rw [Ok_bind]
  refine iff_of_eq (congrArg (fun f => Ok (a (y0 :: ρ) st) f E) ?_)
  funext x st1
  cases x <;> simp
  rename_i c
  cases c <;> simp
@[simp] theorem Ok_not (a : M T) : Ok (mNot a (y0 :: ρ) st) Q E ↔ Ok (a (y0 :: ρ) st) (fun x st1 => ∃ c, x = .bl c ∧ Q (.bl (!c)) st1) E := by
  unfold mNot
  rw [Ok_bind]
  refine iff_of_eq (congrArg (fun f => Ok (a (y0 :: ρ) st) f E) ?_)
  funext x st1
  cases x <;> simp
@[simp] theorem Ok_test {Q : Bool → Sto → Prop} (a : M T) : Ok (mTest a (y0 :: ρ) st) Q E ↔ Ok (a (y0 :: ρ) st) (fun x st1 => ∃ c, x = .bl c ∧ Q c st1) E := by
  unfold mTest rTest
  rw [Ok_bind]
  refine iff_of_eq (congrArg (fun f => Ok (a (y0 :: ρ) st) f E) ?_)
  funext x st1
  cases x <;> simp
@[simp] theorem Ok_tand {Q : Bool → Sto → Prop} (a b : M Bool) : Ok (mTAnd a b (y0 :: ρ) st) Q E ↔ Ok (a (y0 :: ρ) st) (fun x st1 => if x = true then Ok (b (y0 :: ρ) st1) Q E else Q false st1) E := by
  unfold mTAnd
  rw [Ok_bind]
  refine iff_of_eq (congrArg (fun f => Ok (a (y0 :: ρ) st) f E) ?_)
  funext x st1
  cases x <;> simp
@[simp] theorem Ok_tor {Q : Bool → Sto → Prop} (a b : M Bool) : Ok (mTOr a b (y0 :: ρ) st) Q E ↔ Ok (a (y0 :: ρ) st) (fun x st1 => if x = true then Q true st1 else Ok (b (y0 :: ρ) st1) Q E) E := by
  unfold mTOr
  rw [Ok_bind]
  refine iff_of_eq (congrArg (fun f => Ok (a (y0 :: ρ) st) f E) ?_)
  funext x st1
  cases x <;> simp
@[simp] theorem Ok_tnot {Q : Bool → Sto → Prop} (a : M Bool) : Ok (mTNot a (y0 :: ρ) st) Q E ↔ Ok (a (y0 :: ρ) st) (fun x st1 => Q (!x) st1) E := by unfold mTNot; simp only [Ok_bind, Ok_ok]
@[simp] theorem Ok_iteM (c : M Bool) (a b : M T) : Ok (mIte c a b (y0 :: ρ) st) Q E ↔ Ok (c (y0 :: ρ) st) (fun x st1 => if x = true then Ok (a (y0 :: ρ) st1) Q E else Ok (b (y0 :: ρ) st1) Q E) E := by
  unfold mIte
  rw [Ok_bind]
  refine iff_of_eq (congrArg (fun f => Ok (c (y0 :: ρ) st) f E) ?_)
  funext x st1
  cases x <;> simp
@[simp] theorem Ok_chain (op op' : T → T → Sto → R T) (a b c : M T) : Ok (mChain op op' a b c (y0 :: ρ) st) Q E ↔ Ok (a (y0 :: ρ) st) (fun x st1 => Ok (b (y0 :: ρ) st1) (fun y st2 => Ok (op x y st2) (fun r st3 => ∃ d, r = .bl d ∧ (if d = true then Ok (c (y0 :: ρ) st3) (fun z st4 => Ok (op' y z st4) Q E) E else Q (.bl false) st3)) E) E) E := by
  unfold mChain
  simp only [Ok_bind]
  refine iff_of_eq (congrArg (fun f => Ok (a (y0 :: ρ) st) f E) ?_)
  funext x st1
  refine congrArg (fun f => Ok (b (y0 :: ρ) st1) f E) ?_
  funext y st2
  refine congrArg (fun f => Ok (op x y st2) f E) ?_
  funext r st3
  cases r <;> simp
  rename_i d
  cases d <;> simp
@[simp] theorem Ok_part {Q : Option Int → Sto → Prop} (a : M T) : Ok (mPart a (y0 :: ρ) st) Q E ↔ Ok (a (y0 :: ρ) st) (fun x st1 => ∃ i, x = .int i ∧ Q (some i) st1) E := by
  unfold mPart
  rw [Ok_bind]
  refine iff_of_eq (congrArg (fun f => Ok (a (y0 :: ρ) st) f E) ?_)
  funext x st1
  cases x <;> simp
@[simp] theorem Ok_noPart {Q : Option Int → Sto → Prop} : Ok (mNoPart (y0 :: ρ) st) Q E ↔ Q none st := Iff.rfl
@[simp] theorem Ok_sl (a : M T) (l u : M (Option Int)) : Ok (mSl a l u (y0 :: ρ) st) Q E ↔ Ok (a (y0 :: ρ) st) (fun x st1 => Ok (l (y0 :: ρ) st1) (fun lo st2 => Ok (u (y0 :: ρ) st2) (fun hi st3 => Ok (opSl x lo hi st3) Q E) E) E) E := by unfold mSl; simp only [Ok_bind]
@[simp] theorem Ok_meth (ty : String) (op : T → List T → Sto → R T) (o : M T) (a : M (List T)) : Ok (mMeth ty op o a (y0 :: ρ) st) Q E ↔ Ok (o (y0 :: ρ) st) (fun x st1 => tyM st1 x = some ty ∧ Ok (a (y0 :: ρ) st1) (fun ts st2 => Ok (op x ts st2) Q E) E) E := by unfold mMeth; simp only [Ok_bind, Ok_iteB]
@[simp] theorem Ok_opII (f : Int → Int → Option T) (i j : Int) : Ok (opII f (.int i) (.int j) st) Q E ↔ ∃ t, f i j = some t ∧ Q t st := by
  show Ok (match f i j with | some t => .ok t st | none => .bad) Q E ↔ _
  cases f i j <;> simp
@[simp] theorem fFdiv_some (i j : Int) (t : T) : fFdiv i j = some t ↔ (0 < j ∧ j.natAbs.log2 < 9000) ∧ .int (i / j) = t := by unfold fFdiv; split <;> simp_all <;> omega
@[simp] theorem fMod_some (i j : Int) (t : T) : fMod i j = some t ↔ 0 < j ∧ .int (i % j) = t := by unfold fMod; split <;> simp_all <;> omega
@[simp] theorem fPow_some (i j : Int) (t : T) : fPow i j = some t ↔ (0 ≤ j ∧ j ≤ 1000000 ∧ i.natAbs < 18446744073709551616) ∧ .int (i ^ j.toNat) = t := by unfold fPow; split <;> simp_all <;> omega
@[simp] theorem Ok_addI (i j : Int) : Ok (opAdd (.int i) (.int j) st) Q E ↔ Q (.int (i + j)) st := Iff.rfl
@[simp] theorem Ok_addT (i j : List T) : Ok (opAdd (.tup i) (.tup j) st) Q E ↔ i.length + j.length ≤ sizeLine ∧ Q (.tup (i ++ j)) st := by show Ok (if _ then _ else _) Q E ↔ _; simp only [Ok_iteB, Ok_ok]
@[simp] theorem Ok_addL (i j : List T) : Ok (opAdd (.lst i) (.lst j) st) Q E ↔ i.length + j.length ≤ sizeLine ∧ Q (.lst (i ++ j)) st := by show Ok (if _ then _ else _) Q E ↔ _; simp only [Ok_iteB, Ok_ok]
@[simp] theorem Ok_addStr (i j : Str) : Ok (opAdd (.str i) (.str j) st) Q E ↔ i.length + j.length ≤ sizeLine ∧ Q (.str (i ++ j)) st := by show Ok (if _ then _ else _) Q E ↔ _; simp only [Ok_iteB, Ok_ok]
@[simp] theorem Ok_mulI (i j : Int) : Ok (opMul (.int i) (.int j) st) Q E ↔ i.natAbs.log2 + j.natAbs.log2 < 1000000 ∧ Q (.int (i * j)) st := by show Ok (if _ then _ else _) Q E ↔ _; simp only [Ok_iteB, Ok_ok]
@[simp] theorem Ok_neg (i : Int) : Ok (opNeg (.int i) st) Q E ↔ Q (.int (-i)) st := Iff.rfl
@[simp] theorem now_non : now st .non = .non := rfl
@[simp] theorem now_bl (b : Bool) : now st (.bl b) = .bl b := rfl
@[simp] theorem now_int (b : Int) : now st (.int b) = .int b := rfl
@[simp] theorem now_strS (b : Str) : now st (.str b) = .str b := rfl
@[simp] theorem now_tup (b : List T) : now st (.tup b) = .tup b := rfl
@[simp] theorem now_lst (b : List T) : now st (.lst b) = .lst b := rfl
@[simp] theorem shaped_str (s : Str) : shaped (.str s) = PyData.strOk s := by unfold shaped T.pd; simp [SeqAt.shaped, PyData.canLay0, PyData.depth]
theorem Ok_eqB {neg : Bool} {x y : T} (hx : shaped (now st x) = true) (hy : shaped (now st y) = true) : Ok (opEqB neg x y st) Q E ↔ Q (.bl (if neg then !T.eqv (now st x) (now st y) else T.eqv (now st x) (now st y))) st := by
  unfold opEqB
  split
  · rename_i a b h1 h2
    rw [h1, h2]; rfl
  · rename_i a b h1 h2
    rw [h1] at hx; cases hx
  · rw [hx, hy]; rfl
@[simp] theorem Ok_eq {x y : T} (hx : shaped (now st x) = true) (hy : shaped (now st y) = true) : Ok (opEqB false x y st) Q E ↔ Q (.bl (T.eqv (now st x) (now st y))) st := Ok_eqB hx hy
@[simp] theorem Ok_ne {x y : T} (hx : shaped (now st x) = true) (hy : shaped (now st y) = true) : Ok (opEqB true x y st) Q E ↔ Q (.bl (!T.eqv (now st x) (now st y))) st := Ok_eqB hx hy
@[simp] theorem shaped_non : shaped .non = true := by decide
@[simp] theorem shaped_bl (b : Bool) : shaped (.bl b) = true := by cases b <;> decide
@[simp] theorem shaped_int (b : Int) : shaped (.int b) = true := by unfold shaped T.pd; simp [SeqAt.shaped, PyData.canLay0, PyData.depth]
@[simp] theorem eqv_int (i j : Int) : T.eqv (.int i) (.int j) = (i == j) := by simp [T.eqv]
@[simp] theorem Ok_ixT (ts : List T) (i : Int) : Ok (opIx (.tup ts) (.int i) st) Q E ↔ ∃ t, atI ts i = some t ∧ Q t st := by
  show Ok (atT ts i st) Q E ↔ _
  unfold atT
  cases atI ts i <;> simp
theorem Ok_ixL {x : T} {ts : List T} (i : Int) (h : lstR st x = some ts) : Ok (opIx x (.int i) st) Q E ↔ ∃ t, atI ts i = some t ∧ Q t st := by
  have e : opIx x (.int i) st = atT ts i st := by
    unfold opIx
    cases x <;> simp_all [lstR]
  rw [e]
  unfold atT
  cases atI ts i <;> simp
@[simp] theorem Ok_rng1 {Q : Wk → Sto → Prop} (m : M (List T)) : Ok (mRng itRng1 m (y0 :: ρ) st) Q E ↔ Ok (m (y0 :: ρ) st) (fun ts st1 => ∃ j, ts = [.int j] ∧ (-(2 ^ 62) ≤ j ∧ j < 2 ^ 62) ∧ Q (.seq (rgT 0 j.toNat)) st1) E := by
  unfold mRng
  rw [Ok_bind]
  refine iff_of_eq (congrArg (fun f => Ok (m (y0 :: ρ) st) f E) ?_)
  funext ts st1
  unfold itRng1
  split
  · simp
  · rename_i h
    simp only [Ok_bad, eq_iff_iff, false_iff]
    rintro ⟨j, e, _⟩
    exact h j e
@[simp] theorem Ok_it {Q : Wk → Sto → Prop} (m : M T) : Ok (mIt m (y0 :: ρ) st) Q E ↔ Ok (m (y0 :: ρ) st) (fun x st1 => Ok (itSeq x st1) Q E) E := by unfold mIt; simp only [Ok_bind]
@[simp] theorem Ok_itT {Q : Wk → Sto → Prop} (ts : List T) : Ok (itSeq (.tup ts) st) Q E ↔ Q (.seq ts) st := Iff.rfl
@[simp] theorem Ok_itL {Q : Wk → Sto → Prop} (ts : List T) : Ok (itSeq (.lst ts) st) Q E ↔ Q (.seq ts) st := Iff.rfl
@[simp] theorem Ok_itF {Q : Wk → Sto → Prop} (ts : List T) : Ok (itSeq (.frz ts) st) Q E ↔ Q (.seq ts) st := Iff.rfl
end
def two (ts : List T) (f : T → T → Prop) : Prop := ∃ t u, ts = [t, u] ∧ f t u
@[simp] theorem two_mk (t u : T) (f : T → T → Prop) : two [t, u] f ↔ f t u := ⟨fun ⟨_, _, e, h⟩ => by cases e; exact h, fun h => ⟨t, u, rfl, h⟩⟩
section
variable {N N' : Sl → Sto → Prop} {Rt Rt' : T → Sto → Prop} {B B' C C' : Sl → Sto → Prop} {E E' : Exn → Sl → Sto → Prop} {ρ : Sl} {y0 : Option T} {st : Sto}
theorem OkS.imp {r : RS} (h : OkS r N Rt B C E) (h1 : ∀ ρ st, N ρ st → N' ρ st) (h2 : ∀ t st, Rt t st → Rt' t st) (h3 : ∀ ρ st, B ρ st → B' ρ st) (h4 : ∀ ρ st, C ρ st → C' ρ st) (h5 : ∀ e ρ st, E e ρ st → E' e ρ st) : OkS r N' Rt' B' C' E' := by
  cases r with
  | nx ρ st => exact h1 _ _ h
  | rt t st => exact h2 _ _ h
  | bk ρ st => exact h3 _ _ h
  | ct ρ st => exact h4 _ _ h
  | ex e ρ st => exact h5 _ _ _ h
  | bad => exact h
theorem OkS_of {α : Type} (r : R α) (f : α → Sto → RS) : OkS (RS.of r ρ f) N Rt B C E ↔ Ok r (fun a st => OkS (f a st) N Rt B C E) (fun e st => E e ρ st) := by cases r <;> rfl
@[simp] theorem OkS_nil : OkS (sNil (y0 :: ρ) st) N Rt B C E ↔ N (y0 :: ρ) st := Iff.rfl
@[simp] theorem OkS_cons (m r : SM) : OkS (sCons m r (y0 :: ρ) st) N Rt B C E ↔ OkS (m (y0 :: ρ) st) (fun ρ1 st1 => OkS (r ρ1 st1) N Rt B C E) Rt B C E := by
  unfold sCons RS.seq
  cases m (y0 :: ρ) st <;> rfl
@[simp] theorem OkS_ret (m : M T) : OkS (sRet m (y0 :: ρ) st) N Rt B C E ↔ Ok (m (y0 :: ρ) st) Rt (fun e st => E e (y0 :: ρ) st) := by
  unfold sRet
  rw [OkS_of]
  rfl
@[simp] theorem OkS_expr (m : M T) : OkS (sExpr m (y0 :: ρ) st) N Rt B C E ↔ Ok (m (y0 :: ρ) st) (fun _ st1 => N (y0 :: ρ) st1) (fun e st => E e (y0 :: ρ) st) := by
  unfold sExpr
  rw [OkS_of]
  rfl
@[simp] theorem OkS_if (c : M Bool) (a b : SM) : OkS (sIf c a b (y0 :: ρ) st) N Rt B C E ↔ Ok (c (y0 :: ρ) st) (fun x st1 => if x = true then OkS (a (y0 :: ρ) st1) N Rt B C E else OkS (b (y0 :: ρ) st1) N Rt B C E) (fun e st => E e (y0 :: ρ) st) := by
  unfold sIf
  rw [OkS_of]
  refine iff_of_eq (congrArg (fun f => Ok (c (y0 :: ρ) st) f _) ?_)
  funext x st1
  cases x <;> simp
@[simp] theorem OkS_asg (m : M T) (g : GM) : OkS (sAsg m g (y0 :: ρ) st) N Rt B C E ↔ Ok (m (y0 :: ρ) st) (fun t st1 => Ok (g t (y0 :: ρ) st1) N noE) (fun e st => E e (y0 :: ρ) st) := by
  unfold sAsg
  rw [OkS_of]
  refine iff_of_eq (congrArg (fun f => Ok (m (y0 :: ρ) st) f _) ?_)
  funext x st1
  cases g x (y0 :: ρ) st1 <;> rfl
@[simp] theorem OkS_par (i j : Nat) (m : M (List T)) : OkS (sPar i j m (y0 :: ρ) st) N Rt B C E ↔ Ok (m (y0 :: ρ) st) (fun ts st1 => two ts fun t u => N (((y0 :: ρ).set i (some t)).set j (some u)) st1) (fun e st => E e (y0 :: ρ) st) := by
  unfold sPar
  rw [OkS_of]
  refine iff_of_eq (congrArg (fun f => Ok (m (y0 :: ρ) st) f _) ?_)
  funext ts st1
  refine propext ?_
  split
  · rename_i t u
    constructor
    · exact fun h => ⟨t, u, rfl, h⟩
    · rintro ⟨a, b, e, h⟩
      cases e; exact h
  · rename_i h
    constructor
    · exact fun h => h.elim
    · rintro ⟨t, u, e, _⟩
      exact absurd e (h t u)
@[simp] theorem OkS_for (m : M Wk) (g : GM) (body : SM) : OkS (sFor m g body (y0 :: ρ) st) N Rt B C E ↔ Ok (m (y0 :: ρ) st) (fun it st1 => OkS (forI g body it (y0 :: ρ) st1) N Rt B C E) (fun e st => E e (y0 :: ρ) st) := by
  unfold sFor
  rw [OkS_of]
@[simp] theorem OkS_forSeq (g : GM) (body : SM) (ts : List T) : OkS (forI g body (.seq ts) (y0 :: ρ) st) N Rt B C E ↔ OkS (forL g body ts (y0 :: ρ) st) N Rt B C E := Iff.rfl
@[simp] theorem Ok_gSet {Q : Sl → Sto → Prop} {E : Exn → Sto → Prop} (i : Nat) (t : T) : Ok (gSet i t (y0 :: ρ) st) Q E ↔ Q ((y0 :: ρ).set i (some t)) st := Iff.rfl
@[simp] theorem Ok_gTup {Q : Sl → Sto → Prop} {E : Exn → Sto → Prop} (n : Nat) (g : GsM) (ts : List T) : Ok (gTupM n g (.tup ts) (y0 :: ρ) st) Q E ↔ ts.length = n ∧ Ok (g ts (y0 :: ρ) st) Q E := by
  show Ok (if _ then _ else _) Q E ↔ _
  simp only [Ok_iteB]
@[simp] theorem Ok_gTupL {Q : Sl → Sto → Prop} {E : Exn → Sto → Prop} (n : Nat) (g : GsM) (ts : List T) : Ok (gTupM n g (.lst ts) (y0 :: ρ) st) Q E ↔ ts.length = n ∧ Ok (g ts (y0 :: ρ) st) Q E := by
  show Ok (if _ then _ else _) Q E ↔ _
  simp only [Ok_iteB]
@[simp] theorem Ok_gsNil {Q : Sl → Sto → Prop} {E : Exn → Sto → Prop} : Ok (gsNil [] (y0 :: ρ) st) Q E ↔ Q (y0 :: ρ) st := Iff.rfl
@[simp] theorem Ok_gsCons {Q : Sl → Sto → Prop} {E : Exn → Sto → Prop} (g : GM) (r : GsM) (t : T) (ts : List T) : Ok (gsCons g r (t :: ts) (y0 :: ρ) st) Q E ↔ Ok (g t (y0 :: ρ) st) (fun ρ1 st1 => Ok (r ts ρ1 st1) Q E) E := by
  show Ok (R.bind _ _) Q E ↔ _
  rw [Ok_bind]
theorem OkS_turn (r : RS) (f : Sl → Sto → RS) : OkS (r.turn f) N Rt B C E ↔ OkS r (fun ρ st => OkS (f ρ st) N Rt B C E) Rt N (fun ρ st => OkS (f ρ st) N Rt B C E) E := by cases r <;> rfl
theorem for_inv {g : GM} {body : SM} {ts : List T} (I : Nat → Sl → Sto → Prop) (h0 : I 0 ρ st)
    (step : ∀ i t ρ st, ts[i]? = some t → I i ρ st → Ok (g t ρ st) (fun ρ1 st1 => OkS (body ρ1 st1) (I (i + 1)) Rt N (I (i + 1)) E) noE) (done : ∀ ρ st, I ts.length ρ st → N ρ st) : OkS (forL g body ts ρ st) N Rt B C E := by
  have key : ∀ (l pre : List T) ρ st, ts = pre ++ l → I pre.length ρ st → OkS (forL g body l ρ st) N Rt B C E := fun l => by
    induction l with
    | nil =>
      intro pre ρ st e h
      rw [List.append_nil] at e
      subst e
      exact done ρ st h
    | cons t l ih =>
      intro pre ρ st e h
      have hs := step pre.length t ρ st (by rw [e]; simp) h
      unfold forL
      revert hs
      cases g t ρ st with
      | ok ρ1 st1 =>
        intro hs
        show OkS ((body ρ1 st1).turn (forL g body l)) N Rt B C E
        rw [OkS_turn]
        have nx : ∀ ρ st, I (pre.length + 1) ρ st → OkS (forL g body l ρ st) N Rt B C E := fun ρ st hi => ih (pre ++ [t]) ρ st (by simp [e]) (by simpa using hi)
        exact OkS.imp hs nx (fun _ _ h => h) (fun _ _ h => h) nx (fun _ _ _ h => h)
      | exc _ _ => exact fun hs => hs.elim
      | bad => exact fun hs => hs.elim
  exact key ts [] ρ st rfl h0
theorem for_rec {g : GM} {body : SM} (I : List T → Sl → Sto → Prop) : ∀ {ts : List T} {ρ : Sl} {st : Sto}, I ts ρ st →
    (∀ t ts ρ st, I (t :: ts) ρ st → Ok (g t ρ st) (fun ρ1 st1 => OkS (body ρ1 st1) (I ts) Rt N (I ts) E) noE) → (∀ ρ st, I [] ρ st → N ρ st) → OkS (forL g body ts ρ st) N Rt B C E
  | [], ρ, st, h, _, done => done ρ st h
  | t :: ts, ρ, st, h, step, done => by
    have hs := step t ts ρ st h
    unfold forL
    revert hs
    cases g t ρ st with
    | ok ρ1 st1 =>
      intro hs
      show OkS ((body ρ1 st1).turn (forL g body ts)) N Rt B C E
      rw [OkS_turn]
      have nx : ∀ ρ st, I ts ρ st → OkS (forL g body ts ρ st) N Rt B C E := fun ρ st hi => for_rec I hi step done
      exact OkS.imp hs nx (fun _ _ h => h) (fun _ _ h => h) nx (fun _ _ _ h => h)
    | exc _ _ => exact fun hs => hs.elim
    | bad => exact fun hs => hs.elim
theorem Ok_runF {Q : T → Sto → Prop} {E : Exn → Sto → Prop} (n : Nat) (body : SM) (ts : List T) : Ok (runF n body ts st) Q E ↔ OkS (body (ts.map some ++ List.replicate (n - ts.length) none) st) (fun _ st => Q .non st) Q (fun _ _ => False) (fun _ _ => False) (fun e _ st => E e st) := by
  unfold runF
  cases body (ts.map some ++ List.replicate (n - ts.length) none) st <;> rfl
end
section
variable {E : Exn → Sto → Prop} {ρ : Sl} {y0 : Option T} {st : Sto}
theorem lc_pure {g : T → Sl → Option Sl} {tt : M Bool} {elt : M T} {ρ : Sl} {st : Sto} (f : T → Option T) : ∀ (ts : List T), (∀ t ∈ ts, ∃ ρ1, g t ρ = some ρ1 ∧ ((∃ y, f t = some y ∧ tt ρ1 st = .ok true st ∧ elt ρ1 st = .ok y st) ∨ (f t = none ∧ tt ρ1 st = .ok false st))) →
    lcL g tt elt ρ ts st = .ok (ts.filterMap f) st
  | [], _ => rfl
  | t :: ts, h => by
    have ih := lc_pure f ts fun u hu => h u (List.mem_cons_of_mem _ hu)
    obtain ⟨ρ1, h1, h2⟩ := h t (List.mem_cons_self ..)
    unfold lcL
    rw [h1]
    rcases h2 with ⟨y, e1, e2, e3⟩ | ⟨e1, e2⟩
    · rw [List.filterMap_cons, e1]
      simp [e2, noExc, e3, ih]
    · rw [List.filterMap_cons, e1]
      simp [e2, noExc, ih]
theorem Ok_lc {Q : T → Sto → Prop} (mi : M Wk) (g : T → Sl → Option Sl) (tt : M Bool) (elt : M T) (vs : List Nat) : Ok (mLc mi g tt elt vs ρ st) Q E ↔ Ok (mi ρ st) (fun it st1 => Ok (lcW g tt elt (wipeT ρ vs) it st1) (fun ys st2 => Q (.lst ys) st2) E) E := by
  unfold mLc
  simp only [Ok_bind, Ok_ok]
end
end Mi
namespace Mi
open PySem L2
section
variable {Q : T → Sto → Prop} {E : Exn → Sto → Prop} {ρ : Sl} {st : Sto}
theorem lstR_ref {i : Nat} {ts : List T} (h : st[i]? = some (.lst ts)) : lstR st (.ref i) = some ts := by simp [lstR, h]
theorem Ok_ixR {i : Nat} {ts : List T} {k : Int} (h : st[i]? = some (.lst ts)) : Ok (opIx (.ref i) (.int k) st) Q E ↔ ∃ t, atI ts k = some t ∧ Q t st := Ok_ixL k (lstR_ref h)
@[simp] theorem Ok_ixRef {i : Nat} {k : Int} : Ok (opIx (.ref i) (.int k) st) Q E ↔ ∃ ts, st[i]? = some (.lst ts) ∧ ∃ t, atI ts k = some t ∧ Q t st := by
  cases h : st[i]? with
  | none => simp [opIx, lstR, h]
  | some o =>
    cases o with
    | ins c fs => simp [opIx, lstR, h]
    | dct kvs => simp [opIx, lstR, h]
    | dtt kvs => simp [opIx, lstR, h]
    | dtn kvs => simp [opIx, lstR, h]
    | lst ts =>
      rw [Ok_ixR h]
      simp
@[simp] theorem Ok_gItem {Q : Sl → Sto → Prop} (mo mi : M T) (t : T) : Ok (gItem mo mi t ρ st) Q E ↔ Ok (mo ρ st) (fun o st1 => Ok (mi ρ st1) (fun ix st2 => ∃ r k ts j, o = .ref r ∧ ix = .int k ∧ st2[r]? = some (.lst ts) ∧ ixN ts.length k = some j ∧ Q ρ (st2.set r (.lst (ts.set j t)))) E) E := by
  unfold gItem
  simp only [Ok_bind]
  refine iff_of_eq (congrArg (fun f => Ok (mo ρ st) f E) ?_)
  funext o st1
  refine congrArg (fun f => Ok (mi ρ st1) f E) ?_
  funext ix st2
  refine propext ?_
  cases o <;> try (simp; done)
  cases ix <;> try (simp; done)
  rename_i r k
  show Ok (match st2[r]? with | some (.lst ts) => (match ixN ts.length k with | some j => .ok ρ (st2.set r (.lst (ts.set j t))) | none => .bad) | _ => .bad) Q E ↔ _
  cases h : st2[r]? with
  | none => simp [h]
  | some o =>
    cases o with
    | ins c fs => simp [h]
    | dct kvs => simp [h]
    | dtt kvs => simp [h]
    | dtn kvs => simp [h]
    | lst ts =>
      cases h2 : ixN ts.length k with
      | none =>
        simp only [h2, Ok_bad, false_iff]
        rintro ⟨r', k', ts', j', e1, e2, e3, e4, _⟩
        cases e1; cases e2
        rw [h] at e3; cases e3
        rw [h2] at e4; cases e4
      | some j =>
        simp only [h2, Ok_ok]
        constructor
        · exact fun q => ⟨r, k, ts, j, rfl, rfl, h, h2, q⟩
        · rintro ⟨r', k', ts', j', e1, e2, e3, e4, q⟩
          cases e1; cases e2
          rw [h] at e3; cases e3
          rw [h2] at e4; cases e4
          exact q
theorem atI_0 {a : T} {l : List T} : atI (a :: l) 0 = some a := by simp [atI, ixN]
theorem atI_1 {a b : T} {l : List T} : atI (a :: b :: l) 1 = some b := by
  have : (1 : Int) < ((l.length : Int) + 1 + 1) := by omega
  simp [atI, ixN, this]
theorem atI_2 {a b c : T} {l : List T} : atI (a :: b :: c :: l) 2 = some c := by
  have : (2 : Int) < ((l.length : Int) + 1 + 1 + 1) := by omega
  simp [atI, ixN, this]
end
def Src (st : Sto) (i : Nat) (m : Nat) : Prop := ∃ a b c : Int, st[i]? = some (.lst [.int a, .int b, .int c]) ∧ 0 ≤ b ∧ b < 2147483648 ∧ 0 ≤ c ∧ c ≤ (m : Int)
def Frm (i : Nat) (st st' : Sto) : Prop := st.length ≤ st'.length ∧ ∀ j o, j ≠ i → st[j]? = some o → st'[j]? = some o
theorem Frm.refl {i : Nat} {st : Sto} : Frm i st st := ⟨Nat.le_refl _, fun _ _ _ h => h⟩
theorem Frm.trans {i : Nat} {a b c : Sto} (h : Frm i a b) (h2 : Frm i b c) : Frm i a c := ⟨Nat.le_trans h.1 h2.1, fun j o n q => h2.2 j o n (h.2 j o n q)⟩
theorem Frm.set {i : Nat} {st : Sto} (o : O) : Frm i st (st.set i o) := ⟨by simp, fun j u n h => by rw [List.getElem?_set_ne (Ne.symm n)]; exact h⟩
theorem Frm.app {i : Nat} {st : Sto} (l : Sto) : Frm i st (st ++ l) := ⟨by simp, fun j u n h => by rw [List.getElem?_append_left (List.getElem?_eq_some_iff.mp h).1]; exact h⟩
theorem Src.mono {st : Sto} {i m n : Nat} (h : Src st i m) (q : m ≤ n) : Src st i n := by
  obtain ⟨a, b, c, h1, h2, h3, h4, h5⟩ := h
  exact ⟨a, b, c, h1, h2, h3, h4, by omega⟩
theorem Src.app {st : Sto} {i m : Nat} (h : Src st i m) (l : Sto) : Src (st ++ l) i m := by
  obtain ⟨a, b, c, h1, h2⟩ := h
  exact ⟨a, b, c, by rw [List.getElem?_append_left (List.getElem?_eq_some_iff.mp h1).1]; exact h1, h2⟩
theorem Src.set {st : Sto} {i j m : Nat} {o : O} (h : Src st i m) (n : j ≠ i) : Src (st.set j o) i m := by
  obtain ⟨a, b, c, h1, h2⟩ := h
  exact ⟨a, b, c, by rw [List.getElem?_set_ne n]; exact h1, h2⟩
def randB : SM := (sCons (sIf (mTest (mBin opGt (mBin opIx (mVar 0) (mC (.int 0))) (mC (.int 0)))) (sCons (sAsg (mBin opMod (mApp fInt (mCons (mBin opIx (mVar 0) (mC (.int 0))) mNil)) (mVar 1)) (gSet 2))
    (sCons (sAsg (mBin opFdiv (mBin opIx (mVar 0) (mC (.int 0))) (mVar 1)) (gItem (mVar 0) (mC (.int 0))))
    (sCons (sRet (mVar 2))
    sNil))) sNil)
  (sCons (sAsg (mBin opAdd (mBin opIx (mVar 0) (mC (.int 2))) (mC (.int 1))) (gItem (mVar 0) (mC (.int 2))))
  (sCons (sAsg (mBin opMod (mApp fInt (mCons (mBin opAdd (mBin opAdd (mBin opMul (mBin opIx (mVar 0) (mC (.int 1))) (mC (.int 48271))) (mBin opMul (mC (.int 1009)) (mBin opIx (mVar 0) (mC (.int 2))))) (mC (.int 7))) mNil)) (mC (.int 2147483647))) (gItem (mVar 0) (mC (.int 1))))
  (sCons (sAsg (mBin opMod (mApp fInt (mCons (mBin opAdd (mBin opAdd (mBin opMul (mBin opIx (mVar 0) (mC (.int 1))) (mBin opIx (mVar 0) (mC (.int 1)))) (mBin opMul (mC (.int 69621)) (mBin opIx (mVar 0) (mC (.int 1))))) (mC (.int 11))) mNil)) (mC (.int 2147483629))) (gSet 3))
  (sCons (sAsg (mBin opMod (mApp fInt (mCons (mBin opAdd (mBin opMul (mVar 3) (mVar 3)) (mBin opMul (mC (.int 40014)) (mVar 3))) mNil)) (mC (.int 2147483587))) (gSet 3))
  (sCons (sRet (mBin opMod (mApp fInt (mCons (mBin opFdiv (mVar 3) (mC (.int 16))) mNil)) (mVar 1)))
  sNil))))))
@[simp] theorem Ok_fIntI {Q : T → Sto → Prop} {E : Exn → Sto → Prop} {st : Sto} (i : Int) : Ok (fInt [.int i] st) Q E ↔ Q (.int i) st := Iff.rfl
theorem log_lt {i : Int} {n : Nat} (h0 : 0 ≤ i) (h : i < ((2 ^ n : Nat) : Int)) (hn : 0 < n) : i.natAbs.log2 < n := by
  by_cases hz : i.natAbs = 0
  · rw [hz]; simpa using hn
  · rw [Nat.log2_lt hz]
    omega
theorem rand_ok {st : Sto} {i m : Nat} {n : Int} (h : Src st i m) (hn : 0 < n) (hn2 : n ≤ 1000000) (hm : m < 2 ^ 62) :
    Ok (runF 4 randB [.ref i, .int n] st) (fun t st' => (∃ r, t = .int r ∧ 0 ≤ r ∧ r < n) ∧ Src st' i (m + 1) ∧ Frm i st st') noE := by
  obtain ⟨a, b, c, h1, h2, h3, h4, h5⟩ := h
  have hl : i < st.length := (List.getElem?_eq_some_iff.mp h1).1
  have lg : n.natAbs.log2 < 9000 := Nat.lt_trans (log_lt (n := 20) (by omega) (by omega) (by omega)) (by decide)
  have e2 : ((2 : Nat) ^ 62 : Nat) = 4611686018427387904 := by decide
  have g2 : ∀ x : O, (st.set i x)[i]? = some x := fun x => by simp [hl]
  have l3 : (48271 : Nat).log2 = 15 := by decide +kernel
  have l4 : (1009 : Nat).log2 = 9 := by decide +kernel
  have l5 : (69621 : Nat).log2 = 16 := by decide +kernel
  have l6 : (40014 : Nat).log2 = 15 := by decide +kernel
  have l7 : (16 : Nat).log2 = 4 := by decide +kernel
  have l1 : b.natAbs.log2 < 31 := log_lt h2 (by omega) (by omega)
  have l2 : (c + 1).natAbs.log2 < 63 := log_lt (by omega) (by omega) (by omega)
  rw [Ok_runF]
  unfold randB
  simp [h1, atI_0, atI_1, atI_2, hn, lg, g2, ixN, l3, l4, l5, l6, l7]
  by_cases ha : 0 < a
  · exact .inr ⟨ha, ⟨Int.emod_nonneg _ (by omega), Int.emod_lt_of_pos _ hn⟩, ⟨a / n, b, c, by simp [hl], h2, h3, h4, by omega⟩, Frm.set _⟩
  · refine .inl ⟨by omega, by omega, by omega, ?_⟩
    generalize hb : (b * 48271 + 1009 * (c + 1) + 7) % 2147483647 = b'
    have hb1 : 0 ≤ b' := by rw [← hb]; exact Int.emod_nonneg _ (by omega)
    have hb2 : b' < 2147483647 := by rw [← hb]; exact Int.emod_lt_of_pos _ (by omega)
    have lb : b'.natAbs.log2 < 31 := log_lt hb1 (by omega) (by omega)
    refine ⟨by omega, by omega, ?_⟩
    generalize hs : (b' * b' + 69621 * b' + 11) % 2147483629 = s
    have hs1 : 0 ≤ s := by rw [← hs]; exact Int.emod_nonneg _ (by omega)
    have hs2 : s < 2147483629 := by rw [← hs]; exact Int.emod_lt_of_pos _ (by omega)
    have ls : s.natAbs.log2 < 31 := log_lt hs1 (by omega) (by omega)
    refine ⟨by omega, by omega, ⟨Int.emod_nonneg _ (by omega), Int.emod_lt_of_pos _ hn⟩, ⟨a, b', c + 1, by simp [hl], hb1, by omega, by omega, by omega⟩, Frm.set _⟩
end Mi
namespace Mi
open PySem L2
mutual
/-- a plain tree: no object of the store -/
def T.tr : T → Bool
  | .non => true
  | .bl _ => true
  | .int i => decide (i.natAbs.log2 < 1920)
  | .str s => PyData.strOk s
  | .tup ts => T.trs ts
  | .lst ts => T.trs ts
  | .dct ks ts => ks.isEmpty && ts.isEmpty
  | _ => false
def T.trs : List T → Bool
  | [] => true
  | t :: ts => t.tr && T.trs ts
end
mutual
/-- no dict in it -/
def T.nd : T → Bool
  | .tup ts => T.nds ts
  | .lst ts => T.nds ts
  | .dct _ _ => false
  | _ => true
def T.nds : List T → Bool
  | [] => true
  | t :: ts => t.nd && T.nds ts
end
mutual
def T.dep : T → Nat
  | .tup ts => T.deps ts + 1
  | .lst ts => T.deps ts + 1
  | .dct _ _ => 1
  | _ => 0
def T.deps : List T → Nat
  | [] => 0
  | t :: ts => max t.dep (T.deps ts)
end
mutual
/-- at least so long as the text -/
def T.wt : T → Nat
  | .non => 4
  | .bl _ => 5
  | .int i => i.natAbs.log2 + 2
  | .str s => 10 * s.length + 2
  | .tup ts => T.wts ts + 3
  | .lst ts => T.wts ts + 3
  | .dct _ _ => 2
  | _ => 0
def T.wts : List T → Nat
  | [] => 0
  | t :: ts => t.wt + 2 + T.wts ts
end
theorem T.deps_le {n : Nat} : ∀ {ts : List T}, T.deps ts ≤ n ↔ ∀ t ∈ ts, t.dep ≤ n
  | [] => by simp [T.deps]
  | t :: ts => by simp [T.deps, Nat.max_le, T.deps_le (ts := ts)]
theorem T.trs_all : ∀ {ts : List T}, T.trs ts = true ↔ ∀ t ∈ ts, t.tr = true
  | [] => by simp [T.trs]
  | t :: ts => by simp [T.trs, T.trs_all (ts := ts)]
theorem T.nds_all : ∀ {ts : List T}, T.nds ts = true ↔ ∀ t ∈ ts, t.nd = true
  | [] => by simp [T.nds]
  | t :: ts => by simp [T.nds, T.nds_all (ts := ts)]
theorem T.wts_app : ∀ (a b : List T), T.wts (a ++ b) = T.wts a + T.wts b
  | [], b => by simp [T.wts]
  | t :: a, b => by simp [T.wts, T.wts_app a b]; omega
theorem T.wt_mem : ∀ {ts : List T} {t : T}, t ∈ ts → t.wt + 2 ≤ T.wts ts
  | [], _, h => by simp at h
  | u :: ts, t, h => by
    rcases List.mem_cons.mp h with rfl | h
    · simp [T.wts]
    · have := T.wt_mem h
      simp only [T.wts]; omega
theorem T.wts_len : ∀ {ts : List T}, 2 * ts.length ≤ T.wts ts
  | [] => by simp [T.wts]
  | u :: ts => by
    have := T.wts_len (ts := ts)
    simp only [T.wts, List.length_cons]; omega
theorem tupleText_le (as : List PySem.Str) : (tupleText as).length ≤ piled as + 3 := by
  unfold tupleText
  rw [strLen_append, strLen_append]
  have e1 : (("(" : String) : PySem.Str).length = 1 := rfl
  have e3 : (((if as.length == 1 then ",)" else ")" : String) : PySem.Str)).length ≤ 2 := by split <;> decide
  rw [e1]
  cases as with
  | nil => show 1 + 0 + _ ≤ _; omega
  | cons a l =>
    have := join_length_add (a :: l) (by simp)
    omega
theorem textFrom_le : ∀ (ts : List PySem.Str) (k : Nat) (acc : PySem.Str), (textFrom k acc ts).length ≤ acc.length + piled ts
  | [], k, acc => Nat.le_refl _
  | t :: r, k, acc => by
    have ih := textFrom_le r (k + 1) (acc ++ (if k > 0 then ", " else "" : String) ++ t)
    have e : (acc ++ (if k > 0 then ", " else "" : String) ++ t).length ≤ acc.length + 2 + t.length := by
      rw [strLen_append, strLen_append]
      have : (((if k > 0 then ", " else "" : String)) : PySem.Str).length ≤ 2 := by split <;> decide
      omega
    rw [piled_cons]
    show (textFrom (k + 1) (acc ++ (if k > 0 then ", " else "" : String) ++ t) r).length ≤ _
    omega
theorem listText_le (as : List PySem.Str) : (listText as).length ≤ piled as + 3 := by
  unfold listText
  rw [strLen_append]
  have := textFrom_le as 0 ("[" : String)
  have e1 : (("[" : String) : PySem.Str).length = 1 := rfl
  have e2 : (("]" : String) : PySem.Str).length = 1 := rfl
  rw [e1] at this
  rw [e2]; omega
mutual
theorem T.tr_pd : ∀ {t : T}, t.tr = true → ∃ d, t.pd = some d ∧ d.showable = true ∧ d.shown.length ≤ t.wt ∧ d.depth = t.dep ∧ d.canLay0 = t.nd
  | .non, _ => ⟨.none, rfl, rfl, by decide, by simp [PyData.depth, T.dep], by simp [PyData.canLay0, T.nd]⟩
  | .bl b, _ => ⟨.bool b, rfl, rfl, by cases b <;> decide, by simp [PyData.depth, T.dep], by simp [PyData.canLay0, T.nd]⟩
  | .int i, h => by
    simp only [T.tr] at h
    refine ⟨.int i, rfl, h, ?_, by simp [PyData.depth, T.dep], by simp [PyData.canLay0, T.nd]⟩
    have := int_text_length_le (a := i) (k := i.natAbs.log2 + 1) (by omega) (by omega)
    show (PySem.Str.ofString (toString i)).length ≤ _
    simp only [T.wt]
    rw [ofString_length]
    omega
  | .str s, h => by
    simp only [T.tr] at h
    refine ⟨.str s, rfl, rfl, ?_, by simp [PyData.depth, T.dep], by simp [PyData.canLay0, T.nd, h]⟩
    simp only [T.wt]
    refine StrLaws.reprText_len s fun c hc => ?_
    unfold PyData.strOk at h
    rw [← Array.all_toList, List.all_eq_true] at h
    have := of_decide_eq_true (h c hc)
    omega
  | .tup ts, h => by
    simp only [T.tr] at h
    obtain ⟨ds, h1, h2, h3, h4, h5⟩ := T.trs_pd h
    refine ⟨.tuple ds, by simp [T.pd, h1], h2, ?_, by simp [PyData.depth, T.dep, h4], by simp [PyData.canLay0, T.nd, h5]⟩
    show (tupleText (PyData.shownAll ds)).length ≤ _
    have := tupleText_le (PyData.shownAll ds)
    simp only [T.wt]; omega
  | .lst ts, h => by
    simp only [T.tr] at h
    obtain ⟨ds, h1, h2, h3, h4, h5⟩ := T.trs_pd h
    refine ⟨.list ds, by simp [T.pd, h1], h2, ?_, by simp [PyData.depth, T.dep, h4], by simp [PyData.canLay0, T.nd, h5]⟩
    show (listText (PyData.shownAll ds)).length ≤ _
    have := listText_le (PyData.shownAll ds)
    simp only [T.wt]; omega
  | .dct ks ts, h => by
    simp only [T.tr, Bool.and_eq_true, List.isEmpty_iff] at h
    obtain ⟨rfl, rfl⟩ := h
    exact ⟨.dict [], rfl, rfl, by decide, by simp [PyData.depth, PyData.depthKv, T.dep], by simp [PyData.canLay0, T.nd]⟩
  | .byt _, h | .ty _, h | .frz _, h | .ref _, h | .adr _, h | .ptp _, h => by simp [T.tr] at h
theorem T.trs_pd : ∀ {ts : List T}, T.trs ts = true → ∃ ds, T.pds ts = some ds ∧ PyData.showableAll ds = true ∧ piled (PyData.shownAll ds) ≤ T.wts ts ∧ PyData.depthAll ds = T.deps ts ∧ PyData.canLayAll0 ds = T.nds ts
  | [], _ => ⟨[], rfl, rfl, by decide, by simp [PyData.depthAll, T.deps], by simp [PyData.canLayAll0, T.nds]⟩
  | t :: ts, h => by
    simp only [T.trs, Bool.and_eq_true] at h
    obtain ⟨d, h1, h2, h3, h4, h5⟩ := T.tr_pd h.1
    obtain ⟨ds, g1, g2, g3, g4, g5⟩ := T.trs_pd h.2
    refine ⟨d :: ds, by simp [T.pds, h1, g1], by simp [PyData.showableAll, h2, g2], ?_, by simp [PyData.depthAll, T.deps, h4, g4], by simp [PyData.canLayAll0, T.nds, h5, g5]⟩
    show piled (d.shown :: PyData.shownAll ds) ≤ _
    rw [piled_cons]
    simp only [T.wts]; omega
end
theorem T.tr_shaped {t : T} (h : t.tr = true) (hn : t.nd = true) (hd : t.dep ≤ 64) : shaped t = true := by
  obtain ⟨d, h1, h2, h3, h4, h5⟩ := T.tr_pd h
  unfold shaped
  rw [h1]
  simp [SeqAt.shaped, h5, hn, h4, hd]
def T.text (t : T) : PySem.Str := match t.pd with
  | some d => d.shown
  | none => PySem.Str.empty
end Mi
namespace Mi
open PySem L2 PySem.Spec PyProof.Rows
def ItA (h : Heap) (it l : Addr) (k : Nat) (xs : Array Value) : Prop := (h.IsListIter it l k ∧ h.IsList l xs) ∨ (h.IsTupleIter it l k ∧ h.IsTuple l xs)
theorem ItA.ext {h h' : Heap} {it l : Addr} {k : Nat} {xs : Array Value} (a : ItA h it l k xs) (h1 : ∀ o, h.get? it = some o → h'.get? it = some o) (h2 : ∀ o, h.get? l = some o → h'.get? l = some o) : ItA h' it l k xs := by
  rcases a with ⟨a, b⟩ | ⟨a, b⟩
  · exact .inl ⟨a.at h1, b.at h2⟩
  · exact .inr ⟨a.at h1, let ⟨o, e, r⟩ := b; ⟨o, h2 o e, r⟩⟩
section
variable {prog : Program} {w : World} {A : PySem.Around} {E : Value → Shared → Prop} {s : Shared}
theorem nextOf_A {it l : Addr} {k : Nat} {xs : Array Value} {x : Value} {Q : Value → Shared → Prop} (hit : ItA s.heap it l k xs) (hne : l ≠ it) (hx : xs[k]? = some x)
    (hQ : ∀ h', ItA h' it l (k + 1) xs → Heap.SameBut it s.heap h' → Q x { s with heap := h' }) : wpAny (model prog w) A (Builtin.SmallTypes.nextOf (.ref it)) Q E s := by
  rcases hit with ⟨a, b⟩ | ⟨a, b⟩
  · exact wpAny_nextOf_list_item a b hx fun h' h1 hs => hQ h' (.inl ⟨h1, b.extBut hs.extBut hne⟩) hs
  · exact RZ.nextOf_tuple_item a b hx fun h' h1 hs => hQ h' (.inr ⟨h1, let ⟨o, e, r⟩ := b; ⟨o, hs.extBut _ _ hne e, r⟩⟩) hs
theorem nextOf_A_end {it l : Addr} {k : Nat} {xs : Array Value} {Q : Value → Shared → Prop} (hh : A.handled = none) (hit : ItA s.heap it l k xs) (hx : xs[k]? = none)
    (hE : ∀ h' e, Heap.ExtBut it s.heap h' → (∃ o, h'.get? e = some o ∧ o.cls = .type "StopIteration") → E (.ref e) { s with heap := h' }) : wpAny (model prog w) A (Builtin.SmallTypes.nextOf (.ref it)) Q E s := by
  rcases hit with ⟨a, b⟩ | ⟨a, b⟩
  · exact wpAny_nextOf_list_end hh a b hx hE
  · exact RZ.nextOf_tuple_end hh a b hx hE
theorem nextOrEnd_A {it l : Addr} {k : Nat} {xs : Array Value} {x : Value} {Q : Option Value → Shared → Prop} (hit : ItA s.heap it l k xs) (hne : l ≠ it) (hx : xs[k]? = some x)
    (hQ : ∀ h', ItA h' it l (k + 1) xs → Heap.SameBut it s.heap h' → Q (some x) { s with heap := h' }) : wpAny (model prog w) A (Builtin.SmallTypes.nextOrEnd (.ref it)) Q E s := by
  unfold Builtin.SmallTypes.nextOrEnd
  exact wpAny_bind (wpAny_attempt (nextOf_A hit hne hx fun h' a b => wpAny_pure (hQ h' a b)))
theorem nextOrEnd_A_end {it l : Addr} {k : Nat} {xs : Array Value} {Q : Option Value → Shared → Prop} (hh : A.handled = none) (hit : ItA s.heap it l k xs) (hx : xs[k]? = none)
    (hQ : ∀ h', Heap.ExtBut it s.heap h' → Q none { s with heap := h' }) : wpAny (model prog w) A (Builtin.SmallTypes.nextOrEnd (.ref it)) Q E s := by
  unfold Builtin.SmallTypes.nextOrEnd
  refine wpAny_bind (wpAny_attempt (nextOf_A_end hh hit hx fun h' e hk he => ?_))
  obtain ⟨o, ho, hc⟩ := he
  refine wpAny_bind (wpAny_isInstance (T := "StopIteration") (b := true) ⟨o, ho, hc⟩ isSubtype_stop ?_)
  exact wpAny_pure (hQ _ hk)
abbrev IsZipB (h : Heap) (z TI TO : Addr) (b : Bool) (f0 : Value) : Prop :=
  h.get? z = some { cls := .type "zip", dict := none, data := .fields #[f0, .bool false, .bool b, .ref TI, .ref TO], slots := #[] }
theorem zipB_next {b : Bool} {z TI TO i1 i2 l1 l2 : Addr} {k1 k2 : Nat} {xs ys : Array Value} {x y a c : Value} {Q : Value → Shared → Prop} (D : ZipApart z TI TO i1 i2 l1 l2)
    (hz : IsZipB s.heap z TI TO b .none) (hTI : IsPair s.heap TI (.ref i1) (.ref i2)) (hTO : IsPair s.heap TO a c)
    (h1 : ItA s.heap i1 l1 k1 xs) (h2 : ItA s.heap i2 l2 k2 ys) (hx : xs[k1]? = some x) (hy : ys[k2]? = some y)
    (hQ : ∀ h', IsZipB h' z TI TO b (rawInt s.heap.objs.size) → IsPair h' TO x y → ItA h' i1 l1 (k1 + 1) xs → ItA h' i2 l2 (k2 + 1) ys → IsPair h' s.heap.objs.size x y → h'.objs.size = s.heap.objs.size + 1 →
      (∀ c o, c ≠ z → c ≠ TO → c ≠ i1 → c ≠ i2 → s.heap.get? c = some o → h'.get? c = some o) → Q (.ref s.heap.objs.size) { s with heap := h' }) :
    wpAny (model prog w) A (Builtin.«zip.__next__» ⟨[.ref z], []⟩) (fun fin s' => ∃ v, fin = .done (.ret v) ∧ Q v s') E s := by
  have draw : ∀ {it l : Addr} {k : Nat} {xs : Array Value} {x : Value} {Q : Option Value → Shared → Prop} {E : Value → Shared → Prop} {s : Shared}, ItA s.heap it l k xs → l ≠ it → xs[k]? = some x →
      (∀ h', ItA h' it l (k + 1) xs → Heap.SameBut it s.heap h' → Q (some x) { s with heap := h' }) → wpAny (model prog w) A (if (Value.bool b == Value.bool true) = true then Builtin.SmallTypes.nextOrEnd (.ref it) else (do return some (← Builtin.SmallTypes.nextOf (.ref it)))) Q E s := fun {it l k xs x Q E s} hit hne hx hR => by
    clear hQ
    cases b with
    | true => exact nextOrEnd_A hit hne hx hR
    | false => exact wpAny_bind (nextOf_A hit hne hx fun h' a b => wpAny_pure (hR h' a b))
  show wpAny _ _ (field (.ref z) 2 >>= _) _ _ _
  refine wpAny_bind (wpAny_field hz rfl (x := .bool b) rfl ?_)
  show wpAny _ _ (field (.ref z) 3 >>= _) _ _ _
  refine wpAny_bind (wpAny_field hz rfl (x := .ref TI) rfl ?_)
  refine wpAny_bind (wpAny_seqItems hTI rfl ?_)
  show wpAny _ _ (Builtin.SmallTypes.ownedTupleIsFree (.ref z) >>= _) _ _ _
  refine wpAny_bind ?_
  unfold Builtin.SmallTypes.ownedTupleIsFree
  refine wpAny_bind (wpAny_field hz rfl (x := .none) rfl (wpAny_pure ?_))
  simp only [if_true]
  refine wpAny_bind (wpAny_rule ?_)
  refine wpAny_bind (wpAny_field hz rfl (x := .ref TO) rfl ?_)
  refine wpAny_bind (wpAny_setField_rec hz (by simp) fun h₁ hz₁ hs₁ => ?_)
  replace hz₁ : IsZipB h₁ z TI TO b .ellipsis := hz₁
  refine wpAny_bind ?_
  simp only [List.zipIdx_cons, List.zipIdx_nil, List.forIn_cons, List.forIn_nil]
  refine wpAny_bind (wpAny_bind (wpAny_onRaise ?_))
  refine draw (h1.ext (fun o e => hs₁.extBut _ _ D.i1z e) (fun o e => hs₁.extBut _ _ D.l1z e)) D.l1i1 hx fun h₂ h1₂ hs₂ => ?_
  have hTO₂ : IsPair h₂ TO a c := hs₂.extBut _ _ D.TOi1 (hs₁.extBut _ _ D.TOz hTO)
  refine wpAny_bind (wpAny_seqItems hTO₂ rfl ?_)
  refine wpAny_bind (wpAny_updateSeq_pair hTO₂ fun h₃ hTO₃ hs₃ => ?_)
  replace hTO₃ : IsPair h₃ TO x c := hTO₃
  refine wpAny_bind (wpAny_letGo (wpAny_pure ?_))
  refine wpAny_bind (wpAny_bind (wpAny_onRaise ?_))
  refine draw (h2.ext (fun o e => hs₃.extBut _ _ D.TOi2.symm (hs₂.extBut _ _ D.i12.symm (hs₁.extBut _ _ D.i2z e))) (fun o e => hs₃.extBut _ _ D.l2TO (hs₂.extBut _ _ D.l2i1 (hs₁.extBut _ _ D.l2z e)))) D.l2i2 hy fun h₄ h2₄ hs₄ => ?_
  have hTO₄ : IsPair h₄ TO x c := hs₄.extBut _ _ D.TOi2 hTO₃
  refine wpAny_bind (wpAny_seqItems hTO₄ rfl ?_)
  refine wpAny_bind (wpAny_updateSeq_pair hTO₄ fun h₅ hTO₅ hs₅ => ?_)
  replace hTO₅ : IsPair h₅ TO x y := hTO₅
  refine wpAny_bind (wpAny_letGo (wpAny_pure (wpAny_pure ?_)))
  refine wpAny_bind (wpAny_seqItems hTO₅ rfl ?_)
  refine wpAny_bind (wpAny_newTuple ?_)
  have hsz : h₅.objs.size = s.heap.objs.size := by rw [hs₅.1, hs₄.1, hs₃.1, hs₂.1, hs₁.1]
  have hz₅ : IsZipB h₅ z TI TO b .ellipsis := hs₅.extBut _ _ D.TOz.symm (hs₄.extBut _ _ D.i2z.symm (hs₃.extBut _ _ D.TOz.symm (hs₂.extBut _ _ D.i1z.symm hz₁)))
  have hk₅ : ∀ c o, c ≠ z → c ≠ TO → c ≠ i1 → c ≠ i2 → s.heap.get? c = some o → h₅.get? c = some o := fun c o c1 c2 c3 c4 e =>
    hs₅.extBut _ _ c2 (hs₄.extBut _ _ c4 (hs₃.extBut _ _ c2 (hs₂.extBut _ _ c3 (hs₁.extBut _ _ c1 e))))
  have h1₅ : ItA h₅ i1 l1 (k1 + 1) xs := h1₂.ext (fun o e => hs₅.extBut _ _ D.TOi1.symm (hs₄.extBut _ _ D.i12 (hs₃.extBut _ _ D.TOi1.symm e))) (fun o e => hs₅.extBut _ _ D.l1TO (hs₄.extBut _ _ D.l1i2 (hs₃.extBut _ _ D.l1TO e)))
  have h2₅ : ItA h₅ i2 l2 (k2 + 1) ys := h2₄.ext (fun o e => hs₅.extBut _ _ D.TOi2.symm e) (fun o e => hs₅.extBut _ _ D.l2TO e)
  have hzlt : z < h₅.objs.size := Heap.lt_size hz₅
  show wpAny _ _ (Builtin.SmallTypes.ownedTupleHandOut (.ref z) (.ref h₅.objs.size) >>= _) _ _ _
  refine wpAny_bind ?_
  unfold Builtin.SmallTypes.ownedTupleHandOut
  have hz₆ : IsZipB (h₅.push { cls := .type "tuple", data := .seq #[x, y] }) z TI TO b .ellipsis := Heap.get?_push_of_some _ hz₅
  refine wpAny_bind (wpAny_setField_rec hz₆ (by simp) fun h₇ hz₇ hs₇ => ?_)
  replace hz₇ : IsZipB h₇ z TI TO b (rawInt h₅.objs.size) := hz₇
  refine wpAny_setField_rec hz₇ (by simp) fun h₈ hz₈ hs₈ => ?_
  replace hz₈ : IsZipB h₈ z TI TO b (rawInt h₅.objs.size) := hz₈
  have up : ∀ c o, c ≠ z → h₅.get? c = some o → h₈.get? c = some o := fun c o c1 e => hs₈.extBut _ _ c1 (hs₇.extBut _ _ c1 (Heap.get?_push_of_some _ e))
  have hT₈ : IsPair h₈ h₅.objs.size x y := hs₈.extBut _ _ (Nat.ne_of_gt hzlt) (hs₇.extBut _ _ (Nat.ne_of_gt hzlt) (Heap.get?_push_size _ rfl))
  have hz8 : h₈.objs.size = h₅.objs.size + 1 := by rw [hs₈.1, hs₇.1, Heap.size_push]
  rw [hsz] at hz₈ hT₈ hz8
  refine wpAny_pure ⟨_, rfl, ?_⟩
  show Q (.ref h₅.objs.size) _
  rw [hsz]
  exact hQ h₈ hz₈ (up _ _ D.TOz hTO₅) (h1₅.ext (fun o e => up _ o D.i1z e) (fun o e => up _ o D.l1z e)) (h2₅.ext (fun o e => up _ o D.i2z e) (fun o e => up _ o D.l2z e)) hT₈ hz8 fun c o c1 c2 c3 c4 e => up c o c1 (hk₅ c o c1 c2 c3 c4 e)
end
end Mi
namespace Mi
open PySem L2 PySem.Spec PyProof.Rows
section
variable {prog : Program} {w : World} {A : PySem.Around} {E : Value → Shared → Prop} {s : Shared}
theorem stop_raise {α : Type} {Q : α → Shared → Prop} (hh : A.handled = none) (hE : ∀ h' e, (∀ c o, s.heap.get? c = some o → h'.get? c = some o) → (∃ o, h'.get? e = some o ∧ o.cls = .type "StopIteration") → E (.ref e) { s with heap := h' }) :
    wpAny (model prog w) A (Builtin.SmallTypes.stopIteration : Sem α) Q E s := by
  unfold Builtin.SmallTypes.stopIteration
  refine wpAny_bind ?_
  simp only [newExc, newTuple]
  refine wpAny_bind (wpAny_newObj_type ?_ (by size_fits))
  refine wpAny_bind (m := firstArgMember _ _) (wpAny_of_eq (a := Value.none) (by first | rfl | (simp only [firstArgMember]; rfl)) ?_)
  refine wpAny_newObj_type ?_ (by size_fits)
  simp only [raiseNew]
  refine wpAny_bind (wpAny_handled ?_)
  first | rw [show A.in1.handled = none from hh] | rw [hh]
  refine wpAny_bind (wpAny_pure (wpAny_throw ?_))
  exact hE _ _ (fun c o x => Heap.get?_push_of_some _ (Heap.get?_push_of_some _ x)) ⟨_, Heap.get?_push_size _ rfl, rfl⟩
theorem zipB_end {b : Bool} {z TI TO i1 i2 l1 l2 : Addr} {k1 k2 : Nat} {xs ys : Array Value} {a c : Value} {Q : Fin → Shared → Prop} (hh : A.handled = none) (D : ZipApart z TI TO i1 i2 l1 l2)
    (hz : IsZipB s.heap z TI TO b .none) (hTI : IsPair s.heap TI (.ref i1) (.ref i2)) (hTO : IsPair s.heap TO a c)
    (h1 : ItA s.heap i1 l1 k1 xs) (h2 : ItA s.heap i2 l2 k2 ys) (hst : b = true → xs[k1]? = none ∧ ys[k2]? = none) (hend : xs[k1]? = none ∨ ys[k2]? = none)
    (hE : ∀ h' e, (∀ c o, c ≠ z → c ≠ TO → c ≠ i1 → c ≠ i2 → s.heap.get? c = some o → h'.get? c = some o) → (∃ o, h'.get? e = some o ∧ o.cls = .type "StopIteration") → E (.ref e) { s with heap := h' }) :
    wpAny (model prog w) A (Builtin.«zip.__next__» ⟨[.ref z], []⟩) Q E s := by
  show wpAny _ _ (field (.ref z) 2 >>= _) _ _ _
  refine wpAny_bind (wpAny_field hz rfl (x := .bool b) rfl ?_)
  show wpAny _ _ (field (.ref z) 3 >>= _) _ _ _
  refine wpAny_bind (wpAny_field hz rfl (x := .ref TI) rfl ?_)
  refine wpAny_bind (wpAny_seqItems hTI rfl ?_)
  show wpAny _ _ (Builtin.SmallTypes.ownedTupleIsFree (.ref z) >>= _) _ _ _
  refine wpAny_bind ?_
  unfold Builtin.SmallTypes.ownedTupleIsFree
  refine wpAny_bind (wpAny_field hz rfl (x := .none) rfl (wpAny_pure ?_))
  simp only [if_true]
  refine wpAny_bind (wpAny_rule ?_)
  refine wpAny_bind (wpAny_field hz rfl (x := .ref TO) rfl ?_)
  refine wpAny_bind (wpAny_setField_rec hz (by simp) fun h₁ hz₁ hs₁ => ?_)
  replace hz₁ : IsZipB h₁ z TI TO b .ellipsis := hz₁
  have g1 : ItA h₁ i1 l1 k1 xs := h1.ext (fun o e => hs₁.extBut _ _ D.i1z e) (fun o e => hs₁.extBut _ _ D.l1z e)
  have g2 : ItA h₁ i2 l2 k2 ys := h2.ext (fun o e => hs₁.extBut _ _ D.i2z e) (fun o e => hs₁.extBut _ _ D.l2z e)
  refine wpAny_bind ?_
  simp only [List.zipIdx_cons, List.zipIdx_nil, List.forIn_cons, List.forIn_nil]
  cases b with
  | false =>
    refine wpAny_bind (wpAny_bind (wpAny_onRaise ?_))
    show wpAny _ _ (Builtin.SmallTypes.nextOf (.ref i1) >>= _) _ _ _
    cases hx : xs[k1]? with
    | none =>
      refine wpAny_bind (nextOf_A_end hh g1 hx fun h₂ e hs₂ he => ?_)
      obtain ⟨oe, hoe, hce⟩ := he
      have hz₂ : IsZipB h₂ z TI TO false .ellipsis := hs₂ _ _ D.i1z.symm hz₁
      have hez : e ≠ z := fun x => by subst x; rw [hz₂] at hoe; cases hoe; simp at hce
      refine wpAny_setField_rec hz₂ (by simp) fun h₃ _ hs₃ => hE h₃ e (fun c o c1 _ c3 _ x => hs₃.extBut _ _ c1 (hs₂ _ _ c3 (hs₁.extBut _ _ c1 x))) ⟨oe, hs₃.extBut _ _ hez hoe, hce⟩
    | some x =>
      have hy : ys[k2]? = none := by rcases hend with h | h; rw [hx] at h; cases h; exact h
      refine wpAny_bind (nextOf_A g1 D.l1i1 hx fun h₂ h1₂ hs₂ => wpAny_pure ?_)
      have hTO₂ : IsPair h₂ TO a c := hs₂.extBut _ _ D.TOi1 (hs₁.extBut _ _ D.TOz hTO)
      refine wpAny_bind (wpAny_seqItems hTO₂ rfl ?_)
      refine wpAny_bind (wpAny_updateSeq_pair hTO₂ fun h₃ hTO₃ hs₃ => ?_)
      refine wpAny_bind (wpAny_letGo (wpAny_pure ?_))
      refine wpAny_bind (wpAny_bind (wpAny_onRaise ?_))
      show wpAny _ _ (Builtin.SmallTypes.nextOf (.ref i2) >>= _) _ _ _
      have g3 : ItA h₃ i2 l2 k2 ys := g2.ext (fun o e => hs₃.extBut _ _ D.TOi2.symm (hs₂.extBut _ _ D.i12.symm e)) (fun o e => hs₃.extBut _ _ D.l2TO (hs₂.extBut _ _ D.l2i1 e))
      refine wpAny_bind (nextOf_A_end hh g3 hy fun h₄ e hs₄ he => ?_)
      obtain ⟨oe, hoe, hce⟩ := he
      have hz₄ : IsZipB h₄ z TI TO false .ellipsis := hs₄ _ _ D.i2z.symm (hs₃.extBut _ _ D.TOz.symm (hs₂.extBut _ _ D.i1z.symm hz₁))
      have hez : e ≠ z := fun x => by subst x; rw [hz₄] at hoe; cases hoe; simp at hce
      refine wpAny_setField_rec hz₄ (by simp) fun h₅ _ hs₅ => hE h₅ e (fun c o c1 c2 c3 c4 x => hs₅.extBut _ _ c1 (hs₄ _ _ c4 (hs₃.extBut _ _ c2 (hs₂.extBut _ _ c3 (hs₁.extBut _ _ c1 x))))) ⟨oe, hs₅.extBut _ _ hez hoe, hce⟩
  | true =>
    obtain ⟨hx, hy⟩ := hst rfl
    refine wpAny_bind (wpAny_bind (wpAny_onRaise ?_))
    show wpAny _ _ (Builtin.SmallTypes.nextOrEnd (.ref i1)) _ _ _
    refine nextOrEnd_A_end hh g1 hx fun h₂ hs₂ => ?_
    have hz₂ : IsZipB h₂ z TI TO true .ellipsis := hs₂ _ _ D.i1z.symm hz₁
    refine wpAny_bind (wpAny_setField_rec hz₂ (by simp) fun h₃ hz₃ hs₃ => ?_)
    refine wpAny_bind ?_
    show wpAny _ _ ((forIn (m := Sem) [(Value.ref i2, 1)] PUnit.unit _) >>= _) _ _ _
    simp only [List.forIn_cons, List.forIn_nil]
    refine wpAny_bind (wpAny_bind (wpAny_bind ?_))
    have g3 : ItA h₃ i2 l2 k2 ys := g2.ext (fun o e => hs₃.extBut _ _ D.i2z (hs₂ _ _ D.i12.symm e)) (fun o e => hs₃.extBut _ _ D.l2z (hs₂ _ _ D.l2i1 e))
    refine nextOrEnd_A_end hh g3 hy fun h₄ hs₄ => ?_
    show wpAny _ _ (pure (ForInStep.yield PUnit.unit)) _ _ _
    refine wpAny_pure ?_
    show wpAny _ _ (pure PUnit.unit) _ _ _
    refine wpAny_pure (wpAny_bind (wpAny_rule ?_))
    exact stop_raise hh fun h' e k he => hE h' e (fun c o c1 c2 c3 c4 x => k _ _ (hs₄ _ _ c4 (hs₃.extBut _ _ c1 (hs₂ _ _ c3 (hs₁.extBut _ _ c1 x))))) he
end
end Mi
namespace Mi
open PySem L2 PySem.Spec PyProof.Rows
def SeqB (h : Heap) : Bool → Addr → Array Value → Prop
  | false, l, xs => h.IsList l xs
  | true, l, xs => h.IsTuple l xs
abbrev itObj (t : Bool) (l : Addr) : Obj := { cls := .type (bif t then "tuple_iterator" else "list_iterator"), data := .fields #[.ref l, .int 0 0] }
theorem SeqB.push {h : Heap} {t : Bool} {l : Addr} {xs : Array Value} (a : SeqB h t l xs) (o : Obj) : SeqB (h.push o) t l xs := by
  cases t
  · exact Heap.IsList.push a _
  · exact Heap.IsTuple.push a _
theorem iter_B {prog : Program} {w : World} {A : PySem.Around} {E : Value → Shared → Prop} {s : Shared} {t : Bool} {l : Addr} {xs : Array Value} {Q : Value → Shared → Prop} (h : SeqB s.heap t l xs)
    (hq : Q (.ref s.heap.objs.size) { s with heap := s.heap.push (itObj t l) }) : wpAny (model prog w) A (pyIter (.ref l)) Q E s := by
  cases t
  · exact wpAny_pyIter_list h hq
  · exact wpAny_pyIter_tuple h hq
abbrev zB1 (t1 : Bool) (h : Heap) (l1 : Addr) : Heap := h.push (itObj t1 l1)
abbrev zB2 (t1 t2 : Bool) (h : Heap) (l1 l2 : Addr) : Heap := (zB1 t1 h l1).push (itObj t2 l2)
abbrev zB3 (t1 t2 : Bool) (h : Heap) (l1 l2 : Addr) : Heap := (zB2 t1 t2 h l1 l2).push { cls := .type "tuple", data := .seq #[.ref h.objs.size, .ref (zB1 t1 h l1).objs.size] }
abbrev zB4 (t1 t2 : Bool) (h : Heap) (l1 l2 : Addr) : Heap := (zB3 t1 t2 h l1 l2).push { cls := .type "tuple", data := .seq #[.none, .none] }
abbrev zB5 (b t1 t2 : Bool) (h : Heap) (l1 l2 : Addr) : Heap := (zB4 t1 t2 h l1 l2).push { cls := .type "zip", data := .fields #[.none, .bool false, .bool b, .ref (zB2 t1 t2 h l1 l2).objs.size, .ref (zB3 t1 t2 h l1 l2).objs.size] }
def kwZ : Bool → List (Str × Value)
  | true => [(Str.ofString "strict", .bool true)]
  | false => []
theorem meets_zipB_new (b t1 t2 : Bool) (l1 l2 : Addr) (xs ys : Array Value) :
    Meets (Builtin.«zip.__new__» ⟨[.type "zip", .ref l1, .ref l2], kwZ b⟩) (fun _ R s => SeqB s.heap t1 l1 xs ∧ SeqB s.heap t2 l2 ys ∧
      R (.ok (.ret (.ref (zB4 t1 t2 s.heap l1 l2).objs.size))) { s with heap := zB5 b t1 t2 s.heap l1 l2 }) :=
  .of_wp fun prog w A R s h => by
    obtain ⟨hp, g, d, tk, os⟩ := s; obtain ⟨hl1, hl2, h⟩ := h
    have hsub := sub_zip
    have hL1 : SeqB (Shared.heap ⟨hp, g, d, tk, os⟩) t1 l1 xs := hl1
    have hL2 : SeqB (Shared.heap ⟨hp.push (itObj t1 l1), g, d, tk, os⟩) t2 l2 ys := SeqB.push hl2 _
    have e1 : (Str.ofString "strict" == ("strict" : Str)) = true := by decide +kernel
    have e2 : (Str.ofString "strict" != ("strict" : Str)) = false := by decide +kernel
    cases b with
    | false =>
      show wpAny _ _ (Builtin.«zip.__new__» ⟨[.type "zip", .ref l1, .ref l2], []⟩) _ _ _
      wp_walk using iter_B hL1, iter_B hL2
      exact ⟨_, rfl, h⟩
    | true =>
      show wpAny _ _ (Builtin.«zip.__new__» ⟨[.type "zip", .ref l1, .ref l2], [(Str.ofString "strict", .bool true)]⟩) _ _ _
      wp_walk using iter_B hL1, iter_B hL2
      exact ⟨_, rfl, h⟩
namespace F
theorem typeCall_zip_kw (a b c : Value) : checkTypeCall "zip" ⟨[a, b], [(Str.ofString "strict", c)]⟩ = pure () := by kernel_rfl
theorem newCall_zip_kw (a b c : Value) : checkBuiltinCall "zip.__new__" ⟨[.type "zip", a, b], [(Str.ofString "strict", c)]⟩ = pure () := by kernel_rfl
theorem args_init_zip_kw (obj a b c : Value) : argsOk "object.__init__" ⟨[obj, a, b], [(Str.ofString "strict", c)]⟩ := by unfold argsOk; kernel_rfl
end F
section
variable {prog : Program} {w : World} {A : PySem.Around} {E : Value → Shared → Prop} {s : Shared}
theorem ItA.new {h : Heap} {t : Bool} {l it : Addr} {xs : Array Value} (h1 : h.get? it = some (itObj t l)) (h2 : SeqB h t l xs) : ItA h it l 0 xs := by
  cases t
  · exact .inl ⟨⟨_, h1, rfl, rfl⟩, h2⟩
  · exact .inr ⟨⟨_, h1, rfl, rfl⟩, h2⟩
theorem call_zipB {b t1 t2 : Bool} {l1 l2 : Addr} {xs ys : Array Value} {Q : Value → Shared → Prop} (hl1 : SeqB s.heap t1 l1 xs) (hl2 : SeqB s.heap t2 l2 ys)
    (h : ∀ h', IsZipB h' (s.heap.objs.size + 4) (s.heap.objs.size + 2) (s.heap.objs.size + 3) b .none → IsPair h' (s.heap.objs.size + 2) (.ref s.heap.objs.size) (.ref (s.heap.objs.size + 1)) →
      IsPair h' (s.heap.objs.size + 3) .none .none → ItA h' s.heap.objs.size l1 0 xs → ItA h' (s.heap.objs.size + 1) l2 0 ys → h'.objs.size = s.heap.objs.size + 5 →
      (∀ c o, s.heap.get? c = some o → h'.get? c = some o) → Q (.ref (s.heap.objs.size + 4)) { s with heap := h' }) :
    wpAny (model prog w) A (call (.type "zip") [.ref l1, .ref l2] (kwZ b)) Q E s := by
  have key : (s.heap.objs.size + 4 = (zB4 t1 t2 s.heap l1 l2).objs.size) ∧ (Shared.TypeIs { s with heap := zB5 b t1 t2 s.heap l1 l2 } (.ref (zB4 t1 t2 s.heap l1 l2).objs.size) "zip" ∧ Q (.ref (zB4 t1 t2 s.heap l1 l2).objs.size) { s with heap := zB5 b t1 t2 s.heap l1 l2 }) := by
    have z1 : (zB1 t1 s.heap l1).objs.size = s.heap.objs.size + 1 := Heap.size_push ..
    have z2 : (zB2 t1 t2 s.heap l1 l2).objs.size = s.heap.objs.size + 2 := by rw [Heap.size_push, z1]
    have z3 : (zB3 t1 t2 s.heap l1 l2).objs.size = s.heap.objs.size + 3 := by rw [Heap.size_push, z2]
    have z4 : (zB4 t1 t2 s.heap l1 l2).objs.size = s.heap.objs.size + 4 := by rw [Heap.size_push, z3]
    have z5 : (zB5 b t1 t2 s.heap l1 l2).objs.size = s.heap.objs.size + 5 := by rw [Heap.size_push, z4]
    have g5 : (zB5 b t1 t2 s.heap l1 l2).get? (zB4 t1 t2 s.heap l1 l2).objs.size = some _ := Heap.get?_push_size _ rfl
    have g4 : (zB5 b t1 t2 s.heap l1 l2).get? (zB3 t1 t2 s.heap l1 l2).objs.size = some _ := Heap.get?_push_of_some _ (Heap.get?_push_size _ rfl)
    have g3 : (zB5 b t1 t2 s.heap l1 l2).get? (zB2 t1 t2 s.heap l1 l2).objs.size = some _ := Heap.get?_push_of_some _ (Heap.get?_push_of_some _ (Heap.get?_push_size _ rfl))
    have g2 : (zB5 b t1 t2 s.heap l1 l2).get? (zB1 t1 s.heap l1).objs.size = some (itObj t2 l2) := Heap.get?_push_of_some _ (Heap.get?_push_of_some _ (Heap.get?_push_of_some _ (Heap.get?_push_size _ rfl)))
    have g1 : (zB5 b t1 t2 s.heap l1 l2).get? s.heap.objs.size = some (itObj t1 l1) := Heap.get?_push_of_some _ (Heap.get?_push_of_some _ (Heap.get?_push_of_some _ (Heap.get?_push_of_some _ (Heap.get?_push_size _ rfl))))
    rw [z2, z3, z4] at g5
    rw [z1, z2] at g3
    rw [z3] at g4
    rw [z1] at g2
    rw [z4]
    have up : ∀ {t l xs}, SeqB s.heap t l xs → SeqB (zB5 b t1 t2 s.heap l1 l2) t l xs := fun h => ((((h.push _).push _).push _).push _).push _
    exact ⟨rfl, ⟨_, g5, rfl⟩, h _ g5 g3 g4 (.new g1 (up hl1)) (.new g2 (up hl2)) z5 fun c o x =>
      Heap.get?_push_of_some _ (Heap.get?_push_of_some _ (Heap.get?_push_of_some _ (Heap.get?_push_of_some _ (Heap.get?_push_of_some _ x))))⟩
  cases b with
  | false =>
    exact callType_new PySem.F.called_zip (by decide) (PySem.F.typeCall_zip_2 _ _) (PySem.F.newCall_zip_2 _ _) (fun obj => PySem.F.args_object_init_3 obj _ _) PySem.F.entry_zip_new
      (meets_zipB_new false t1 t2 l1 l2 xs ys) ⟨hl1, hl2, key.2⟩
  | true =>
    exact callType_newKw PySem.F.called_zip (by decide) (F.typeCall_zip_kw _ _ _) (F.newCall_zip_kw _ _ _) (fun obj => F.args_init_zip_kw obj _ _ _) PySem.F.entry_zip_new
      (meets_zipB_new true t1 t2 l1 l2 xs ys) ⟨hl1, hl2, key.2⟩
end
end Mi
namespace Mi
open PySem L2 PySem.Spec PyProof.Rows
section
variable {prog : Program} {w : World} {A : PySem.Around} {E : Value → Shared → Prop} {s : Shared}
theorem go_zipB {b : Bool} {elts : List Expr} {x1} {pos : Pos} {z TI TO T : Addr} {Q : Unit → Shared → Prop} (hz : IsZipB s.heap z TI TO b (rawInt T))
    (hQ : ∀ h', IsZipB h' z TI TO b .none → Heap.SameBut z s.heap h' → Q () { s with heap := h' }) :
    wpAny (model prog w) A (letOwnedTupleGo (.Tuple elts x1 pos) (.ref z) (.ref T)) Q E s := by
  unfold letOwnedTupleGo
  refine wpAny_bind (wpAny_load hz ?_)
  show wpAny _ _ (if (["enumerate", "zip", "dict_itemiterator", "dict_reverseitemiterator", "odict_iterator", "itertools.zip_longest", "itertools.pairwise"].contains "zip" &&
      (#[rawInt T, .bool false, .bool b, .ref TI, .ref TO] : Array Value)[0]? == some (rawInt T)) = true then _ else _) Q E s
  rw [if_pos (by simp)]
  refine wpAny_bind (wpAny_rule ?_)
  show wpAny _ _ (setField (.ref z) 0 .none) Q E s
  exact wpAny_setField_rec hz (by simp) fun h' hz' hs' => hQ h' hz' hs'
theorem pyIter_zipB {b : Bool} {z TI TO : Addr} {f0 : Value} {Q : Value → Shared → Prop} (hz : IsZipB s.heap z TI TO b f0) (h : Q (.ref z) s) : wpAny (model prog w) A (pyIter (.ref z)) Q E s := by
  have hT : s.TypeIs (.ref z) "zip" := ⟨_, hz, rfl⟩
  refine wpAny_pyIter_slot hT PySem.F.slot_zip_iter (wpAny_call_entry PySem.F.slot_zip_iter hT PySem.F.entry_zip_iter ?_ (PySem.F.args_zip_iter_1 _))
  show wpAny _ _ (ret (.ref z)) _ _ s
  exact wpAny_pure ⟨_, rfl, "zip", _, hT, PySem.F.slot_zip_next.lookup, h⟩
theorem pyNext_zipB {b : Bool} {z TI TO i1 i2 l1 l2 : Addr} {k1 k2 : Nat} {xs ys : Array Value} {x y a c : Value} {Q : Option Value → Shared → Prop} (D : ZipApart z TI TO i1 i2 l1 l2)
    (hz : IsZipB s.heap z TI TO b .none) (hTI : IsPair s.heap TI (.ref i1) (.ref i2)) (hTO : IsPair s.heap TO a c)
    (h1 : ItA s.heap i1 l1 k1 xs) (h2 : ItA s.heap i2 l2 k2 ys) (hx : xs[k1]? = some x) (hy : ys[k2]? = some y)
    (hQ : ∀ h', IsZipB h' z TI TO b (rawInt s.heap.objs.size) → IsPair h' TO x y → ItA h' i1 l1 (k1 + 1) xs → ItA h' i2 l2 (k2 + 1) ys → IsPair h' s.heap.objs.size x y → h'.objs.size = s.heap.objs.size + 1 →
      (∀ c o, c ≠ z → c ≠ TO → c ≠ i1 → c ≠ i2 → s.heap.get? c = some o → h'.get? c = some o) → Q (some (.ref s.heap.objs.size)) { s with heap := h' }) :
    wpAny (model prog w) A (pyNext (.ref z)) Q E s := by
  have hT : s.TypeIs (.ref z) "zip" := ⟨_, hz, rfl⟩
  unfold pyNext
  exact wpAny_bind (wpAny_attempt (wpAny_callSpecial?_slot (name := Str.ofString "__next__") hT PySem.F.slot_zip_next
    (wpAny_call_entry PySem.F.slot_zip_next hT PySem.F.entry_zip_next
      (zipB_next D hz hTI hTO h1 h2 hx hy fun h' a1 a2 a3 a4 a5 a6 a7 => wpAny_pure (hQ h' a1 a2 a3 a4 a5 a6 a7)) (PySem.F.args_zip_next_1 _))))
theorem pyNext_zipB_end {b : Bool} {z TI TO i1 i2 l1 l2 : Addr} {k1 k2 : Nat} {xs ys : Array Value} {a c : Value} {Q : Option Value → Shared → Prop} (hh : A.handled = none) (D : ZipApart z TI TO i1 i2 l1 l2)
    (hz : IsZipB s.heap z TI TO b .none) (hTI : IsPair s.heap TI (.ref i1) (.ref i2)) (hTO : IsPair s.heap TO a c)
    (h1 : ItA s.heap i1 l1 k1 xs) (h2 : ItA s.heap i2 l2 k2 ys) (hst : b = true → xs[k1]? = none ∧ ys[k2]? = none) (hend : xs[k1]? = none ∨ ys[k2]? = none)
    (hQ : ∀ h', (∀ c o, c ≠ z → c ≠ TO → c ≠ i1 → c ≠ i2 → s.heap.get? c = some o → h'.get? c = some o) → Q none { s with heap := h' }) : wpAny (model prog w) A (pyNext (.ref z)) Q E s := by
  have hT : s.TypeIs (.ref z) "zip" := ⟨_, hz, rfl⟩
  unfold pyNext
  refine wpAny_bind (wpAny_attempt (wpAny_callSpecial?_slot (name := Str.ofString "__next__") hT PySem.F.slot_zip_next
    (wpAny_call_entry PySem.F.slot_zip_next hT PySem.F.entry_zip_next (zipB_end hh D hz hTI hTO h1 h2 hst hend fun h' e hk he => ?_) (PySem.F.args_zip_next_1 _))))
  obtain ⟨o, ho, hc⟩ := he
  refine wpAny_bind (wpAny_isInstance (T := "StopIteration") (b := true) ⟨o, ho, hc⟩ isSubtype_stop ?_)
  exact wpAny_pure (hQ _ hk)
end
def SqB (K : PySem.W.Frag) (t : Bool) (H : Hp) (a : Addr) (xs : List V) : Prop := match t with
  | false => SqL K H a xs
  | true => SqT K H a xs
theorem SqB.real {X : Cx} {pins : List (Addr × PySem.Obj)} {σ : L2.St} {H : Hp} {s : Shared} {t : Bool} {a : Addr} {xs : List V} (I : Inv X pins σ H s) (h : SqB X.K t H a xs) : ∃ its, Vals xs its ∧ SeqB s.heap t a its.toArray ∧ a < s.heap.objs.size := by
  cases t
  · obtain ⟨its, rv, p, _⟩ := I.list h
    exact ⟨its, rv, p.isList, p.lt⟩
  · obtain ⟨its, rv, p, _⟩ := I.tuple h
    obtain ⟨o, ho, _⟩ := id p
    exact ⟨its, rv, p, Heap.lt_size ho⟩
def ItzB (K : PySem.W.Frag) (b t1 t2 : Bool) (a c : Addr) : It :=
  ⟨fun i H => ∃ (xs ys : List V) (x y : V), SqB K t1 H a xs ∧ SqB K t2 H c ys ∧ xs[i]? = some x ∧ ys[i]? = some y,
    fun i H v H' => ∃ T x y, v = .ref T ∧ H T = none ∧ H' = upd H T (.tup [x, y]) ∧ (∀ xs, SqB K t1 H a xs → xs[i]? = some x) ∧ ∀ ys, SqB K t2 H c ys → ys[i]? = some y,
    fun i H => ∃ xs ys : List V, SqB K t1 H a xs ∧ SqB K t2 H c ys ∧ (b = true → xs.length ≤ i ∧ ys.length ≤ i) ∧ (xs.length ≤ i ∨ ys.length ≤ i)⟩
theorem SqB.inj {X : Cx} {pins : List (Addr × PySem.Obj)} {σ : L2.St} {H : Hp} {s : Shared} {t : Bool} {a : Addr} {xs ys : List V} (I : Inv X pins σ H s) (h : SqB X.K t H a xs) (h2 : SqB X.K t H a ys) : xs = ys := by
  cases t
  · exact I.list_inj h h2
  · exact I.tuple_inj h h2
def ItO (h : Heap) (t : Bool) (it l : Addr) (k : Nat) : Prop := match t with
  | false => h.IsListIter it l k
  | true => h.IsTupleIter it l k
theorem ItO.a {h : Heap} {t : Bool} {it l : Addr} {k : Nat} {xs : Array Value} (h1 : ItO h t it l k) (h2 : SeqB h t l xs) : ItA h it l k xs := by
  cases t
  · exact .inl ⟨h1, h2⟩
  · exact .inr ⟨h1, h2⟩
theorem ItA.o {h : Heap} {t : Bool} {it l : Addr} {k : Nat} {xs ys : Array Value} (h1 : ItA h it l k xs) (h2 : SeqB h t l ys) : ItO h t it l k := by
  rcases h1 with ⟨h1, ⟨o, e, c, n, d⟩⟩ | ⟨h1, ⟨o, e, c, n, d⟩⟩ <;> cases t <;> obtain ⟨o2, e2, c2, n2, d2⟩ := h2 <;> rw [e] at e2 <;> have e2 := Option.some.inj e2 <;> subst e2
  · exact h1
  · rw [c] at c2; exact absurd c2 (by decide)
  · rw [c] at c2; exact absurd c2 (by decide)
  · exact h1
theorem ItO.ext {h h' : Heap} {t : Bool} {it l : Addr} {k : Nat} (a : ItO h t it l k) (h1 : ∀ o, h.get? it = some o → h'.get? it = some o) : ItO h' t it l k := by
  cases t
  · exact Heap.IsListIter.at a h1
  · exact Heap.IsTupleIter.at a h1
theorem ItO.obj {h : Heap} {t : Bool} {it l : Addr} {k : Nat} (a : ItO h t it l k) : ∃ o, h.get? it = some o ∧ ∀ v, o.data ≠ .cell v := by
  cases t
  · obtain ⟨o, e, _, d⟩ := a
    exact ⟨o, e, fun v q => by rw [d] at q; cases q⟩
  · obtain ⟨o, e, _, d⟩ := a
    exact ⟨o, e, fun v q => by rw [d] at q; cases q⟩
theorem SeqB.ext {h h' : Heap} {t : Bool} {l : Addr} {xs : Array Value} (a : SeqB h t l xs) (h1 : ∀ o, h.get? l = some o → h'.get? l = some o) : SeqB h' t l xs := by
  cases t
  · exact Heap.IsList.at a h1
  · obtain ⟨o, e, r⟩ := a
    exact ⟨o, h1 o e, r⟩
theorem turn_zipB {P : Program} {w : World} {K : PySem.W.Frag} {elts : List Expr} {kk : Nat} {tpos : Pos} {b t1 t2 : Bool} {a c z TI TO i1 i2 : Addr} (D : ZipApart z TI TO i1 i2 a c) :
    Turn P w K (.Tuple elts kk tpos) (ItzB K b t1 t2 a c) [z, TI, TO, i1, i2] z (fun i h => IsZipB h z TI TO b .none ∧ IsPair h TI (.ref i1) (.ref i2) ∧ (∃ x y, IsPair h TO x y) ∧ ItO h t1 i1 a i ∧ ItO h t2 i2 c i) where
  mem := by simp
  obj := fun i h st c hc => by
    obtain ⟨hz, hTI, ⟨x, y, hTO⟩, h1, h2⟩ := st
    have e' : c = z ∨ c = TI ∨ c = TO ∨ c = i1 ∨ c = i2 := by simpa using hc
    rcases e' with q | q | q | q | q
    · rw [q]; exact ⟨_, hz, fun v q => nomatch q⟩
    · rw [q]; exact ⟨_, hTI, fun v q => nomatch q⟩
    · rw [q]; exact ⟨_, hTO, fun v q => nomatch q⟩
    · rw [q]; exact h1.obj
    · rw [q]; exact h2.obj
  keep := fun i h h' st k => by
    obtain ⟨hz, hTI, ⟨x, y, hTO⟩, h1, h2⟩ := st
    exact ⟨k z (by simp) _ hz, k TI (by simp) _ hTI, ⟨x, y, k TO (by simp) _ hTO⟩, h1.ext fun o q => k i1 (by simp) o q, h2.ext fun o q => k i2 (by simp) o q⟩
  item := by
    intro X hP hw hK hc i pins s σ H E I hf st hg
    subst hP hw hK
    obtain ⟨hz, hTI, ⟨x0, y0, hTO⟩, h1, h2⟩ := st
    obtain ⟨xs, ys, x, y, hqx, hqy, hx, hy⟩ := hg
    obtain ⟨its, rv, p, _⟩ := SqB.real I hqx
    obtain ⟨its2, rv2, p2, _⟩ := SqB.real I hqy
    obtain ⟨u, hu, ru⟩ := rv.get hx
    obtain ⟨u2, hu2, ru2⟩ := rv2.get hy
    have hzl : z < s.heap.objs.size := Heap.lt_size hz
    have o1 := h1.obj
    have o2 := h2.obj
    refine pyNext_zipB D hz hTI hTO (h1.a p) (h2.a p2) (x := u) (y := u2) (by simpa using hu) (by simpa using hu2) fun h' z' TO' h1' h2' hT hsz hk => ?_
    refine ⟨_, rfl, go_zipB (s := { s with heap := h' }) z' fun h'' z'' sb => ?_⟩
    have hT2 : h''.get? s.heap.objs.size = some { cls := .type "tuple", data := .seq #[u, u2] } := (sb.2 _ (Nat.ne_of_gt hzl)).trans hT
    have new : ObjOk X.prog X.w (upd H s.heap.objs.size (.tup [x, y])) h'' s.heap.objs.size (.tup [x, y]) :=
      ⟨by show 2 ≤ sizeLine; decide, [u, u2], .cons ru (.cons ru2 .nil), ⟨_, hT2, rfl, _, rfl⟩⟩
    have I1 : Inv X pins σ (upd H s.heap.objs.size (.tup [x, y])) { s with heap := h'' } :=
      I.turnedNew (t' := s.toks) (ch := [z, TI, TO, i1, i2]) (fun c o hb q => (sb.2 c (fun q' => hb (by simp [q']))).trans (hk c o (fun q' => hb (by simp [q'])) (fun q' => hb (by simp [q'])) (fun q' => hb (by simp [q'])) (fun q' => hb (by simp [q'])) q)) hf (Nat.le_refl _) new
    refine ⟨.ref s.heap.objs.size, _, I1, rfl, ⟨_, x, y, rfl, I.hok.fresh (Nat.le_refl _), rfl, fun l hl => by rw [SqB.inj I hl hqx]; exact hx, fun l hl => by rw [SqB.inj I hl hqy]; exact hy⟩, ⟨z'', ?_, ⟨u, u2, ?_⟩, ?_, ?_⟩, fun c hcm => ?_⟩
    · exact (sb.2 _ D.TIz).trans (hk _ _ D.TIz D.TITO D.TIi1 D.TIi2 hTI)
    · exact (sb.2 _ D.TOz).trans TO'
    · exact (ItA.o h1' (p.ext fun o q => hk _ _ D.l1z D.l1TO D.l1i1 D.l1i2 q)).ext fun o q => (sb.2 _ D.i1z).trans q
    · exact (ItA.o h2' (p2.ext fun o q => hk _ _ D.l2z D.l2TO D.l2i1 D.l2i2 q)).ext fun o q => (sb.2 _ D.i2z).trans q
    · have hlt : c < s.heap.objs.size := by
        have e' : c = z ∨ c = TI ∨ c = TO ∨ c = i1 ∨ c = i2 := by simpa using hcm
        rcases e' with q | q | q | q | q
        · rw [q]; exact hzl
        · rw [q]; exact Heap.lt_size hTI
        · rw [q]; exact Heap.lt_size hTO
        · rw [q]; obtain ⟨_, e1, _⟩ := o1; exact Heap.lt_size e1
        · rw [q]; obtain ⟨_, e2, _⟩ := o2; exact Heap.lt_size e2
      rw [upd_ne (Nat.ne_of_lt hlt)]
      exact (hf c hcm).1
  done := by
    intro X hP hw hK hc i pins s σ H E I hf st hg
    subst hP hw hK
    obtain ⟨hz, hTI, ⟨x0, y0, hTO⟩, h1, h2⟩ := st
    obtain ⟨xs, ys, hqx, hqy, hst, hend⟩ := hg
    obtain ⟨its, rv, p, _⟩ := SqB.real I hqx
    obtain ⟨its2, rv2, p2, _⟩ := SqB.real I hqy
    have l1 := rv.length
    have l2 := rv2.length
    have he : its.toArray[i]? = none ∨ its2.toArray[i]? = none := by
      rcases hend with q | q
      · exact .inl (by simp; omega)
      · exact .inr (by simp; omega)
    have hs : b = true → its.toArray[i]? = none ∧ its2.toArray[i]? = none := fun q => by
      obtain ⟨q1, q2⟩ := hst q
      exact ⟨by simp; omega, by simp; omega⟩
    exact pyNext_zipB_end (I.ok.hd hc) D hz hTI hTO (h1.a p) (h2.a p2) hs he fun h' hk => ⟨rfl, I.turnedL (t' := s.toks) (ch := [z, TI, TO, i1, i2]) (fun c o hb q =>
      hk c o (fun q' => hb (by simp [q'])) (fun q' => hb (by simp [q'])) (fun q' => hb (by simp [q'])) (fun q' => hb (by simp [q'])) q) hf⟩
  self := fun A i s Q E st h => pyIter_zipB st.1 h
def iZipB (K : PySem.W.Frag) (b : Bool) (ta : TA) : TI := fun σ H R => ta σ H fun vs H1 => ∃ a c xs ys t1 t2, vs = [.ref a, .ref c] ∧ SqB K t1 H1 a xs ∧ SqB K t2 H1 c ys ∧ R (ItzB K b t1 t2 a c) H1
theorem pi_zipB_end {X : Cx} {pins : List (Addr × PySem.Obj)} {σ : L2.St} {H1 : Hp} {s1 : Shared} {tpos : Pos} {elts : List Expr} {kk : Nat} {b t1 t2 : Bool} {a c : Addr} {xs ys : List V} {R : It → Hp → Prop} (I1 : Inv X pins σ H1 s1) (hx : SqB X.K t1 H1 a xs) (hy : SqB X.K t2 H1 c ys) (q : R (ItzB X.K b t1 t2 a c) H1) :
    wpAny (model X.prog X.w) X.A (call (.type "zip") [.ref a, .ref c] (kwZ b)) (fun v s2 => wpAny (model X.prog X.w) X.A (pyIter v) (PIE X pins σ (.Tuple elts kk tpos) R) X.xe s2) X.xe s1 := by
  have fresh5 : ∀ c, c ∈ [s1.heap.objs.size + 4, s1.heap.objs.size + 2, s1.heap.objs.size + 3, s1.heap.objs.size, s1.heap.objs.size + 1] → FpOk X pins H1 c := fun c hcm => by
    have e' : c = s1.heap.objs.size + 4 ∨ c = s1.heap.objs.size + 2 ∨ c = s1.heap.objs.size + 3 ∨ c = s1.heap.objs.size ∨ c = s1.heap.objs.size + 1 := by simpa using hcm
    have hle : s1.heap.objs.size ≤ c := by
      rcases e' with z | z | z | z | z
      · rw [z]; exact Nat.le_add_right _ _
      · rw [z]; exact Nat.le_add_right _ _
      · rw [z]; exact Nat.le_add_right _ _
      · rw [z]; exact Nat.le_refl _
      · rw [z]; exact Nat.le_add_right _ _
    exact I1.fpOk hle (I1.hok.fresh hle)
  obtain ⟨its, rv, p1, l1⟩ := SqB.real I1 hx
  obtain ⟨its2, rv2, p2, l2⟩ := SqB.real I1 hy
  refine call_zipB p1 p2 fun h' hz hTI hTO h1 h2 hsz hk => pyIter_zipB hz ?_
  have I2 : Inv X pins σ H1 { s1 with heap := h' } := I1.kept (t' := s1.toks) hk
  exact ⟨s1.heap.objs.size + 4, [s1.heap.objs.size + 4, s1.heap.objs.size + 2, s1.heap.objs.size + 3, s1.heap.objs.size, s1.heap.objs.size + 1], _, _, H1, rfl, I2, turn_zipB (PySem.W.ktu_apart s1.heap.objs.size a c l1 l2),
    ⟨hz, hTI, ⟨_, _, hTO⟩, h1.o (p1.ext fun o q => hk _ _ q), h2.o (p2.ext fun o q => hk _ _ q)⟩, fresh5, q⟩
theorem callWith_tyK {M : Model} {A : Around} {E : Value → Shared → Prop} {s : Shared} {env : Env} {pos : Pos} {T : String} {e : Expr} {rest : List Expr} {kws : List Keyword} {Q : Value → Shared → Prop} (hall : (backToKw pos (keywordEach kws env)).all (·.1.isSome) = true)
    (h : wpAny M A (spliced (backTo pos (starEach (e :: rest) env))) (fun vs s₁ => wpAny M A (evalAll ((backToKw pos (keywordEach kws env)).map (·.2)))
      (fun ks s₂ => wpAny M A (call (.type T) vs (((backToKw pos (keywordEach kws env)).filterMap (·.1)).zip ks)) Q E s₂) E s₁) E s)
    (hplain : ((backTo pos (starEach (e :: rest) env)).any (·.1) || (backToKw pos (keywordEach kws env)).any (·.1.isNone)) = false) (he : starEach (e :: rest) env = (false, eval e env) :: starEach rest env := by rfl) :
    wpAny M A (callWith pos (.type T) [] (backTo pos (starEach (e :: rest) env)) (backToKw pos (keywordEach kws env))) Q E s := by
  unfold callWith
  refine wpAny_bind (wpAny_holding (wpAny_mono (evalArgs_kw2 (Q := fun a s₁ => wpAny M A (call (.type T) a.pos a.kw) Q E s₁) hall h he) (fun a s₁ h₁ => wpAny_bind (wpAny_standAt ?_)) fun _ _ x => x))
  simp only [hplain]
  refine wpAny_bind (wpAny_pure ?_)
  exact wpAny_bind (wpAny_mono h₁ (fun r s₂ hr => wpAny_bind (wpAny_holding (wpAny_point (wpAny_pure hr)))) fun _ _ x => x)
theorem pi_zipS {X : Cx} {e e2 : Expr} {ta : TA} {p pos tpos kp cp : Pos} {ck : Nat} {elts : List Expr} {kk : Nat} (hg : Gl X "zip") (hm : X.mg "zip" = none) (ha : PA X [e, e2] ta)
    (hs : starEach [e, e2] X.env = (false, eval e X.env) :: starEach [e2] X.env := by rfl) (hpl : ((backTo pos (starEach [e, e2] X.env)).any (·.1) || (backToKw pos (keywordEach [⟨some "strict", .Constant (.bool true) ck cp, kp⟩] X.env)).any (·.1.isNone)) = false := by rfl) :
    PI X (.Tuple elts kk tpos) (.Call (.Name "zip" p) [e, e2] [⟨some "strict", .Constant (.bool true) ck cp, kp⟩] pos) (iZipB X.K true ta) := by
  refine ⟨fun pins s σ H R I h => ?_⟩
  refine wpAny_Call_Name_kw (ld_blt I hg hm PyProof.Rows.boot_zip (callWith_tyK rfl (thn (ha.run pos pins s σ H _ I h) fun us s1 ⟨vs, H1, I1, r1, q1⟩ => ?_) hpl hs))
  obtain ⟨a, c, xs, ys, t1, t2, rfl, hx, hy, q⟩ := q1
  cases r1 with
  | cons r rr =>
    cases rr with
    | cons r' rr =>
      cases rr
      cases r
      cases r'
      refine thn ((pk_cons (nm := some "strict") (kpos := kp) (pe_bl (X := X)) pk_nil).run pos pins s1 σ H1 (fun ks H' => ks = [.bl true] ∧ H' = H1) I1 ⟨rfl, rfl⟩) fun ks s2 ⟨ws, H2, I2, rk, e1, e2⟩ => ?_
      subst e1; subst e2
      cases rk with
      | cons r rr =>
        cases rr
        cases r
        exact pi_zipB_end (b := true) I2 hx hy q
def seqF : T → Option (List T)
  | .tup ts => some ts
  | .lst ts => some ts
  | .frz ts => some ts
  | _ => none
theorem Rep.seqF {K : PySem.W.Frag} {ad : Ad} {as : List Addr} {H : Hp} {v : V} {t : T} {ts : List T} (r : Rep K ad as H v t) (h : Mi.seqF t = some ts) : ∃ b a xs, v = .ref a ∧ (∀ as' H', Ext as H as' H' → SqB K b H' a xs) ∧ Reps K ad as H xs ts := by
  unfold Mi.seqF at h
  split at h
  · cases h
    cases r with
    | tup h s => exact ⟨true, _, _, rfl, fun as' H' e => (h.ext e).sq, s⟩
  · cases h
    cases r with
    | lst h s => exact ⟨false, _, _, rfl, fun as' H' e => SqL.of (h.ext e).2, s⟩
  · cases h
    cases r with
    | frz h s => exact ⟨false, _, _, rfl, fun as' H' e => (h.ext e).sq, s⟩
  · cases h
def zipT (xs ys : List T) : List T := List.zipWith (fun x y => T.tup [x, y]) xs ys
def itZip (b : Bool) (ts : List T) (st : Sto) : R Wk := match ts with
  | [x, y] => match seqF x, seqF y with
    | some xs, some ys => if b = true → xs.length = ys.length then .ok (.seq (zipT xs ys)) st else .bad
    | _, _ => .bad
  | _ => .bad
def mZip (b : Bool) (m : M (List T)) : M Wk := fun ρ st => (m ρ st).bind (itZip b)
theorem itOk_zip {K : PySem.W.Frag} {ad : Ad} {as : List Addr} {H : Hp} {b t1 t2 : Bool} {a c : Addr} {xs ys : List V} {ts us : List T} (h1 : ∀ as' H', Ext as H as' H' → SqB K t1 H' a xs) (h2 : ∀ as' H', Ext as H as' H' → SqB K t2 H' c ys)
    (r1 : Reps K ad as H xs ts) (r2 : Reps K ad as H ys us) (hb : b = true → ts.length = us.length) : ItOk K ad (ItzB K b t1 t2 a c) as H (.seq (zipT ts us)) := fun hd hh i as1 st1 H1 A e => by
  have l1 := r1.length
  have l2 := r2.length
  have lz : (zipT ts us).length = min ts.length us.length := List.length_zipWith
  cases et : (zipT ts us)[i]? with
  | none =>
    have := List.getElem?_eq_none_iff.mp et
    exact ⟨xs, ys, h1 _ _ e, h2 _ _ e, fun q => by have := hb q; omega, by omega⟩
  | some t =>
    obtain ⟨t1', t2', e1, e2, rfl⟩ : ∃ x y, ts[i]? = some x ∧ us[i]? = some y ∧ t = T.tup [x, y] := by
      unfold zipT at et
      rw [List.getElem?_zipWith] at et
      cases q1 : ts[i]? with
      | none => simp [q1] at et
      | some x =>
        cases q2 : us[i]? with
        | none => simp [q1, q2] at et
        | some y => simp [q1, q2] at et; exact ⟨x, y, rfl, rfl, et.symm⟩
    obtain ⟨x, g1, g2⟩ := r1.get e1
    obtain ⟨y, g3, g4⟩ := r2.get e2
    refine ⟨⟨xs, ys, x, y, h1 _ _ e, h2 _ _ e, g1, g3⟩, fun v H' ⟨p, x', y', ev, hp, eH, f1, f2⟩ => ?_⟩
    subst ev; subst eH
    have q1 := f1 xs (h1 _ _ e)
    have q2 := f2 ys (h2 _ _ e)
    rw [g1] at q1; cases q1
    rw [g3] at q2; cases q2
    exact ⟨A.fresh hp, Ext.fresh hp, rep_newTup A hp (.cons (g2.extH e hh) (.cons (g4.extH e hh) .nil))⟩
theorem tZip {X : Cx} {ad : Ad} {W : WX} {b : Bool} {m : M (List T)} : ∀ σ H R, tI X.K ad W (mZip b m) σ H R → iZipB X.K b (tM X.K ad (Reps X.K) W m) σ H R := fun σ H R ⟨hd, ρ, as, st, A, E, q⟩ =>
  ⟨hd, ρ, as, st, A, E, Post.step q fun ts st1 as1 H1 vs A1 e1 r1 q1 => by
    unfold itZip at q1
    split at q1
    · split at q1
      · split at q1
        · rename_i h1 h2 h3
          obtain ⟨v, w, rfl, rv, rw⟩ := r1.two
          obtain ⟨t1, a, xs, rfl, s1, p1⟩ := rv.seqF h1
          obtain ⟨t2, c, ys, rfl, s2, p2⟩ := rw.seqF h2
          exact ⟨a, c, xs, ys, t1, t2, rfl, s1 _ _ Ext.refl, s2 _ _ Ext.refl, Post.at A1 (itOk_zip s1 s2 p1 p2 h3) q1⟩
        · exact q1.elim
      · exact q1.elim
    · exact q1.elim⟩
theorem pmi_zipS {X : Cx} {ad : Ad} {W : WX} {e e2 : Expr} {m : M (List T)} {p pos tpos kp cp : Pos} {ck : Nat} {elts : List Expr} {kk : Nat} (hg : Gl X "zip") (hm : X.mg "zip" = none) (ha : PMA X ad W [e, e2] m)
    (hs : starEach [e, e2] X.env = (false, eval e X.env) :: starEach [e2] X.env := by rfl) (hpl : ((backTo pos (starEach [e, e2] X.env)).any (·.1) || (backToKw pos (keywordEach [⟨some "strict", .Constant (.bool true) ck cp, kp⟩] X.env)).any (·.1.isNone)) = false := by rfl) :
    PMI X ad W (.Tuple elts kk tpos) (.Call (.Name "zip" p) [e, e2] [⟨some "strict", .Constant (.bool true) ck cp, kp⟩] pos) (mZip true m) := piW (pi_zipS hg hm ha hs hpl) tZip
section
variable {E : Exn → Sto → Prop} {ρ : Sl} {y0 : Option T} {st : Sto}
@[simp] theorem Ok_zip {Q : Wk → Sto → Prop} (b : Bool) (m : M (List T)) : Ok (mZip b m (y0 :: ρ) st) Q E ↔ Ok (m (y0 :: ρ) st) (fun ts st1 => Ok (itZip b ts st1) Q E) E := by unfold mZip; simp only [Ok_bind]
end
end Mi
namespace Mi
open PySem L2
section
variable {X : Cx} {ad : Ad} {W : WX} {pos : Pos}
def mDictC (ks : List Key) (ts : List T) : M T := fun _ st => .ok (.dct ks ts) st
def cPairs (kvs : List (Key × V)) : List (TE × TE) := kvs.map fun kv => (tC (kV kv.1), tC kv.2)
theorem tPairs_c : ∀ {kvs : List (Key × V)} {σ : St} {H : Hp} {Q : List (V × V) → Hp → Prop}, Q (kvs.map fun kv => (kV kv.1, kv.2)) H → tPairs (cPairs kvs) σ H Q
  | [], _, _, _, h => h
  | kv :: r, σ, H, Q, h => tPairs_c (kvs := r) (Q := fun ps H3 => Q ((kV kv.1, kv.2) :: ps) H3) h
theorem pm_dictC {keys : List (Option Expr)} {values : List Expr} {kvs : List (Key × V)} {ts : List T} (h : PPs X pos keys values (cPairs kvs)) (r : ∀ ad as H, Reps X.K ad as H (kvs.map (·.2)) ts)
    (hm : mergeK [] kvs = kvs := by rfl) (h15' : kvs.length ≤ 15 := by decide) (hall : keys.all (·.isSome) = true := by rfl) (hl : keys.length = values.length := by rfl) (h0 : keys ≠ [] := by intro h; cases h) (h15 : keys.length ≤ 15 := by decide) :
    PM X ad W (.Dict keys values pos) (mDictC (kvs.map (·.1)) ts) :=
  peW (pe_disp h hall hl h0 h15) fun σ H Q ⟨hd, ρ, as, st, A, E, q⟩ p hp => by
    refine tPairs_c ⟨upd_same, kvs, rfl, h15', ?_⟩
    rw [hm]
    have e : upd (upd H p (.dK [])) p (.dK kvs) = upd H p (.dK kvs) := by funext b; unfold upd; split <;> rfl
    rw [e]
    exact q.to (A.fresh hp) (Ext.fresh hp) (.dct ⟨A.nin hp, A.notHid hp⟩ upd_same rfl (r _ _ _))
@[simp] theorem Ok_dictC {Q : T → Sto → Prop} {E : Exn → Sto → Prop} {ρ : Sl} {y0 : Option T} {st : Sto} (ks : List Key) (ts : List T) : Ok (mDictC ks ts (y0 :: ρ) st) Q E ↔ Q (.dct ks ts) st := Iff.rfl
end
end Mi
namespace Mi
open PySem L2
section
variable {K : PySem.W.Frag} {ad : Ad} {as as' : List Addr} {H H' : Hp} {st : Sto}
def putT (f : Str) (v : T) : List (Str × T) → List (Str × T)
  | [] => [(f, v)]
  | (g, x) :: r => if g = f then (g, v) :: r else (g, x) :: putT f v r
theorem RepF.put {f : Str} {v : V} {t : T} (r : Rep K ad as H v t) : ∀ {gs : List (Str × V)} {fs : List (Str × T)}, RepF K ad as H gs fs → RepF K ad as H (putF f v gs) (putT f t fs)
  | _, _, .nil => .cons r .nil
  | _, _, .cons (f := g) q s => by
    unfold putF putT
    by_cases h : g = f
    · rw [if_pos h, if_pos h]; exact .cons r s
    · rw [if_neg h, if_neg h]; exact .cons q (RepF.put r s)
theorem RepF.get {f : Str} {t : T} : ∀ {gs : List (Str × V)} {fs : List (Str × T)}, RepF K ad as H gs fs → fs.lookup f = some t → ∃ v, gs.lookup f = some v ∧ Rep K ad as H v t
  | _, _, .nil, h => by simp at h
  | _, _, .cons (f := g) (v := v) q s, h => by
    rw [List.lookup_cons] at h ⊢
    cases e : (f == g)
    · rw [e] at h; exact RepF.get s h
    · rw [e] at h; cases h; exact ⟨v, rfl, q⟩
theorem RepF.none {f : Str} : ∀ {gs : List (Str × V)} {fs : List (Str × T)}, RepF K ad as H gs fs → fs.lookup f = none → gs.lookup f = none
  | _, _, .nil, h => rfl
  | _, _, .cons (f := g) (v := v) q s, h => by
    rw [List.lookup_cons] at h ⊢
    cases e : (f == g)
    · rw [e] at h; exact RepF.none s h
    · rw [e] at h; cases h
theorem RepF.length : ∀ {gs : List (Str × V)} {fs : List (Str × T)}, RepF K ad as H gs fs → gs.length = fs.length
  | _, _, .nil => rfl
  | _, _, .cons _ s => congrArg (· + 1) s.length
def insAt (st : Sto) (c : Nat) (t : T) : Option (Nat × List (Str × T)) := match t with
  | .ref i => match st[i]? with
    | some (.ins d fs) => if d = c then some (i, fs) else none
    | _ => none
  | _ => none
theorem Rep.ins {c i : Nat} {fs : List (Str × T)} {v : V} {t : T} (A : Ab K ad as st H) (r : Rep K ad as H v t) (h : insAt st c t = some (i, fs)) :
    ∃ a dx gs, v = .ref a ∧ as[i]? = some a ∧ i < st.length ∧ H a = some (.ins (ad.fn c) dx gs) ∧ H dx = some (.own a) ∧ (dx ∈ as → False) ∧ RepF K ad as H gs fs := by
  unfold insAt at h
  split at h
  · split at h
    · rename_i d fs' e
      split at h
      · rename_i hd
        cases h
        subst hd
        obtain ⟨a, h2, dx, gs, h3, h4, h5, h6⟩ := A.get e
        cases r with
        | ref h7 =>
          rw [h2] at h7; cases h7
          exact ⟨_, dx, gs, rfl, h2, (List.getElem?_eq_some_iff.mp e).1, h3, h4, h5, h6⟩
      · cases h
    · cases h
  · cases h
end
section
variable {X : Cx} {ad : Ad} {W : WX} {pos p apos cpos tpos : Pos} {o e value : Expr} {es : List Expr} {c : Nat} {f : Str}
variable {k n : Nat} {fa : Addr} {fd : FuncData} {ps : List Str} {F : List T → Sto → R T} {x m : Str}
theorem GnOk.up {P : Program} {w : World} {K : PySem.W.Frag} {mg : Str → Option Value} {base : Heap} {fa : Addr} {fd : FuncData} {ps : List Str} {sp : Sp} {k : Nat} (G : GnOk P w K mg base k fa fd ps sp) : GnOk P w K mg base (k + 1) fa fd ps sp := G.mono (Nat.le_succ _)
end
end Mi
namespace Mi
open PySem L2 PySem.Spec PyProof.Rows
section
variable {prog : Program} {w : World} {A : PySem.Around} {E : Value → Shared → Prop} {s : Shared}
end
end Mi
namespace Mi
open PySem L2
theorem lc_map {g : T → Sl → Option Sl} {tt : M Bool} {elt : M T} {ρ : Sl} {st : Sto} (f : T → T) (ts : List T) (hz : ts.length ≤ sizeLine) (h : ∀ t ∈ ts, ∃ ρ1, g t ρ = some ρ1 ∧ tt ρ1 st = .ok true st ∧ elt ρ1 st = .ok (f t) st) :
    lcW g tt elt ρ (.seq ts) st = .ok (ts.map f) st := by
  have := lc_pure (g := g) (tt := tt) (elt := elt) (ρ := ρ) (st := st) (fun t => some (f t)) ts fun t ht => by
    obtain ⟨ρ1, h1, h2, h3⟩ := h t ht
    exact ⟨ρ1, h1, .inl ⟨_, rfl, h2, h3⟩⟩
  show (if ts.length ≤ sizeLine then lcL g tt elt ρ ts st else .bad) = _
  rw [if_pos hz, this, List.filterMap_eq_map']
@[simp] theorem Ok_all {Q : T → Sto → Prop} {E : Exn → Sto → Prop} {st : Sto} (ts : List T) (p : T → Bool) : Ok (fAll [.lst (ts.map fun t => .bl (p t))] st) Q E ↔ Q (.bl (ts.all p)) st := by
  have e : blsOf (ts.map fun t => .bl (p t)) = some (ts.map p) := by
    induction ts with
    | nil => rfl
    | cons t ts ih => simp [blsOf, ih]
  have e2 : fAll [.lst (ts.map fun t => .bl (p t))] st = .ok (.bl (ts.all p)) st := by
    unfold fAll
    simp [lstR, e, List.all_map]
  rw [e2]; rfl
def btw (t : T) (lo hi : Int) : Bool := match t with
  | .int i => decide (lo ≤ i) && decide (i ≤ hi)
  | _ => false
structure Gd (t : T) : Prop where
  tr : t.tr = true
  nd : t.nd = true
  dp : t.dep ≤ 64
  wt : t.wt ≤ 1000000
theorem Gd.sh {t : T} (h : Gd t) : shaped t = true := T.tr_shaped h.tr h.nd h.dp
theorem Gd.mem {ts : List T} {t : T} (h : Gd (.tup ts)) (m : t ∈ ts) : Gd t := by
  obtain ⟨h1, h2, h3, h4⟩ := h
  simp only [T.tr] at h1
  simp only [T.nd] at h2
  simp only [T.dep] at h3
  simp only [T.wt] at h4
  exact ⟨T.trs_all.mp h1 t m, T.nds_all.mp h2 t m, Nat.le_trans (T.deps_le.mp (Nat.le_refl _) t m) (by omega), by have := T.wt_mem m; omega⟩
theorem sh_nil : shaped (.tup []) = true := by decide +kernel
theorem len_le {ts : List T} (n : Nat) (h : ts.length ≤ n) (hn : n ≤ 16777216 := by decide) : ts.length ≤ sizeLine := Nat.le_trans h hn
theorem Ok.ex {α : Type} {r : R α} {a : α} {st : Sto} (h : Ok r (fun b s => b = a ∧ ∃ l, s = st ++ l) noE) : ∃ l, r = .ok a (st ++ l) := by
  cases r with
  | ok b s => obtain ⟨h1, l, h2⟩ := h; exact ⟨l, by rw [h1, h2]⟩
  | exc e st => exact h.elim
  | bad => exact h.elim
@[simp] theorem Ok_eqStr {st : Sto} {Q : T → Sto → Prop} {E : Exn → Sto → Prop} (a b : Str) : Ok (opEqB false (.str a) (.str b) st) Q E ↔ Q (.bl (a == b)) st := Iff.rfl
theorem Frm.at {i p : Nat} {st st' : Sto} {o : O} (h : Frm i st st') (hp : p ≠ i) (e : st[p]? = some o) : st'[p]? = some o := h.2 p o hp e
def Fr2 (i p : Nat) (st st' : Sto) : Prop := st.length ≤ st'.length ∧ ∀ j o, j ≠ i → j < p → st[j]? = some o → st'[j]? = some o
theorem Fr2.refl {i p : Nat} {st : Sto} : Fr2 i p st st := ⟨Nat.le_refl _, fun _ _ _ _ h => h⟩
theorem Fr2.trans {i p : Nat} {a b c : Sto} (h : Fr2 i p a b) (h2 : Fr2 i p b c) : Fr2 i p a c := ⟨Nat.le_trans h.1 h2.1, fun j o n q e => h2.2 j o n q (h.2 j o n q e)⟩
theorem Frm.fr2 {i p : Nat} {st st' : Sto} (h : Frm i st st') : Fr2 i p st st' := ⟨h.1, fun j o n _ e => h.2 j o n e⟩
theorem Fr2.set {i p : Nat} {st : Sto} (o : O) : Fr2 i p st (st.set p o) := ⟨by simp, fun j u n q e => by rw [List.getElem?_set_ne (by omega)]; exact e⟩
theorem Fr2.frm {i p : Nat} {st st' : Sto} (h : Fr2 i p st st') (hp : st.length ≤ p) : Frm i st st' := ⟨h.1, fun j o n e => h.2 j o n (by have := (List.getElem?_eq_some_iff.mp e).1; omega) e⟩
structure LS (n w : Nat) (ts : List T) : Prop where
  tr : T.trs ts = true
  nd : T.nds ts = true
  dp : T.deps ts ≤ n
  wt : T.wts ts ≤ w
structure BT (n w : Nat) (t : T) : Prop where
  tr : t.tr = true
  nd : t.nd = true
  dp : t.dep ≤ n
  wt : t.wt ≤ w
theorem LS.nil {n w : Nat} : LS n w [] := ⟨rfl, rfl, by simp [T.deps], by simp [T.wts]⟩
theorem LS.cons {n w v k : Nat} {t : T} {ts : List T} (h : BT n w t) (h2 : LS n v ts) (e : w + 2 + v ≤ k) : LS n k (t :: ts) := by
  refine ⟨by simp [T.trs, h.tr, h2.tr], by simp [T.nds, h.nd, h2.nd], ?_, ?_⟩
  · have := h.dp; have := h2.dp; simp only [T.deps]; omega
  · have := h.wt; have := h2.wt; simp only [T.wts]; omega
theorem LS.app {n w v : Nat} {a b : List T} (h : LS n w a) (h2 : LS n v b) : LS n (w + v) (a ++ b) := by
  refine ⟨T.trs_all.mpr fun t ht => ?_, T.nds_all.mpr fun t ht => ?_, T.deps_le.mpr fun t ht => ?_, ?_⟩
  · exact (List.mem_append.mp ht).elim (T.trs_all.mp h.tr t) (T.trs_all.mp h2.tr t)
  · exact (List.mem_append.mp ht).elim (T.nds_all.mp h.nd t) (T.nds_all.mp h2.nd t)
  · exact (List.mem_append.mp ht).elim (fun q => Nat.le_trans (T.deps_le.mp (Nat.le_refl _) t q) h.dp) (fun q => Nat.le_trans (T.deps_le.mp (Nat.le_refl _) t q) h2.dp)
  · rw [T.wts_app]; have := h.wt; have := h2.wt; omega
theorem LS.sub {n w : Nat} {a b : List T} (h : LS n w a) (hm : ∀ t ∈ b, t ∈ a) (hw : T.wts b ≤ w) : LS n w b :=
  ⟨T.trs_all.mpr fun t ht => T.trs_all.mp h.tr t (hm t ht), T.nds_all.mpr fun t ht => T.nds_all.mp h.nd t (hm t ht), T.deps_le.mpr fun t ht => Nat.le_trans (T.deps_le.mp (Nat.le_refl _) t (hm t ht)) h.dp, hw⟩
theorem LS.self {n w : Nat} {a : List T} (h : LS n w a) : LS n (T.wts a) a := ⟨h.tr, h.nd, h.dp, Nat.le_refl _⟩
theorem LS.mono {n w n' w' : Nat} {a : List T} (h : LS n w a) (hn : n ≤ n') (hw : w ≤ w') : LS n' w' a := ⟨h.tr, h.nd, Nat.le_trans h.dp hn, Nat.le_trans h.wt hw⟩
theorem BT.mono {n w n' w' : Nat} {a : T} (h : BT n w a) (hn : n ≤ n') (hw : w ≤ w') : BT n' w' a := ⟨h.tr, h.nd, Nat.le_trans h.dp hn, Nat.le_trans h.wt hw⟩
theorem LS.tup {n w : Nat} {a : List T} (h : LS n w a) : BT (n + 1) (w + 3) (.tup a) := ⟨by simp [T.tr, h.tr], by simp [T.nd, h.nd], by have := h.dp; simp only [T.dep]; omega, by have := h.wt; simp only [T.wt]; omega⟩
theorem LS.lst {n w : Nat} {a : List T} (h : LS n w a) : BT (n + 1) (w + 3) (.lst a) := ⟨by simp [T.tr, h.tr], by simp [T.nd, h.nd], by have := h.dp; simp only [T.dep]; omega, by have := h.wt; simp only [T.wt]; omega⟩
theorem BT.two {n w v : Nat} {a b : T} (h : BT n w a) (h2 : BT n v b) : BT (n + 1) (w + v + 7) (.tup [a, b]) := (LS.cons h (LS.cons h2 LS.nil (Nat.le_refl (v + 2 + 0))) (Nat.le_refl _)).tup.mono (Nat.le_refl _) (by omega)
theorem BT.gd {n w : Nat} {t : T} (h : BT n w t) (hn : n ≤ 64) (hw : w ≤ 1000000) : Gd t := ⟨h.tr, h.nd, Nat.le_trans h.dp hn, Nat.le_trans h.wt hw⟩
theorem BT.int {v : Int} (h : v.natAbs < 32) : BT 0 7 (.int v) := by
  have : v.natAbs.log2 < 5 ∨ v.natAbs = 0 := by
    by_cases hz : v.natAbs = 0
    · exact .inr hz
    · exact .inl (by rw [Nat.log2_lt hz]; omega)
  have h2 : v.natAbs.log2 ≤ 5 := by
    rcases this with h | h
    · omega
    · rw [h]; decide
  exact ⟨by simp only [T.tr, decide_eq_true_eq]; omega, rfl, by simp [T.dep], by simp only [T.wt]; omega⟩
@[simp] theorem Ok_slT {st : Sto} {Q : T → Sto → Prop} {E : Exn → Sto → Prop} (ts : List T) (lo hi : Option Int) : Ok (opSl (.tup ts) lo hi st) Q E ↔ Q (.tup (cutT ts lo hi)) st := Iff.rfl
theorem cut_from {ts : List T} {j : Nat} : cutT ts (some (j : Int)) none = ts.drop j := by
  unfold cutT
  rw [HT.sIx_none, HT.sIx_nat]
  by_cases h : j ≤ ts.length
  · rw [Nat.min_eq_left h, List.take_of_length_le (by simp)]
  · rw [Nat.min_eq_right (by omega)]
    rw [List.drop_eq_nil_of_le (Nat.le_refl _), List.drop_eq_nil_of_le (by omega)]; simp
def notTup : T → Bool
  | .tup _ => false
  | _ => true
@[simp] theorem Ok_inT {st : Sto} {Q : T → Sto → Prop} {E : Exn → Sto → Prop} (neg : Bool) (x : T) (ts : List T) : Ok (opInB neg x (.tup ts) st) Q E ↔ (shaped x = true ∧ shaped (.lst ts) = true) ∧ Q (.bl (if neg then !inD x ts else inD x ts)) st := by
  unfold opInB
  simp only [Bool.and_eq_true, Ok_iteB, Ok_ok]
@[simp] theorem Ok_inL {st : Sto} {Q : T → Sto → Prop} {E : Exn → Sto → Prop} (neg : Bool) (x : T) (ts : List T) : Ok (opInB neg x (.lst ts) st) Q E ↔ (shaped x = true ∧ shaped (.lst ts) = true) ∧ Q (.bl (if neg then !inD x ts else inD x ts)) st := by
  unfold opInB
  simp only [lstR, Bool.and_eq_true, Ok_iteB, Ok_ok]
theorem inD_nil (x : T) : inD x [] = false := rfl
theorem inD_cons (x t : T) (ts : List T) : inD x (t :: ts) = (T.eqv t x || inD x ts) := rfl
theorem eqv_str (a b : Str) : T.eqv (.str a) (.str b) = (a == b) := by simp [T.eqv]
@[simp] theorem Ok_fIntB {Q : T → Sto → Prop} {E : Exn → Sto → Prop} {st : Sto} (b : Bool) : Ok (fInt [.bl b] st) Q E ↔ Q (.int (if b then 1 else 0)) st := Iff.rfl
@[simp] theorem OkS_nx {N : Sl → Sto → Prop} {Rt : T → Sto → Prop} {B C : Sl → Sto → Prop} {E : Exn → Sl → Sto → Prop} {ρ : Sl} {st : Sto} : OkS (.nx ρ st) N Rt B C E ↔ N ρ st := Iff.rfl
@[simp] theorem OkS_rt {N : Sl → Sto → Prop} {Rt : T → Sto → Prop} {B C : Sl → Sto → Prop} {E : Exn → Sl → Sto → Prop} {t : T} {st : Sto} : OkS (.rt t st) N Rt B C E ↔ Rt t st := Iff.rfl
@[simp] theorem Ok_ixLst {Q : T → Sto → Prop} {E : Exn → Sto → Prop} {st : Sto} (ts : List T) (i : Int) : Ok (opIx (.lst ts) (.int i) st) Q E ↔ ∃ t, atI ts i = some t ∧ Q t st := Ok_ixL i rfl
theorem atI_3 {a b c d : T} {l : List T} : atI (a :: b :: c :: d :: l) 3 = some d := by
  have : (3 : Int) < ((l.length : Int) + 1 + 1 + 1 + 1) := by omega
  simp [atI, ixN, this]
@[simp] theorem Ok_isN {Q : T → Sto → Prop} {E : Exn → Sto → Prop} {st : Sto} (neg : Bool) (x : T) : Ok (opIs neg x .non st) Q E ↔ Q (.bl (if neg then !isNon x else isNon x)) st := Iff.rfl
@[simp] theorem Ok_neStr {st : Sto} {Q : T → Sto → Prop} {E : Exn → Sto → Prop} (a b : Str) : Ok (opEqB true (.str a) (.str b) st) Q E ↔ Q (.bl (!(a == b))) st := Iff.rfl
end Mi
namespace Mi
open PySem L2
@[simp] theorem n_draw_seq : (("draw" : Str) = "seq") = False := eq_false (by decide +kernel)
@[simp] theorem n_draw_par : (("draw" : Str) = "par") = False := eq_false (by decide +kernel)
@[simp] theorem n_draw_named : (("draw" : Str) = "named") = False := eq_false (by decide +kernel)
@[simp] theorem n_draw_retry : (("draw" : Str) = "retry") = False := eq_false (by decide +kernel)
@[simp] theorem n_draw_split : (("draw" : Str) = "split") = False := eq_false (by decide +kernel)
@[simp] theorem n_seq_draw : (("seq" : Str) = "draw") = False := eq_false (by decide +kernel)
@[simp] theorem n_seq_par : (("seq" : Str) = "par") = False := eq_false (by decide +kernel)
@[simp] theorem n_seq_named : (("seq" : Str) = "named") = False := eq_false (by decide +kernel)
@[simp] theorem n_seq_retry : (("seq" : Str) = "retry") = False := eq_false (by decide +kernel)
@[simp] theorem n_seq_split : (("seq" : Str) = "split") = False := eq_false (by decide +kernel)
@[simp] theorem n_par_draw : (("par" : Str) = "draw") = False := eq_false (by decide +kernel)
@[simp] theorem n_par_seq : (("par" : Str) = "seq") = False := eq_false (by decide +kernel)
@[simp] theorem n_par_named : (("par" : Str) = "named") = False := eq_false (by decide +kernel)
@[simp] theorem n_par_retry : (("par" : Str) = "retry") = False := eq_false (by decide +kernel)
@[simp] theorem n_par_split : (("par" : Str) = "split") = False := eq_false (by decide +kernel)
@[simp] theorem n_named_draw : (("named" : Str) = "draw") = False := eq_false (by decide +kernel)
@[simp] theorem n_named_seq : (("named" : Str) = "seq") = False := eq_false (by decide +kernel)
@[simp] theorem n_named_par : (("named" : Str) = "par") = False := eq_false (by decide +kernel)
@[simp] theorem n_named_retry : (("named" : Str) = "retry") = False := eq_false (by decide +kernel)
@[simp] theorem n_named_split : (("named" : Str) = "split") = False := eq_false (by decide +kernel)
@[simp] theorem n_retry_draw : (("retry" : Str) = "draw") = False := eq_false (by decide +kernel)
@[simp] theorem n_retry_seq : (("retry" : Str) = "seq") = False := eq_false (by decide +kernel)
@[simp] theorem n_retry_par : (("retry" : Str) = "par") = False := eq_false (by decide +kernel)
@[simp] theorem n_retry_named : (("retry" : Str) = "named") = False := eq_false (by decide +kernel)
@[simp] theorem n_retry_split : (("retry" : Str) = "split") = False := eq_false (by decide +kernel)
@[simp] theorem n_split_draw : (("split" : Str) = "draw") = False := eq_false (by decide +kernel)
@[simp] theorem n_split_seq : (("split" : Str) = "seq") = False := eq_false (by decide +kernel)
@[simp] theorem n_split_par : (("split" : Str) = "par") = False := eq_false (by decide +kernel)
@[simp] theorem n_split_named : (("split" : Str) = "named") = False := eq_false (by decide +kernel)
@[simp] theorem n_split_retry : (("split" : Str) = "retry") = False := eq_false (by decide +kernel)
def stepFm (f p : T → Bool) (t : T) : Bool := match t with
  | .tup (.str w :: ps) =>
    if w = "draw" then (match ps with | [a] => btw a 0 9 | _ => false)
    else if w = "seq" then decide (ps.length ≤ 12) && ps.all f
    else if w = "par" then decide (ps.length ≤ 12) && ps.all p
    else if w = "named" then (match ps with | [a, b] => btw a 0 9 && f b | _ => false)
    else if w = "retry" then (match ps with | [a] => f a | _ => false)
    else false
  | _ => false
def partFm (f f' : T → Bool) (t : T) : Bool := match t with
  | .tup [.str w, q] => if w = "split" then f q else f' t
  | _ => f' t
def fmd : Nat → (T → Bool) × (T → Bool)
  | 0 => (fun _ => false, fun _ => false)
  | d + 1 => (stepFm (fmd d).1 (fmd d).2, partFm (fmd d).1 (stepFm (fmd d).1 (fmd d).2))
abbrev isF (d : Nat) : T → Bool := (fmd d).1
abbrev isP (d : Nat) : T → Bool := (fmd d).2
structure Sz where
  o : Nat
  r : Nat
  n : Nat
  k : Nat
  deriving DecidableEq
def Sz.add (a b : Sz) : Sz := ⟨a.o + b.o, a.r + b.r, a.n + b.n, max a.k (b.k + 1)⟩
def spl (t : T) : Bool := match t with
  | .tup (.str w :: _) => decide (w = "split")
  | _ => false
def headP (w : Str) (ps : List T) : Option (Bool × List T × Sz) :=
  if w = "seq" then (if ps.length ≤ 12 then some (false, ps, ⟨0, 0, 1, 1⟩) else none)
  else if w = "par" then (if ps.length ≤ 12 then some (true, ps, ⟨0, 0, 1, 1⟩) else none)
  else if w = "named" then (match ps with | [a, b] => if btw a 0 9 = true then some (false, [b], ⟨0, 0, 1, 1⟩) else none | _ => none)
  else if w = "retry" then (match ps with | [a] => some (false, [a], ⟨0, 1, 1, 1⟩) | _ => none)
  else if w = "split" then (match ps with | [a] => some (false, [a], ⟨1, 0, 1, 1⟩) | _ => none)
  else none
def szL (f : T → Option Sz) (par : Bool) : List T → Sz → Option Sz
  | [], a => some a
  | p :: ps, a => match f p with
    | none => none
    | some s => if (spl p && !par) = true then none else szL f par ps (a.add s)
def sz : Nat → T → Option Sz
  | 0, _ => none
  | d + 1, .tup (.str w :: ps) => if w = "draw" then (match ps with | [a] => if btw a 0 9 = true then some ⟨1, 0, 1, 1⟩ else none | _ => none)
    else match headP w ps with
      | none => none
      | some (par, inner, a) => szL (sz d) par inner a
  | _ + 1, _ => none
theorem szL_k {f : T → Option Sz} {par : Bool} {d : Nat} (hf : ∀ t s, f t = some s → s.k ≤ d) : ∀ {ps : List T} {a s : Sz}, szL f par ps a = some s → a.k ≤ d + 1 → s.k ≤ d + 1
  | [], a, s, h, ha => by simp only [szL, Option.some.injEq] at h; subst h; exact ha
  | p :: ps, a, s, h, ha => by
    simp only [szL] at h
    split at h
    · cases h
    · rename_i u hu
      split at h
      · cases h
      · exact szL_k hf h (by have := hf _ _ hu; simp only [Sz.add]; omega)
theorem headP_k {w : Str} {ps inner : List T} {par : Bool} {a : Sz} (h : headP w ps = some (par, inner, a)) : a.k = 1 := by
  unfold headP at h
  repeat' split at h
  all_goals first | (cases h; done) | (cases h; rfl)
theorem sz_k : ∀ {d : Nat} {t : T} {s : Sz}, sz d t = some s → s.k ≤ d
  | 0, t, s, h => by simp [sz] at h
  | d + 1, t, s, h => by
    unfold sz at h
    split at h
    · rename_i e; cases e
    · split at h
      · split at h
        · split at h
          · cases h; simp
          · cases h
        · cases h
      · split at h
        · cases h
        · rename_i d' w ps e hne _ par inner a hh
          cases e
          exact szL_k (fun t s h => sz_k h) h (by rw [headP_k hh]; omega)
    · cases h
theorem szL_mono {f g : T → Option Sz} {par : Bool} {d : Nat} (hf : ∀ t s, f t = some s → s.k ≤ d → g t = some s) : ∀ {ps : List T} {a s : Sz}, szL f par ps a = some s → s.k ≤ d + 1 → szL g par ps a = some s ∧ a.k ≤ s.k
  | [], a, s, h, ha => by simp only [szL, Option.some.injEq] at h; subst h; exact ⟨rfl, Nat.le_refl _⟩
  | p :: ps, a, s, h, ha => by
    simp only [szL] at h ⊢
    split at h
    · cases h
    · rename_i u hu
      split at h
      · cases h
      · rename_i hs
        obtain ⟨h1, h2⟩ := szL_mono hf h ha
        simp only [Sz.add] at h2
        rw [hf _ _ hu (by omega)]
        simp only
        rw [if_neg hs]
        exact ⟨h1, by omega⟩
theorem sz_at : ∀ {n : Nat} {t : T} {s : Sz}, sz n t = some s → ∀ d, s.k ≤ d → sz d t = some s
  | 0, t, s, h, d, hd => by simp [sz] at h
  | n + 1, t, s, h, d, hd => by
    unfold sz at h
    split at h
    · rename_i e; cases e
    · rename_i n' w ps e
      cases e
      split at h
      · rename_i hw
        split at h
        · split at h
          · rename_i hb
            cases h
            obtain ⟨d, rfl⟩ : ∃ j, d = j + 1 := ⟨d - 1, by simp only at hd; omega⟩
            simp [sz, hw, hb]
          · cases h
        · cases h
      · rename_i hw
        split at h
        · cases h
        · rename_i par inner a hh
          have hk := headP_k hh
          have ha : a.k ≤ s.k := (szL_mono (g := sz n) (d := n) (fun _ _ h _ => h) h (szL_k (fun t s h => sz_k h) h (by rw [hk]; omega))).2
          obtain ⟨d, rfl⟩ : ∃ j, d = j + 1 := ⟨d - 1, by omega⟩
          simp only [sz]
          rw [if_neg hw, hh]
          exact (szL_mono (fun t u hu hk => sz_at hu d hk) h hd).1
    · cases h
theorem szL_all {d : Nat} {f : T → Bool} {par : Bool} (hf : ∀ t, f t = ((sz d t).isSome && !(spl t && !par))) : ∀ {ps : List T} {a : Sz}, ps.all f = (szL (sz d) par ps a).isSome
  | [], a => rfl
  | p :: ps, a => by
    rw [List.all_cons, hf p]
    simp only [szL]
    cases sz d p with
    | none => rfl
    | some s =>
      simp only [Option.isSome_some, Bool.true_and]
      by_cases h : (spl p && !par) = true
      · rw [if_pos h, h]; rfl
      · rw [if_neg h]
        simp only [Bool.not_eq_true] at h
        rw [h]
        simp only [Bool.not_false, Bool.true_and]
        exact szL_all hf
theorem w_ne : ¬ (("seq" : Str) = "split") ∧ ¬ (("par" : Str) = "split") ∧ ¬ (("named" : Str) = "split") ∧ ¬ (("retry" : Str) = "split") ∧ ¬ (("draw" : Str) = "split") := by decide +kernel
theorem fmd_sz : ∀ d t, isF d t = ((sz d t).isSome && !spl t) ∧ isP d t = (sz d t).isSome
  | 0, t => ⟨rfl, rfl⟩
  | d + 1, t => by
    have ih := fmd_sz d
    have hF : ∀ t, isF d t = ((sz d t).isSome && !(spl t && !false)) := fun t => by rw [(ih t).1]; simp
    have hP : ∀ t, isP d t = ((sz d t).isSome && !(spl t && !true)) := fun t => by rw [(ih t).2]; simp
    have key : stepFm (fmd d).1 (fmd d).2 t = ((sz (d + 1) t).isSome && !spl t) := by
      unfold stepFm
      split
      · rename_i w ps
        simp only [sz, spl, headP]
        by_cases h1 : w = "draw"
        · subst h1
          rw [if_pos rfl, if_pos rfl, decide_eq_false w_ne.2.2.2.2]
          match ps with
          | [] => rfl
          | [a] => cases h : btw a 0 9 <;> simp [h]
          | _ :: _ :: _ => rfl
        rw [if_neg h1, if_neg h1]
        by_cases h2 : w = "seq"
        · subst h2
          rw [if_pos rfl, if_pos rfl, decide_eq_false w_ne.1]
          by_cases h : ps.length ≤ 12
          · simp [h, szL_all hF (a := ⟨0, 0, 1, 1⟩), -List.all_eq_true]
          · simp [h]
        rw [if_neg h2, if_neg h2]
        by_cases h3 : w = "par"
        · subst h3
          rw [if_pos rfl, if_pos rfl, decide_eq_false w_ne.2.1]
          by_cases h : ps.length ≤ 12
          · simp [h, szL_all hP (a := ⟨0, 0, 1, 1⟩), -List.all_eq_true]
          · simp [h]
        rw [if_neg h3, if_neg h3]
        by_cases h4 : w = "named"
        · subst h4
          rw [if_pos rfl, if_pos rfl, decide_eq_false w_ne.2.2.1]
          match ps with
          | [] => rfl
          | [a] => rfl
          | [a, b] =>
            have := szL_all hF (ps := [b]) (a := ⟨0, 0, 1, 1⟩)
            simp only [List.all_cons, List.all_nil, Bool.and_true] at this
            cases h : btw a 0 9 <;> simp [h, this]
          | _ :: _ :: _ :: _ => rfl
        rw [if_neg h4, if_neg h4]
        by_cases h5 : w = "retry"
        · subst h5
          rw [if_pos rfl, if_pos rfl, decide_eq_false w_ne.2.2.2.1]
          match ps with
          | [] => rfl
          | [a] =>
            have := szL_all hF (ps := [a]) (a := ⟨0, 1, 1, 1⟩)
            simp only [List.all_cons, List.all_nil, Bool.and_true] at this
            simp [this]
          | _ :: _ :: _ => rfl
        rw [if_neg h5, if_neg h5]
        by_cases h6 : w = "split"
        · simp [h6]
        · simp [h6]
      · rename_i h
        have e : sz (d + 1) t = none := by
          unfold sz
          split
          · rfl
          · exact absurd rfl (h _ _)
          · rfl
        rw [e]; rfl
    refine ⟨key, ?_⟩
    show partFm (fmd d).1 (stepFm (fmd d).1 (fmd d).2) t = _
    unfold partFm
    split
    · rename_i w q
      by_cases h6 : w = "split"
      · subst h6
        rw [if_pos rfl]
        have := szL_all hF (ps := [q]) (a := ⟨1, 0, 1, 1⟩)
        simp only [List.all_cons, List.all_nil, Bool.and_true] at this
        show isF d q = _
        rw [this]
        simp only [sz]
        rw [if_neg (Ne.symm w_ne.2.2.2.2)]
        have e : headP "split" [q] = some (false, [q], ⟨1, 0, 1, 1⟩) := by
          unfold headP
          rw [if_neg (Ne.symm w_ne.1), if_neg (Ne.symm w_ne.2.1), if_neg (Ne.symm w_ne.2.2.1), if_neg (Ne.symm w_ne.2.2.2.1), if_pos rfl]
        rw [e]
      · rw [if_neg h6, key]
        simp [spl, h6]
    · rename_i h
      rw [key]
      cases hs : spl t
      · simp
      · have e : sz (d + 1) t = none := by
          unfold spl at hs
          split at hs
          · rename_i w ps
            have hw := of_decide_eq_true hs
            subst hw
            simp only [sz]
            rw [if_neg (Ne.symm w_ne.2.2.2.2)]
            have e : headP "split" ps = none := by
              unfold headP
              rw [if_neg (Ne.symm w_ne.1), if_neg (Ne.symm w_ne.2.1), if_neg (Ne.symm w_ne.2.2.1), if_neg (Ne.symm w_ne.2.2.2.1), if_pos rfl]
              split
              · exact absurd rfl (h _ _)
              · rfl
            rw [e]
          · cases hs
        rw [e]; rfl
theorem Gd.tail {t : T} {ts : List T} (h : Gd (.tup (t :: ts))) : ∀ u ∈ ts, Gd u := fun u hu => h.mem (List.mem_cons_of_mem _ hu)
theorem beqS (a b : Str) : (a == b) = decide (a = b) := by
  by_cases h : a = b
  · simp [h]
  · simp [h]
theorem cut1 {t : T} {ts : List T} : cutT (t :: ts) (some 1) none = ts := by
  have := cut_from (ts := t :: ts) (j := 1)
  simpa using this
theorem isF0 (t : T) : isF 0 t = false := rfl
theorem isP0 (t : T) : isP 0 t = false := rfl
theorem fm_nt {d : Nat} {t : T} (h : ∀ w ps, t ≠ .tup (.str w :: ps)) : isF d t = false := by
  cases d with
  | zero => rfl
  | succ d =>
    show stepFm (fmd d).1 (fmd d).2 t = false
    unfold stepFm
    split
    · exact absurd rfl (h _ _)
    · rfl
theorem strOk_tr {w : Str} (h : (T.str w).tr = true) : PyData.strOk w = true := by simpa [T.tr] using h
theorem sh_w2 : shaped (.lst [.str "seq", .str "par"]) = true := by decide +kernel
theorem sh_ds : shaped (.lst [.str "draw", .str "split"]) = true := by decide +kernel
theorem sh_rs : shaped (.lst [.str "retry", .str "split"]) = true := by decide +kernel
theorem sh_w5 : shaped (.lst [.str "seq", .str "par", .str "named", .str "retry", .str "split"]) = true := by decide +kernel
theorem cut_m1 {l : List T} {x : T} : cutT (l ++ [x]) (some (-1)) none = [x] := by
  unfold cutT
  have e : HT.sIx (l ++ [x]).length 0 (some (-1)) = l.length := by
    unfold HT.sIx
    simp; omega
  rw [e, HT.sIx_none]; simp
def wrd (w : Str) : Prop := w = "draw" ∨ w = "seq" ∨ w = "par" ∨ w = "named" ∨ w = "retry" ∨ w = "split"
theorem headP_wrd {w : Str} {ps inner : List T} {par : Bool} {a : Sz} (h : headP w ps = some (par, inner, a)) :
    (w = "seq" ∧ par = false ∧ inner = ps ∧ a = ⟨0, 0, 1, 1⟩ ∧ ps.length ≤ 12) ∨ (w = "par" ∧ par = true ∧ inner = ps ∧ a = ⟨0, 0, 1, 1⟩ ∧ ps.length ≤ 12) ∨
    (w = "named" ∧ par = false ∧ a = ⟨0, 0, 1, 1⟩ ∧ ∃ x y, ps = [x, y] ∧ btw x 0 9 = true ∧ inner = [y]) ∨ (w = "retry" ∧ par = false ∧ a = ⟨0, 1, 1, 1⟩ ∧ ∃ y, ps = [y] ∧ inner = [y]) ∨
    (w = "split" ∧ par = false ∧ a = ⟨1, 0, 1, 1⟩ ∧ ∃ y, ps = [y] ∧ inner = [y]) := by
  unfold headP at h
  split at h
  · split at h
    · cases h; exact .inl ⟨by assumption, rfl, rfl, rfl, by assumption⟩
    · cases h
  · split at h
    · split at h
      · cases h; exact .inr (.inl ⟨by assumption, rfl, rfl, rfl, by assumption⟩)
      · cases h
    · split at h
      · split at h
        · split at h
          · cases h; exact .inr (.inr (.inl ⟨by assumption, rfl, rfl, _, _, rfl, by assumption, rfl⟩))
          · cases h
        · cases h
      · split at h
        · split at h
          · cases h; exact .inr (.inr (.inr (.inl ⟨by assumption, rfl, rfl, _, rfl, rfl⟩)))
          · cases h
        · split at h
          · split at h
            · cases h; exact .inr (.inr (.inr (.inr ⟨by assumption, rfl, rfl, _, rfl, rfl⟩)))
            · cases h
          · cases h
theorem sz_shape {d : Nat} {t : T} {s : Sz} (h : sz d t = some s) : ∃ w ps, t = .tup (.str w :: ps) ∧ ((w = "draw" ∧ ∃ a, ps = [a] ∧ btw a 0 9 = true ∧ s = ⟨1, 0, 1, 1⟩) ∨
    (¬ w = "draw" ∧ ∃ par inner a e, d = e + 1 ∧ headP w ps = some (par, inner, a) ∧ szL (sz e) par inner a = some s)) := by
  unfold sz at h
  split at h
  · cases h
  · rename_i e w ps
    refine ⟨w, ps, rfl, ?_⟩
    split at h
    · rename_i hw
      split at h
      · rename_i a
        split at h
        · rename_i hb
          cases h
          exact .inl ⟨hw, a, rfl, hb, rfl⟩
        · cases h
      · cases h
    · rename_i hw
      split at h
      · cases h
      · rename_i par inner a hh
        exact .inr ⟨hw, par, inner, a, e, rfl, hh, h⟩
  · cases h
theorem szL_snoc {f : T → Option Sz} {par : Bool} {e : T} {u : Sz} (he : f e = some u) (hs : (spl e && !par) = false) : ∀ {es : List T} {a s : Sz}, szL f par es a = some s → szL f par (es ++ [e]) a = some (s.add u)
  | [], a, s, h => by
    simp only [szL, Option.some.injEq] at h
    subst h
    simp [szL, he, hs]
  | p :: ps, a, s, h => by
    simp only [szL, List.cons_append] at h ⊢
    split at h
    · cases h
    · rename_i v hv
      split at h
      · cases h
      · rename_i hh
        rw [if_neg hh]
        exact szL_snoc he hs h
structure GenOk (room deep : Nat) (t : T) (s : Sz) : Prop where
  sz : sz 64 t = some s
  sp : spl t = false
  o1 : 1 ≤ s.o
  o2 : s.o ≤ room
  k2 : s.k + 1 ≤ deep
  n2 : s.n ≤ 2 * (room * deep)
structure PartOk (par : Bool) (size deep : Nat) (t : T) (s : Sz) : Prop where
  sz : sz 64 t = some s
  sp : (spl t && !par) = false
  o1 : 1 ≤ s.o
  o2 : s.o ≤ size
  k2 : s.k + 2 ≤ deep
  n2 : s.n ≤ 2 * (size * (deep - 1))
theorem GenOk.part {par : Bool} {size d : Nat} {t : T} {s : Sz} (g : GenOk size (d + 3) t s) : PartOk par size (d + 4) t s := ⟨g.sz, by simp [g.sp], g.o1, g.o2, by have := g.k2; omega, g.n2⟩
theorem headP_split {q : T} : headP "split" [q] = some (false, [q], ⟨1, 0, 1, 1⟩) := by simp [headP]
theorem GenOk.split {size d : Nat} {t : T} {s : Sz} (g : GenOk size (d + 2) t s) (hd : d ≤ 40) : PartOk true (size + 1) (d + 4) (.tup [.str "split", t]) (Sz.add ⟨1, 0, 1, 1⟩ s) := by
  have hk := g.k2
  have hn := g.n2
  have e1 : size * (d + 2) ≤ (size + 1) * (d + 3) := Nat.mul_le_mul (by omega) (by omega)
  have e2 : (size + 1) * (d + 3) = size * (d + 2) + size + (d + 3) := by simp only [Nat.add_mul, Nat.mul_add]; omega
  refine ⟨?_, by simp, by simp only [Sz.add]; omega, by have := g.o2; simp only [Sz.add]; omega, by simp only [Sz.add]; omega, ?_⟩
  · simp only [Mi.sz]
    rw [if_neg (by simp), headP_split]
    simp only [szL]
    rw [sz_at g.sz 63 (by omega)]
    simp [g.sp]
  · simp only [Sz.add]
    have : d + 4 - 1 = d + 3 := by omega
    rw [this]; omega
structure AccOk (par : Bool) (used deep : Nat) (es : List T) (a : Sz) : Prop where
  sz : szL (Mi.sz 64) par es ⟨0, 0, 1, 1⟩ = some a
  o2 : a.o ≤ used
  k2 : a.k + 1 ≤ deep
  n2 : a.n ≤ 1 + 2 * (used * (deep - 1))
theorem AccOk.nil {par : Bool} {deep : Nat} (h : 2 ≤ deep) : AccOk par 0 deep [] ⟨0, 0, 1, 1⟩ := ⟨rfl, by simp, by simpa using h, by simp⟩
theorem AccOk.snoc {par : Bool} {used size deep : Nat} {es : List T} {a s : Sz} {t : T} (h : AccOk par used deep es a) (p : PartOk par size deep t s) : AccOk par (used + size) deep (es ++ [t]) (a.add s) := by
  have h1 := h.o2
  have h2 := h.k2
  have h3 := h.n2
  have p1 := p.o2
  have p2 := p.k2
  have p3 := p.n2
  refine ⟨szL_snoc p.sz p.sp h.sz, by simp only [Sz.add]; omega, by simp only [Sz.add]; omega, ?_⟩
  simp only [Sz.add, Nat.add_mul]; omega
theorem btw_int {t : T} (h : btw t 0 9 = true) : ∃ v : Int, t = .int v ∧ 0 ≤ v ∧ v ≤ 9 := by
  cases t <;> simp [btw] at h
  exact ⟨_, rfl, h⟩
theorem word_bt {w : Str} (h : wrd w) : (T.str w).tr = true ∧ (T.str w).wt ≤ 52 := by
  rcases h with rfl | rfl | rfl | rfl | rfl | rfl <;> exact ⟨by decide +kernel, by decide +kernel⟩
theorem szL_ls {f : T → Option Sz} {par : Bool} (hf : ∀ t u, f t = some u → t.tr = true ∧ t.nd = true ∧ t.dep ≤ u.k ∧ t.wt + 2 ≤ 70 * u.n) : ∀ {ps : List T} {a s : Sz}, szL f par ps a = some s → 1 ≤ a.k →
    T.trs ps = true ∧ T.nds ps = true ∧ T.deps ps + 1 ≤ s.k ∧ T.wts ps + 70 * a.n ≤ 70 * s.n ∧ a.k ≤ s.k
  | [], a, s, h, ha => by
    simp only [szL, Option.some.injEq] at h
    subst h
    simp [T.trs, T.nds, T.deps, T.wts, ha]
  | p :: ps, a, s, h, ha => by
    simp only [szL] at h
    split at h
    · cases h
    · rename_i u hu
      split at h
      · cases h
      · obtain ⟨h1, h2, h3, h4⟩ := hf _ _ hu
        obtain ⟨g1, g2, g3, g4, g5⟩ := szL_ls hf h (by simp only [Sz.add]; omega)
        simp only [Sz.add] at g4 g5
        refine ⟨by simp [T.trs, h1, g1], by simp [T.nds, h2, g2], by simp only [T.deps]; omega, by simp only [T.wts]; omega, by omega⟩
theorem sz_bt : ∀ {d : Nat} {t : T} {s : Sz}, sz d t = some s → t.tr = true ∧ t.nd = true ∧ t.dep ≤ s.k ∧ t.wt + 2 ≤ 70 * s.n
  | 0, t, s, h => by simp [sz] at h
  | d + 1, t, s, h => by
    have hs := sz_shape h
    clear h
    obtain ⟨w, ps, rfl, h⟩ := hs
    rcases h with ⟨rfl, a, rfl, hb, rfl⟩ | ⟨hw, par, inner, a, e, he, hh, h⟩
    · obtain ⟨v, rfl, v0, v9⟩ := btw_int hb
      have b := BT.int (v := v) (by omega)
      obtain ⟨w1, w2⟩ := word_bt (w := "draw") (.inl rfl)
      have b1 := b.tr
      have b2 := b.wt
      refine ⟨by simp [T.tr, T.trs] at w1 b1 ⊢; exact ⟨w1, b1⟩, by simp [T.nd, T.nds], by simp [T.dep, T.deps], by simp only [T.wt, T.wts] at w2 b2 ⊢; omega⟩
    · obtain rfl : d = e := by omega
      have ha := headP_k hh
      obtain ⟨g1, g2, g3, g4, g5⟩ := szL_ls (fun t u hu => sz_bt hu) h (by omega)
      have hww : wrd w := by
        rcases headP_wrd hh with ⟨rfl, _⟩ | ⟨rfl, _⟩ | ⟨rfl, _⟩ | ⟨rfl, _⟩ | ⟨rfl, _⟩ <;> simp [wrd]
      have han : a.n = 1 := by
        rcases headP_wrd hh with ⟨_, _, _, rfl, _⟩ | ⟨_, _, _, rfl, _⟩ | ⟨_, _, rfl, _⟩ | ⟨_, _, rfl, _⟩ | ⟨_, _, rfl, _⟩ <;> rfl
      obtain ⟨w1, w2⟩ := word_bt hww
      have key : T.trs ps = true ∧ T.nds ps = true ∧ T.deps ps + 1 ≤ s.k ∧ T.wts ps ≤ T.wts inner + 9 := by
        rcases headP_wrd hh with ⟨_, _, rfl, _⟩ | ⟨_, _, rfl, _⟩ | ⟨_, _, _, x, y, rfl, hb, rfl⟩ | ⟨_, _, _, y, rfl, rfl⟩ | ⟨_, _, _, y, rfl, rfl⟩
        · exact ⟨g1, g2, g3, by omega⟩
        · exact ⟨g1, g2, g3, by omega⟩
        · obtain ⟨v, rfl, v0, v9⟩ := btw_int hb
          have b := BT.int (v := v) (by omega)
          have b1 := b.tr
          have b2 := b.wt
          refine ⟨by simp only [T.trs, Bool.and_true] at g1 ⊢; rw [b1, g1]; rfl, by simp only [T.nds, T.nd, Bool.and_true, Bool.true_and] at g2 ⊢; exact g2, by simp only [T.deps, T.dep] at g3 ⊢; omega, by simp only [T.wts] at b2 ⊢; omega⟩
        · exact ⟨g1, g2, g3, by omega⟩
        · exact ⟨g1, g2, g3, by omega⟩
      obtain ⟨k1, k2, k3, k4⟩ := key
      refine ⟨by simp only [T.tr, T.trs] at w1 ⊢; simp [w1, k1], by simp only [T.nd, T.nds]; simp [k2], by simp only [T.dep, T.deps]; omega, by simp only [T.wt, T.wts] at w2 ⊢; omega⟩
theorem GenOk.bt {room deep : Nat} {t : T} {s : Sz} (g : GenOk room deep t s) : BT deep (140 * (room * deep)) t := by
  obtain ⟨h1, h2, h3, h4⟩ := sz_bt g.sz
  have := g.k2
  have := g.n2
  exact ⟨h1, h2, by omega, by omega⟩
end Mi
namespace Mi
open PySem L2 PySem.Builtin PySem.Builtin.Str PySem.StrLaws
inductive Hs (w : List Nat) : Nat → List Nat → Prop where
  | nil (l : List Nat) : Hs w 0 l
  | skip {n : Nat} {l : List Nat} (c : Nat) : Hs w n l → Hs w n (c :: l)
  | take {n : Nat} {l : List Nat} : Hs w n l → Hs w (n + 1) (w ++ l)
theorem Hs.skips {w : List Nat} {n : Nat} {l : List Nat} (h : Hs w n l) : ∀ k : List Nat, Hs w n (k ++ l)
  | [] => h
  | c :: k => (h.skips k).skip c
theorem Hs.less {w : List Nat} {n : Nat} {l : List Nat} (h : Hs w n l) : Hs w (n - 1) l := by
  induction h with
  | nil l => exact .nil l
  | skip c _ ih => exact ih.skip c
  | take h _ => exact h.skips w
theorem Hs.app {w : List Nat} {n m : Nat} {a b : List Nat} (h : Hs w n a) (g : Hs w m b) : Hs w (n + m) (a ++ b) := by
  induction h with
  | nil l => rw [Nat.zero_add]; exact g.skips l
  | skip c _ ih => exact ih.skip c
  | take h ih =>
    rename_i n l
    rw [List.append_assoc, show n + 1 + m = (n + m) + 1 by omega]
    exact ih.take
theorem Hs.drop {w : List Nat} {n : Nat} {l : List Nat} (h : Hs w n l) : ∀ {k : Nat}, k ≤ w.length → Hs w (n - 1) (l.drop k) := by
  induction h with
  | nil l => intro k _; exact .nil _
  | @skip n l c h ih =>
    intro k hk
    cases k with
    | zero => exact (h.skip c).less
    | succ k => exact ih (by omega)
  | @take n l h _ =>
    intro k hk
    have e : (w ++ l).drop k = w.drop k ++ l := by rw [List.drop_append_of_le_length hk]
    rw [e]
    exact h.skips _
theorem Hs.tail {w : List Nat} {n : Nat} {l : List Nat} (h : Hs w n l) (hn : ¬ w <+: l) : Hs w n l.tail := by
  cases h with
  | nil => exact .nil _
  | skip c h => exact h
  | take h => exact absurd (List.prefix_append _ _) hn
inductive HsL (w : List Nat) : Nat → List PySem.Str → Prop where
  | nil : HsL w 0 []
  | cons {n m : Nat} {t : PySem.Str} {ts : List PySem.Str} : Hs w n t.cps.toList → HsL w m ts → HsL w (n + m) (t :: ts)
theorem cpsApp (a b : PySem.Str) : (a ++ b).cps.toList = a.cps.toList ++ b.cps.toList := PyProof.Rows.cps_toList_append a b
theorem HsL.join {w : List Nat} {n : Nat} {ts : List PySem.Str} (sep : PySem.Str) (h : HsL w n ts) : Hs w n (Str.join sep ts).cps.toList := by
  induction h with
  | nil => exact .nil _
  | @cons n m t ts h1 h2 ih =>
    cases ts with
    | nil =>
      cases h2
      exact h1
    | cons u r =>
      show Hs w (n + m) ((t ++ sep ++ Str.join sep (u :: r)) : PySem.Str).cps.toList
      rw [cpsApp, cpsApp, List.append_assoc]
      exact h1.app (ih.skips _)
theorem HsL.tuple {w : List Nat} {n : Nat} {ts : List PySem.Str} (h : HsL w n ts) : Hs w n (tupleText ts).cps.toList := by
  unfold tupleText
  rw [cpsApp, cpsApp, List.append_assoc]
  exact Hs.skips ((h.join ", ").app (Hs.nil _)) _
structure PlanR (room : Nat) (t : T) (s : Sz) : Prop where
  sz : sz 10 t = some s
  sp : spl t = false
  o1 : 1 ≤ s.o
  o2 : s.o ≤ room
  r8 : s.r ≤ 8
  n50 : s.n ≤ 50
  k9 : s.k ≤ 9
theorem PlanR.bt {room : Nat} {t : T} {s : Sz} (g : PlanR room t s) : BT 10 3500 t := by
  obtain ⟨h1, h2, h3, h4⟩ := sz_bt g.sz
  have := sz_k g.sz
  have := g.n50
  exact ⟨h1, h2, by omega, by omega⟩
end Mi
namespace Mi
open PySem L2
theorem Ok_congr {α : Type} {r : R α} {Q Q' : α → Sto → Prop} {E : Exn → Sto → Prop} (h : ∀ a st, Q a st ↔ Q' a st) : Ok r Q E ↔ Ok r Q' E := by
  cases r with
  | ok a st => exact h a st
  | exc e st => exact Iff.rfl
  | bad => exact Iff.rfl
section
variable {Q : T → Sto → Prop} {E : Exn → Sto → Prop} {ρ : Sl} {y0 : Option T} {st : Sto} {N : Sl → Sto → Prop} {Rt : T → Sto → Prop} {B C : Sl → Sto → Prop} {Ex : Exn → Sl → Sto → Prop}
@[simp] theorem Ok_star (a : M T) (b : M (List T)) {Q : List T → Sto → Prop} : Ok (mStar a b (y0 :: ρ) st) Q E ↔ Ok (a (y0 :: ρ) st) (fun x st1 => ∃ xs, seqR st1 x = some xs ∧ Ok (b (y0 :: ρ) st1) (fun ys st2 => Q (xs ++ ys) st2) E) E := by
  unfold mStar
  rw [Ok_bind]
  refine Ok_congr fun x st1 => ?_
  cases h : seqR st1 x <;> simp
end
def numL (b : List Nat) : T := .lst (b.map fun (n : Nat) => .int n)
structure Gs where
  u : List T
  h : List (List Int)
  b : List (List Nat)
  r : List (List Nat)
  w : List (Nat × List Nat)
  l : Nat
def Gs.nil : Gs := ⟨[], [], [], [], [], 0⟩
section
variable {pre post : Sto} {s : Gs} {n : Nat} {l : Int}
variable {Q : T → Sto → Prop} {E : Exn → Sto → Prop}
def putN (w : List (Nat × List Nat)) (n : Nat) (v : List Nat) : List (Nat × List Nat) :=
  if (w.any fun p => decide (p.1 = n)) = true then w.map (fun p => if p.1 = n then (p.1, v) else p) else w ++ [(n, v)]
end
def gPut (a : T) (key : List Int) (bef ret : List Nat) (s : Gs) : Gs := ⟨s.u ++ [a], s.h ++ [key], s.b ++ [bef], s.r ++ [ret], s.w, s.l⟩
abbrev AddF := T → List Int → List Nat → List Nat → Gs → Gs
def gSpl (key : List Int) (bef ret : List Nat) (n0 : Nat) : List T → Gs → Gs
  | [], s => s
  | p :: ps, s => if spl p then gSpl key bef ret n0 ps (gPut .non key (bef ++ List.range' n0 (s.u.length - n0)) ret s) else gSpl key bef ret n0 ps s
def gSeq (A : AddF) (key : List Int) (bef ret : List Nat) (n0 : Nat) : List T → Gs → Gs
  | [], s => s
  | p :: ps, s => gSeq A key bef ret n0 ps (A p key (bef ++ List.range' n0 (s.u.length - n0)) ret s)
def inner1 : T → T
  | .tup [_, q] => q
  | _ => .non
def isRetry : T → Bool
  | .tup (.str w :: _) => decide (w = "retry")
  | _ => false
def gPar (A : AddF) (key : List Int) (bef ret : List Nat) : List T → Nat → Gs → Gs
  | [], _, s => s
  | p :: ps, j, s => if spl p then gPar A key bef ret ps (j + 1) (A (inner1 p) [(j : Int)] bef ret { s with w := putN s.w j (if isRetry (inner1 p) then ret ++ [s.l] else ret) })
    else gPar A key bef ret ps j (A p key bef ret s)
def nspl (ps : List T) : Nat := (ps.filter spl).length
structure Grw (s s' : Gs) (o q x : Nat) : Prop where
  u : s'.u.length = s.u.length + o
  h : s'.h.length = s.h.length + o
  b : s'.b.length = s.b.length + o
  r : s'.r.length = s.r.length + o
  w : s'.w.length ≤ s.w.length + x
  l : s'.l = s.l + q
theorem Grw.refl {s : Gs} : Grw s s 0 0 0 := ⟨rfl, rfl, rfl, rfl, Nat.le_refl _, rfl⟩
theorem Grw.trans {s s1 s2 : Gs} {o r x o' r' x' : Nat} (a : Grw s s1 o r x) (b : Grw s1 s2 o' r' x') : Grw s s2 (o + o') (r + r') (x + x') :=
  ⟨by rw [b.u, a.u]; omega, by rw [b.h, a.h]; omega, by rw [b.b, a.b]; omega, by rw [b.r, a.r]; omega, by have := a.w; have := b.w; omega, by rw [b.l, a.l]; omega⟩
theorem Grw.to {s s1 : Gs} {o r x o' r' x' : Nat} (a : Grw s s1 o r x) (h1 : o = o') (h2 : r = r') (h3 : x ≤ x') : Grw s s1 o' r' x' := by
  subst h1; subst h2; exact ⟨a.u, a.h, a.b, a.r, by have := a.w; omega, a.l⟩
section
variable {d : Nat} {A : AddF} (hA : ∀ t z, sz d t = some z → spl t = false → ∀ key bef ret s, Grw s (A t key bef ret s) z.o z.r z.o)
include hA
end
section
variable {Q : T → Sto → Prop} {E : Exn → Sto → Prop} {st : Sto}
@[simp] theorem Ok_addN (a b : List Nat) : Ok (opAdd (numL a) (numL b) st) Q E ↔ a.length + b.length ≤ sizeLine ∧ Q (numL (a ++ b)) st := by
  show Ok (opAdd (.lst _) (.lst _) st) Q E ↔ _
  rw [Ok_addL]
  simp [numL]
@[simp] theorem seqR_num (k : List Nat) : seqR st (numL k) = some (k.map fun (n : Nat) => .int n) := rfl
end
end Mi
namespace Mi
open PySem L2
def LAt (st : Sto) (x : T) (es : List T) : Prop := x = .lst es ∨ ∃ i, x = .ref i ∧ st[i]? = some (.lst es)
theorem LAt.ext {st g : Sto} {x : T} {es : List T} (h : LAt st x es) : LAt (st ++ g) x es := by
  rcases h with rfl | ⟨i, rfl, h⟩
  · exact .inl rfl
  · refine .inr ⟨i, rfl, ?_⟩
    rw [List.getElem?_append_left (List.getElem?_eq_some_iff.mp h).1]; exact h
theorem LAt.lstR {st : Sto} {x : T} {es : List T} (h : LAt st x es) : lstR st x = some es := by
  rcases h with rfl | ⟨i, rfl, h⟩
  · rfl
  · simp [Mi.lstR, h]
theorem LAt.lstD {st : Sto} {x : T} {es : List T} (h : LAt st x es) : lstD st x = some es := by
  rcases h with rfl | ⟨i, rfl, h⟩
  · rfl
  · simp [Mi.lstD, h]
theorem LAt.len {st : Sto} {x : T} {es : List T} (h : LAt st x es) : fLen [x] st = .ok (.int es.length) st := by
  rcases h with rfl | ⟨i, rfl, h⟩
  · rfl
  · simp [fLen, seqR, Mi.lstR, h]
theorem LAt.add {st : Sto} {x y : T} {a b : List T} (h : LAt st x a) (g : LAt st y b) (hz : a.length + b.length ≤ sizeLine) : opAdd x y st = .ok (.lst (a ++ b)) st := by
  have h1 := h.lstD
  have h2 := g.lstD
  rcases h with rfl | ⟨i, rfl, h⟩ <;> rcases g with rfl | ⟨j, rfl, g⟩ <;> simp [opAdd, h1, h2, hz]
abbrev LisF := T → List T → List T → List T → List T
def usesOf : Nat → T → List T
  | 0 => fun _ => []
  | d + 1 => fun t => match t with
    | .tup (.str w :: ps) =>
      if w = "draw" then (match ps with | [a] => [a] | _ => [])
      else if w = "named" then (match ps with | [_, p] => usesOf d p | _ => [])
      else if w = "retry" then (match ps with | [p] => usesOf d p | _ => [])
      else List.replicate (nspl ps) .non ++ (ps.map fun p => usesOf d (if spl p then inner1 p else p)).flatten
    | _ => []
def useT : T → T
  | .tup (a :: _) => a
  | _ => .non
section
variable {d : Nat} {L : LisF} (hL : ∀ t z, sz d t = some z → spl t = false → ∀ home marks node, (L t home marks node).map useT = usesOf d t)
include hL
end
section
variable {d : Nat} {A : AddF} (hA : ∀ t z, sz d t = some z → spl t = false → ∀ key bef ret s, (A t key bef ret s).u = s.u ++ usesOf d t)
include hA
end
end Mi
namespace Mi
open PySem L2
section
variable {X : Cx}
end
end Mi
namespace Mi
open PySem L2 PySem.Spec PyProof.Rows
section
variable {X : Cx}
end
section
variable {Q : T → Sto → Prop} {E : Exn → Sto → Prop} {st : Sto} {r : Int → Int → Bool} {z : Nat → Nat → Bool}
end
end Mi
namespace Mi
open PySem L2
mutual
inductive P where
  | draw (u : Int)
  | seq (ps : Ps)
  | par (ps : Ps)
  | named (n : Int) (p : P)
  | retry (p : P)
/-- parts; true: a split part -/
inductive Ps where
  | nil
  | cons (b : Bool) (p : P) (ps : Ps)
end
mutual
/-- the tuple -/
def P.t : P → T
  | .draw u => .tup [.str "draw", .int u]
  | .seq ps => .tup (.str "seq" :: ps.ts)
  | .par ps => .tup (.str "par" :: ps.ts)
  | .named n p => .tup [.str "named", .int n, p.t]
  | .retry p => .tup [.str "retry", p.t]
def Ps.ts : Ps → List T
  | .nil => []
  | .cons b p ps => (if b then .tup [.str "split", p.t] else p.t) :: ps.ts
end
mutual
/-- depth -/
def P.dep : P → Nat
  | .draw _ => 1
  | .seq ps => ps.dep + 1
  | .par ps => ps.dep + 1
  | .named _ p => p.dep + 1
  | .retry p => p.dep + 1
def Ps.dep : Ps → Nat
  | .nil => 0
  | .cons b p ps => max (if b then p.dep + 1 else p.dep) ps.dep
end
def Ps.len : Ps → Nat
  | .nil => 0
  | .cons _ _ ps => ps.len + 1
def Ps.k : Ps → Nat
  | .nil => 0
  | .cons b _ ps => (if b then 1 else 0) + ps.k
mutual
/-- operations -/
def P.o : P → Nat
  | .draw _ => 1
  | .seq ps => ps.o
  | .par ps => ps.k + ps.o
  | .named _ p => p.o
  | .retry p => p.o
def Ps.o : Ps → Nat
  | .nil => 0
  | .cons _ p ps => p.o + ps.o
end
mutual
/-- retries -/
def P.q : P → Nat
  | .draw _ => 0
  | .seq ps => ps.q
  | .par ps => ps.q
  | .named _ p => p.q
  | .retry p => p.q + 1
def Ps.q : Ps → Nat
  | .nil => 0
  | .cons _ p ps => p.q + ps.q
end
mutual
/-- tuples -/
def P.tn : P → Nat
  | .draw _ => 1
  | .seq ps => ps.tn + 1
  | .par ps => ps.tn + 1
  | .named _ p => p.tn + 1
  | .retry p => p.tn + 1
def Ps.tn : Ps → Nat
  | .nil => 0
  | .cons b p ps => (if b then 1 else 0) + p.tn + ps.tn
end
mutual
/-- uses and names from 0 to 9, no split part in a seq, at most twelve parts -/
def P.wf : P → Bool
  | .draw u => decide (0 ≤ u ∧ u ≤ 9)
  | .seq ps => decide (ps.k = 0) && decide (ps.len ≤ 12) && ps.wf
  | .par ps => decide (ps.len ≤ 12) && ps.wf
  | .named n p => decide (0 ≤ n ∧ n ≤ 9) && p.wf
  | .retry p => p.wf
def Ps.wf : Ps → Bool
  | .nil => true
  | .cons _ p ps => p.wf && ps.wf
end
theorem spl_t : ∀ p : P, spl p.t = false
  | .draw _ | .seq _ | .par _ | .named _ _ | .retry _ => by simp [P.t, spl]
theorem spl_s (p : P) : spl (.tup [.str "split", p.t]) = true := by simp [spl]
mutual
/-- the uses -/
def P.us : P → List T
  | .draw u => [.int u]
  | .seq ps => ps.us
  | .par ps => List.replicate ps.k .non ++ ps.us
  | .named _ p => p.us
  | .retry p => p.us
def Ps.us : Ps → List T
  | .nil => []
  | .cons _ p ps => p.us ++ ps.us
end
mutual
/-- the keys of the streams; n: the number of the first operation; of parts, j: that of the next split -/
def P.hs : P → List Int → Nat → List (List Int)
  | .draw _, key, _ => [key]
  | .seq ps, key, n => ps.hs key 0 n
  | .par ps, key, n => List.replicate ps.k key ++ ps.hs key n (n + ps.k)
  | .named a p, key, n => p.hs (key ++ [a]) n
  | .retry p, key, n => p.hs key n
def Ps.hs : Ps → List Int → Nat → Nat → List (List Int)
  | .nil, _, _, _ => []
  | .cons b p ps, key, j, n => (if b then p.hs [(j : Int)] n else p.hs key n) ++ ps.hs key (if b then j + 1 else j) (n + p.o)
end
mutual
/-- what each operation is after -/
def P.bs : P → List Nat → Nat → List (List Nat)
  | .draw _, bef, _ => [bef]
  | .seq ps, bef, n => ps.bs false bef n n
  | .par ps, bef, n => (List.range ps.k).map (fun i => bef ++ List.range' n i) ++ ps.bs true (bef ++ List.range' n ps.k) n (n + ps.k)
  | .named _ p, bef, n => p.bs bef n
  | .retry p, bef, n => p.bs bef n
def Ps.bs : Ps → Bool → List Nat → Nat → Nat → List (List Nat)
  | .nil, _, _, _, _ => []
  | .cons _ p ps, par, bef, n0, n => p.bs (if par then bef else bef ++ List.range' n0 (n - n0)) n ++ ps.bs par bef n0 (n + p.o)
end
mutual
/-- the retries that it is in -/
def P.rs : P → List Nat → Nat → List (List Nat)
  | .draw _, ret, _ => [ret]
  | .seq ps, ret, l => ps.rs ret l
  | .par ps, ret, l => List.replicate ps.k ret ++ ps.rs ret l
  | .named _ p, ret, l => p.rs ret l
  | .retry p, ret, l => p.rs (ret ++ [l]) (l + 1)
def Ps.rs : Ps → List Nat → Nat → List (List Nat)
  | .nil, _, _ => []
  | .cons _ p ps, ret, l => p.rs ret l ++ ps.rs ret (l + p.q)
end
mutual
theorem P.us_len : ∀ p : P, p.us.length = p.o
  | .draw _ => rfl
  | .seq ps => by simp only [P.us, P.o, Ps.us_len ps]
  | .par ps => by simp only [P.us, P.o, List.length_append, List.length_replicate, Ps.us_len ps]
  | .named _ p => by simp only [P.us, P.o, P.us_len p]
  | .retry p => by simp only [P.us, P.o, P.us_len p]
theorem Ps.us_len : ∀ ps : Ps, ps.us.length = ps.o
  | .nil => rfl
  | .cons _ p ps => by simp only [Ps.us, Ps.o, List.length_append, P.us_len p, Ps.us_len ps]
end
mutual
theorem P.bs_len : ∀ (p : P) (bef : List Nat) (n : Nat), (p.bs bef n).length = p.o
  | .draw _, _, _ => rfl
  | .seq ps, _, _ => by simp only [P.bs, P.o, Ps.bs_len ps]
  | .par ps, _, _ => by simp only [P.bs, P.o, List.length_append, List.length_map, List.length_range, Ps.bs_len ps]
  | .named _ p, _, _ => by simp only [P.bs, P.o, P.bs_len p]
  | .retry p, _, _ => by simp only [P.bs, P.o, P.bs_len p]
theorem Ps.bs_len : ∀ (ps : Ps) (par : Bool) (bef : List Nat) (n0 n : Nat), (ps.bs par bef n0 n).length = ps.o
  | .nil, _, _, _, _ => rfl
  | .cons b p ps, _, _, _, _ => by simp only [Ps.bs, Ps.o, List.length_append, P.bs_len p, Ps.bs_len ps]
end
structure GP (s s' : Gs) (us : List T) (hs : List (List Int)) (bs rs : List (List Nat)) (q : Nat) : Prop where
  u : s'.u = s.u ++ us
  h : s'.h = s.h ++ hs
  b : s'.b = s.b ++ bs
  r : s'.r = s.r ++ rs
  l : s'.l = s.l + q
theorem GP.refl (s : Gs) : GP s s [] [] [] [] 0 := ⟨by simp, by simp, by simp, by simp, rfl⟩
theorem GP.trans {s s1 s2 : Gs} {us us' : List T} {hs hs' : List (List Int)} {bs bs' rs rs' : List (List Nat)} {q q' : Nat} (a : GP s s1 us hs bs rs q) (b : GP s1 s2 us' hs' bs' rs' q') :
    GP s s2 (us ++ us') (hs ++ hs') (bs ++ bs') (rs ++ rs') (q + q') :=
  ⟨by rw [b.u, a.u, List.append_assoc], by rw [b.h, a.h, List.append_assoc], by rw [b.b, a.b, List.append_assoc], by rw [b.r, a.r, List.append_assoc], by rw [b.l, a.l]; omega⟩
theorem GP.put (a : T) (key : List Int) (bef ret : List Nat) (s : Gs) : GP s (gPut a key bef ret s) [a] [key] [bef] [ret] 0 := ⟨rfl, rfl, rfl, rfl, rfl⟩
theorem GP.spl (key : List Int) (bef ret : List Nat) (n0 : Nat) : ∀ (ps : Ps) (s : Gs), n0 ≤ s.u.length → GP s (gSpl key bef ret n0 ps.ts s) (List.replicate ps.k .non) (List.replicate ps.k key) ((List.range' (s.u.length - n0) ps.k).map fun i => bef ++ List.range' n0 i) (List.replicate ps.k ret) 0
  | .nil, s, _ => by simpa [Ps.ts, gSpl, Ps.k] using GP.refl s
  | .cons b p ps, s, h0 => by
    cases b with
    | false =>
      simp only [Ps.ts, gSpl, Ps.k, spl_t, if_false, Nat.zero_add, Bool.false_eq_true]
      exact GP.spl key bef ret n0 ps s h0
    | true =>
      simp only [Ps.ts, gSpl, Ps.k, spl_s, if_true, Nat.add_comm 1]
      have h := (GP.put .non key (bef ++ List.range' n0 (s.u.length - n0)) ret s).trans (GP.spl key bef ret n0 ps _ (by simp [gPut]; omega))
      simp only [List.replicate_succ, List.range'_succ, List.map_cons]
      have e : (gPut .non key (bef ++ List.range' n0 (s.u.length - n0)) ret s).u.length - n0 = s.u.length - n0 + 1 := by simp [gPut]; omega
      rw [e] at h
      exact h
section
variable {d : Nat} {A : AddF} (hA : ∀ (p : P) key bef ret s, p.wf = true → p.dep ≤ d → GP s (A p.t key bef ret s) p.us (p.hs key s.u.length) (p.bs bef s.u.length) (p.rs ret s.l) p.q)
include hA
theorem GP.seq (key : List Int) (bef ret : List Nat) (n0 : Nat) : ∀ (ps : Ps) (s : Gs), ps.wf = true → ps.dep ≤ d → ps.k = 0 → GP s (gSeq A key bef ret n0 ps.ts s) ps.us (ps.hs key 0 s.u.length) (ps.bs false bef n0 s.u.length) (ps.rs ret s.l) ps.q
  | .nil, s, _, _, _ => GP.refl s
  | .cons b p ps, s, hw, hd, hk => by
    simp only [Ps.wf, Bool.and_eq_true] at hw
    cases b with
    | true => simp only [Ps.k, if_true] at hk; omega
    | false =>
      simp only [Ps.k, if_false, Bool.false_eq_true] at hk
      simp only [Ps.dep, if_false, Bool.false_eq_true] at hd
      simp only [Ps.ts, gSeq, if_false, Bool.false_eq_true, Ps.us, Ps.hs, Ps.bs, Ps.rs, Ps.q]
      have h1 := hA p key (bef ++ List.range' n0 (s.u.length - n0)) ret s hw.1 (by omega)
      have h2 := GP.seq key bef ret n0 ps (A p.t key (bef ++ List.range' n0 (s.u.length - n0)) ret s) hw.2 (by omega) (by omega)
      have e : (A p.t key (bef ++ List.range' n0 (s.u.length - n0)) ret s).u.length = s.u.length + p.o := by rw [h1.u, List.length_append, P.us_len]
      rw [e, h1.l] at h2
      exact h1.trans h2
theorem GP.par (key : List Int) (bef ret : List Nat) (n0 : Nat) : ∀ (ps : Ps) (j : Nat) (s : Gs), ps.wf = true → ps.dep ≤ d → GP s (gPar A key bef ret ps.ts j s) ps.us (ps.hs key j s.u.length) (ps.bs true bef n0 s.u.length) (ps.rs ret s.l) ps.q
  | .nil, j, s, _, _ => GP.refl s
  | .cons b p ps, j, s, hw, hd => by
    simp only [Ps.wf, Bool.and_eq_true] at hw
    cases b with
    | true =>
      simp only [Ps.dep, if_true] at hd
      simp only [Ps.ts, gPar, if_true, spl_s, Ps.us, Ps.hs, Ps.bs, Ps.rs, Ps.q, inner1]
      have h1 := hA p [(j : Int)] bef ret { s with w := putN s.w j (if isRetry p.t then ret ++ [s.l] else ret) } hw.1 (by omega)
      have h2 := GP.par key bef ret n0 ps (j + 1) (A p.t [(j : Int)] bef ret { s with w := putN s.w j (if isRetry p.t then ret ++ [s.l] else ret) }) hw.2 (by omega)
      have e : (A p.t [(j : Int)] bef ret { s with w := putN s.w j (if isRetry p.t then ret ++ [s.l] else ret) }).u.length = s.u.length + p.o := by rw [h1.u, List.length_append, P.us_len]
      rw [e, h1.l] at h2
      have h0 : GP s { s with w := putN s.w j (if isRetry p.t then ret ++ [s.l] else ret) } [] [] [] [] 0 := ⟨by simp, by simp, by simp, by simp, rfl⟩
      have h3 := h0.trans (h1.trans h2)
      rw [Nat.zero_add] at h3
      exact h3
    | false =>
      simp only [Ps.dep, if_false, Bool.false_eq_true] at hd
      simp only [Ps.ts, gPar, if_false, spl_t, Bool.false_eq_true, Ps.us, Ps.hs, Ps.bs, Ps.rs, Ps.q, if_true]
      have h1 := hA p key bef ret s hw.1 (by omega)
      have h2 := GP.par key bef ret n0 ps j (A p.t key bef ret s) hw.2 (by omega)
      have e : (A p.t key bef ret s).u.length = s.u.length + p.o := by rw [h1.u, List.length_append, P.us_len]
      rw [e, h1.l] at h2
      exact h1.trans h2
end
end Mi
namespace Mi
open PySem L2
abbrev Mark := List Nat × Nat × Nat
structure Hm where
  key : List Int
  r : Option (List Nat)
  ns : List Int
structure Al where
  no : Nat
  use : T
  h : Hm
  bef : List Nat
  ret : List Nat
  ms : List Mark
  own : Option (List Nat)
def Al.push (m : Mark) (a : Al) : Al := { a with ms := m :: a.ms }
def Ps.spl (h : Hm) (bef : List Nat) (n0 : Nat) (node : List Nat) (ret : List Nat) : Ps → Nat → Nat → List Al
  | .nil, _, _ => []
  | .cons b _ ps, a, i => if b then ⟨n0 + a, .non, h, bef ++ List.range' n0 a, ret, [(node, 1, a)], some (node ++ [i])⟩ :: Ps.spl h bef n0 node ret ps (a + 1) (i + 1) else Ps.spl h bef n0 node ret ps a (i + 1)
mutual
def P.all : P → Hm → List Nat → Nat → List Nat → List Nat → Nat → List Al
  | .draw u, h, bef, n, node, ret, l => [⟨n, .int u, h, bef, ret, [], none⟩]
  | .seq ps, h, bef, n, node, ret, l => ps.all false h bef n 0 n node 0 ret l
  | .par ps, h, bef, n, node, ret, l => ps.spl h bef n node ret 0 0 ++ ps.all true h (bef ++ List.range' n ps.k) n n (n + ps.k) node 0 ret l
  | .named a p, h, bef, n, node, ret, l => p.all ⟨h.key ++ [a], h.r, h.ns ++ [a]⟩ bef n (node ++ [0]) ret l
  | .retry p, h, bef, n, node, ret, l => p.all h bef n (node ++ [0]) (ret ++ [l]) (l + 1)
def Ps.all : Ps → Bool → Hm → List Nat → Nat → Nat → Nat → List Nat → Nat → List Nat → Nat → List Al
  | .nil, _, _, _, _, _, _, _, _, _, _ => []
  | .cons b p ps, par, h, bef, n0, j, n, node, i, ret, l =>
    (p.all (if b then ⟨[(j : Int)], some (node ++ [i]), []⟩ else h) (if par then bef else bef ++ List.range' n0 (n - n0)) n (node ++ [i]) ret l).map (Al.push (node, if par then 2 else 0, i)) ++
      ps.all par h bef n0 (if b then j + 1 else j) (n + p.o) node (i + 1) ret (l + p.q)
end
theorem map_push {α : Type} (f : Al → α) (hf : ∀ m a, f (Al.push m a) = f a) (m : Mark) (l : List Al) : (l.map (Al.push m)).map f = l.map f := by
  rw [List.map_map]
  exact List.map_congr_left fun a _ => hf m a
theorem Ps.spl_no (h : Hm) (bef : List Nat) (n0 : Nat) (node ret : List Nat) : ∀ (ps : Ps) (a i : Nat), (ps.spl h bef n0 node ret a i).map Al.no = List.range' (n0 + a) ps.k
  | .nil, _, _ => rfl
  | .cons true p ps, a, i => by simp [Ps.spl, Ps.k, Ps.spl_no h bef n0 node ret ps, Nat.add_comm 1, List.range'_succ, Nat.add_assoc]
  | .cons false p ps, a, i => by simp [Ps.spl, Ps.k, Ps.spl_no h bef n0 node ret ps]
theorem Ps.spl_mem {h : Hm} {bef : List Nat} {n0 : Nat} {node ret : List Nat} : ∀ {ps : Ps} {a i : Nat} {x : Al}, x ∈ ps.spl h bef n0 node ret a i → ∃ c e, a ≤ c ∧ c < a + ps.k ∧ i ≤ e ∧ e < i + ps.len ∧ x = ⟨n0 + c, .non, h, bef ++ List.range' n0 c, ret, [(node, 1, c)], some (node ++ [e])⟩
  | .nil, _, _, x, hx => by cases hx
  | .cons true p ps, a, i, x, hx => by
    simp only [Ps.spl, if_true, List.mem_cons] at hx
    rcases hx with rfl | hx
    · exact ⟨a, i, Nat.le_refl _, by simp only [Ps.k, if_true]; omega, Nat.le_refl _, by simp only [Ps.len]; omega, rfl⟩
    · obtain ⟨c, e, h1, h2, h3, h4, rfl⟩ := Ps.spl_mem hx
      exact ⟨c, e, by omega, by simp [Ps.k]; omega, by omega, by simp [Ps.len]; omega, rfl⟩
  | .cons false p ps, a, i, x, hx => by
    simp only [Ps.spl, if_false, Bool.false_eq_true] at hx
    obtain ⟨c, e, h1, h2, h3, h4, rfl⟩ := Ps.spl_mem hx
    exact ⟨c, e, by omega, by simp [Ps.k]; omega, by omega, by simp [Ps.len]; omega, rfl⟩
mutual
theorem P.all_no : ∀ (p : P) (h : Hm) (bef : List Nat) (n : Nat) (node ret : List Nat) (l : Nat), (p.all h bef n node ret l).map Al.no = List.range' n p.o
  | .draw _, _, _, _, _, _, _ => rfl
  | .seq ps, h, bef, n, node, ret, l => by simp only [P.all, P.o, Ps.all_no ps]
  | .par ps, h, bef, n, node, ret, l => by
    simp only [P.all, P.o, List.map_append, Ps.all_no ps, Ps.spl_no, Nat.add_zero]
    rw [List.range'_append_1]
  | .named a p, h, bef, n, node, ret, l => by simp only [P.all, P.o, P.all_no p]
  | .retry p, h, bef, n, node, ret, l => by simp only [P.all, P.o, P.all_no p]
theorem Ps.all_no : ∀ (ps : Ps) (par : Bool) (h : Hm) (bef : List Nat) (n0 j n : Nat) (node : List Nat) (i : Nat) (ret : List Nat) (l : Nat), (ps.all par h bef n0 j n node i ret l).map Al.no = List.range' n ps.o
  | .nil, _, _, _, _, _, _, _, _, _, _ => rfl
  | .cons b p ps, par, h, bef, n0, j, n, node, i, ret, l => by
    simp only [Ps.all, Ps.o, List.map_append]
    rw [map_push Al.no (fun _ _ => rfl), P.all_no p, Ps.all_no ps, List.range'_append_1]
end
mutual
theorem P.all_bef : ∀ (p : P) (h : Hm) (bef : List Nat) (n : Nat) (node ret : List Nat) (l : Nat), (p.all h bef n node ret l).map Al.bef = p.bs bef n
  | .draw _, _, _, _, _, _, _ => rfl
  | .seq ps, h, bef, n, node, ret, l => by simp only [P.all, P.bs, Ps.all_bef ps]
  | .par ps, h, bef, n, node, ret, l => by
    have e : ∀ (ps : Ps) (a i : Nat), (ps.spl h bef n node ret a i).map Al.bef = (List.range' a ps.k).map (fun i => bef ++ List.range' n i) := by
      intro ps
      induction ps using Ps.rec (motive_1 := fun _ => True) with
      | nil => intro a i; rfl
      | cons b p ps _ ih => intro a i; cases b <;> simp [Ps.spl, Ps.k, ih, Nat.add_comm 1, List.range'_succ]
      | _ => trivial
    simp only [P.all, P.bs, List.map_append, Ps.all_bef ps, e, List.range_eq_range']
  | .named a p, h, bef, n, node, ret, l => by simp only [P.all, P.bs, P.all_bef p]
  | .retry p, h, bef, n, node, ret, l => by simp only [P.all, P.bs, P.all_bef p]
theorem Ps.all_bef : ∀ (ps : Ps) (par : Bool) (h : Hm) (bef : List Nat) (n0 j n : Nat) (node : List Nat) (i : Nat) (ret : List Nat) (l : Nat), (ps.all par h bef n0 j n node i ret l).map Al.bef = ps.bs par bef n0 n
  | .nil, _, _, _, _, _, _, _, _, _, _ => rfl
  | .cons b p ps, par, h, bef, n0, j, n, node, i, ret, l => by
    simp only [Ps.all, Ps.bs, List.map_append]
    rw [map_push Al.bef (fun _ _ => rfl), P.all_bef p, Ps.all_bef ps]
end
structure BefOk (bef : List Nat) (n : Nat) (x : Al) : Prop where
  lt : ∀ m ∈ x.bef, m < x.no
  low : ∀ m, m < n → (m ∈ x.bef ↔ m ∈ bef)
mutual
theorem P.all_befOk : ∀ (p : P) (h : Hm) (bef : List Nat) (n : Nat) (node ret : List Nat) (l : Nat), (∀ m ∈ bef, m < n) → ∀ x ∈ p.all h bef n node ret l, BefOk bef n x
  | .draw _, h, bef, n, node, ret, l, hb => fun x hx => by
    simp only [P.all, List.mem_singleton] at hx
    subst hx
    exact ⟨hb, fun m _ => Iff.rfl⟩
  | .seq ps, h, bef, n, node, ret, l, hb => fun x hx => by
    simp only [P.all] at hx
    obtain ⟨h1, h2⟩ := Ps.all_befOk ps false h bef n 0 n node 0 ret l (Nat.le_refl _) hb x hx
    exact ⟨h1, fun m hm => by rw [h2 m hm]; simp⟩
  | .par ps, h, bef, n, node, ret, l, hb => fun x hx => by
    simp only [P.all, List.mem_append] at hx
    rcases hx with hx | hx
    · obtain ⟨c, e, h1, h2, h3, h4, rfl⟩ := Ps.spl_mem hx
      refine ⟨fun m hm => ?_, fun m hm => ?_⟩
      · simp only [List.mem_append, List.mem_range'_1] at hm
        show m < n + c
        rcases hm with hm | hm
        · have := hb m hm; omega
        · omega
      · simp only [List.mem_append, List.mem_range'_1]
        constructor
        · rintro (h | h)
          · exact h
          · omega
        · exact fun h => .inl h
    · obtain ⟨h1, h2⟩ := Ps.all_befOk ps true h (bef ++ List.range' n ps.k) n n (n + ps.k) node 0 ret l (by omega) (fun m hm => by
        simp only [List.mem_append, List.mem_range'_1] at hm
        rcases hm with hm | hm
        · have := hb m hm; omega
        · omega) x hx
      refine ⟨h1, fun m hm => ?_⟩
      rw [h2 m (by omega)]
      simp only [if_true, List.mem_append, List.mem_range'_1]
      constructor
      · rintro (h | h)
        · exact h
        · omega
      · exact fun h => .inl h
  | .named a p, h, bef, n, node, ret, l, hb => fun x hx => P.all_befOk p _ bef n _ ret l hb x (by simpa only [P.all] using hx)
  | .retry p, h, bef, n, node, ret, l, hb => fun x hx => P.all_befOk p _ bef n _ _ _ hb x (by simpa only [P.all] using hx)
theorem Ps.all_befOk : ∀ (ps : Ps) (par : Bool) (h : Hm) (bef : List Nat) (n0 j n : Nat) (node : List Nat) (i : Nat) (ret : List Nat) (l : Nat), n0 ≤ n → (∀ m ∈ bef, m < n) → ∀ x ∈ ps.all par h bef n0 j n node i ret l, BefOk (if par then bef else bef ++ List.range' n0 (n - n0)) n x
  | .nil, par, h, bef, n0, j, n, node, i, ret, l, h0, hb => fun x hx => by simp only [Ps.all] at hx; cases hx
  | .cons b p ps, par, h, bef, n0, j, n, node, i, ret, l, h0, hb => fun x hx => by
    simp only [Ps.all, List.mem_append, List.mem_map] at hx
    have hB : ∀ m ∈ (if par = true then bef else bef ++ List.range' n0 (n - n0)), m < n := fun m hm => by
      cases par with
      | true => exact hb m hm
      | false =>
        simp only [if_false, Bool.false_eq_true, List.mem_append, List.mem_range'_1] at hm
        rcases hm with hm | hm
        · exact hb m hm
        · omega
    rcases hx with ⟨y, hy, rfl⟩ | hx
    · obtain ⟨h1, h2⟩ := P.all_befOk p _ _ n _ ret l hB y hy
      exact ⟨h1, h2⟩
    · obtain ⟨h1, h2⟩ := Ps.all_befOk ps par h bef n0 _ (n + p.o) node (i + 1) ret _ (by omega) (fun m hm => by have := hb m hm; omega) x hx
      refine ⟨h1, fun m hm => ?_⟩
      rw [h2 m (by omega)]
      cases par with
      | true => exact Iff.rfl
      | false =>
        simp only [if_false, Bool.false_eq_true, List.mem_append, List.mem_range'_1]
        constructor
        · rintro (h | h)
          · exact .inl h
          · right; omega
        · rintro (h | h)
          · exact .inl h
          · right; omega
end
end Mi
namespace Mi
open PySem L2
def nodeT (l : List Nat) : List T := l.map fun (n : Nat) => .int n
def ownT : Option (List Nat) → T
  | none => .non
  | some l => .tup (nodeT l)
def homeT (h : Hm) : List T := ownT h.r :: h.ns.map .int
def markT (m : Mark) : T := .tup [.tup (nodeT m.1), .int (m.2.1 : Nat), .int (m.2.2 : Nat)]
def Al.tT (marks : List T) (a : Al) : T := .tup [a.use, .tup (homeT a.h), .tup (marks ++ a.ms.map markT), ownT a.own]
section
variable {d : Nat} {L : LisF} (hL : ∀ (p : P) (h : Hm) bef n node ret l marks, p.wf = true → p.dep ≤ d → L p.t (homeT h) marks (nodeT node) = (p.all h bef n node ret l).map (Al.tT marks))
include hL
end
abbrev hm0 : Hm := ⟨[-1], none, []⟩
abbrev P.al (p : P) : List Al := p.all hm0 [] 0 [] [] 0
theorem P.al_len (p : P) : p.al.length = p.o := by
  have := congrArg List.length (P.all_no p hm0 [] 0 [] [] 0)
  simpa using this
theorem P.al_no (p : P) (i : Nat) (h : i < p.al.length) : p.al[i].no = i := by
  have e := P.all_no p hm0 [] 0 [] [] 0
  have : (p.al.map Al.no)[i]'(by simpa using h) = (List.range' 0 p.o)[i]'(by simpa [P.al_len] using h) := by
    simp only [e]
  simpa using this
structure Mok (m : Mark) : Prop where
  n : ∀ a ∈ m.1, a < 32
  k : m.2.1 < 32
  i : m.2.2 < 32
structure Aok (x : Al) : Prop where
  ms : ∀ m ∈ x.ms, Mok m
  own : ∀ o, x.own = some o → ∀ a ∈ o, a < 32
theorem snoc32 {l : List Nat} {i : Nat} (h : ∀ a ∈ l, a < 32) (hi : i < 32) : ∀ a ∈ l ++ [i], a < 32 := fun a ha => by
  rcases List.mem_append.mp ha with ha | ha
  · exact h a ha
  · rw [List.mem_singleton] at ha
    omega
theorem Ps.k_le : ∀ ps : Ps, ps.k ≤ ps.len
  | .nil => Nat.le_refl _
  | .cons b p ps => by
    have := Ps.k_le ps
    cases b <;> simp only [Ps.k, Ps.len, if_true, if_false, Bool.false_eq_true] <;> omega
mutual
theorem P.all_ok : ∀ (p : P) (h : Hm) (bef : List Nat) (n : Nat) (node ret : List Nat) (l : Nat), p.wf = true → (∀ a ∈ node, a < 32) → ∀ x ∈ p.all h bef n node ret l, Aok x
  | .draw _, h, bef, n, node, ret, l, hw, hn => fun x hx => by
    simp only [P.all, List.mem_singleton] at hx
    subst hx
    exact ⟨by simp, by simp⟩
  | .seq ps, h, bef, n, node, ret, l, hw, hn => fun x hx => by
    simp only [P.wf, Bool.and_eq_true, decide_eq_true_eq] at hw
    simp only [P.all] at hx
    exact Ps.all_ok ps false h bef n 0 n node 0 ret l hw.2 hn (by omega) x hx
  | .par ps, h, bef, n, node, ret, l, hw, hn => fun x hx => by
    simp only [P.wf, Bool.and_eq_true, decide_eq_true_eq] at hw
    simp only [P.all, List.mem_append] at hx
    rcases hx with hx | hx
    · obtain ⟨c, e, h1, h2, h3, h4, rfl⟩ := Ps.spl_mem hx
      have := ps.k_le
      refine ⟨fun m hm => ?_, fun o ho a ha => ?_⟩
      · rw [List.mem_singleton] at hm
        subst hm
        exact ⟨hn, show 1 < 32 by decide, by show c < 32; omega⟩
      · cases ho
        rcases List.mem_append.mp ha with ha | ha
        · exact hn a ha
        · rw [List.mem_singleton] at ha
          omega
    · exact Ps.all_ok ps true h _ n n (n + ps.k) node 0 ret l hw.2 hn (by omega) x hx
  | .named a p, h, bef, n, node, ret, l, hw, hn => fun x hx => by
    simp only [P.wf, Bool.and_eq_true, decide_eq_true_eq] at hw
    exact P.all_ok p _ bef n _ ret l hw.2 (snoc32 (i := 0) hn (by decide)) x (by simpa only [P.all] using hx)
  | .retry p, h, bef, n, node, ret, l, hw, hn => fun x hx => by
    simp only [P.wf] at hw
    exact P.all_ok p _ bef n _ _ _ hw (snoc32 (i := 0) hn (by decide)) x (by simpa only [P.all] using hx)
theorem Ps.all_ok : ∀ (ps : Ps) (par : Bool) (h : Hm) (bef : List Nat) (n0 j n : Nat) (node : List Nat) (i : Nat) (ret : List Nat) (l : Nat), ps.wf = true → (∀ a ∈ node, a < 32) → i + ps.len < 32 → ∀ x ∈ ps.all par h bef n0 j n node i ret l, Aok x
  | .nil, par, h, bef, n0, j, n, node, i, ret, l, hw, hn, hi => fun x hx => by simp only [Ps.all] at hx; cases hx
  | .cons b p ps, par, h, bef, n0, j, n, node, i, ret, l, hw, hn, hi => fun x hx => by
    simp only [Ps.wf, Bool.and_eq_true] at hw
    simp only [Ps.len] at hi
    simp only [Ps.all, List.mem_append, List.mem_map] at hx
    rcases hx with ⟨y, hy, rfl⟩ | hx
    · obtain ⟨h1, h2⟩ := P.all_ok p _ _ n (node ++ [i]) ret l hw.1 (snoc32 hn (by omega)) y hy
      refine ⟨fun m hm => ?_, h2⟩
      rcases List.mem_cons.mp hm with rfl | hm
      · exact ⟨hn, show (if par = true then 2 else 0) < 32 by split <;> decide, by show i < 32; omega⟩
      · exact h1 m hm
    · exact Ps.all_ok ps par h bef n0 _ _ node (i + 1) ret _ hw.2 hn (by omega) x hx
end
end Mi
namespace Mi
open PySem L2
theorem BT.bl (b : Bool) : BT 0 7 (.bl b) := by cases b <;> exact ⟨rfl, rfl, Nat.le_refl _, by decide⟩
end Mi
namespace Mi
open PySem L2
section
variable {X : Cx}
end
end Mi
namespace Mi
open PySem L2 PySem.W PyProof.Rows
section
variable {X : Cx}
end
end Mi
namespace Mi
open PySem L2 PySem.W PyProof.Rows
section
variable {P : Program} {w : World} {A : PySem.Around} {E : Value → Shared → Prop} {s : Shared}
end
end Mi
namespace Mi
open PySem L2 PySem.W PyProof.Rows
def leK (a b : List Int) : Bool := decide (a ≤ b)
def sortK (ks : List (List Int)) : List (List Int) := ks.mergeSort leK
section
variable {X : Cx}
end
end Mi
namespace Mi
open PySem L2
def HomeOk (h : Hm) (l : List Al) (x : Al) : Prop :=
  (∃ ns, x.h.r = h.r ∧ x.h.ns = h.ns ++ ns ∧ x.h.key = h.key ++ ns) ∨ ∃ y ∈ l, ∃ o, y.own = some o ∧ x.h.r = some o ∧ x.h.key = (y.no : Int) :: x.h.ns
theorem HomeOk.sub {h : Hm} {l l' : List Al} {x : Al} (a : HomeOk h l x) (hs : ∀ y ∈ l, y ∈ l') : HomeOk h l' x := by
  rcases a with a | ⟨y, hy, r⟩
  · exact .inl a
  · exact .inr ⟨y, hs y hy, r⟩
theorem HomeOk.push {h : Hm} {l : List Al} {x : Al} {m : Mark} (a : HomeOk h l x) : HomeOk h (l.map (Al.push m)) (x.push m) := by
  rcases a with a | ⟨y, hy, r⟩
  · exact .inl a
  · exact .inr ⟨y.push m, List.mem_map_of_mem hy, r⟩
end Mi
namespace Mi
open PySem L2
mutual
def P.ad : P → List Int → List (List Int)
  | .draw _, _ => []
  | .seq ps, at' => sortK (ps.ad false at' 0)
  | .par ps, at' => sortK (ps.ad true at' 0)
  | .named _ p, at' => p.ad (at' ++ [0])
  | .retry p, at' => p.ad (at' ++ [0])
def Ps.ad : Ps → Bool → List Int → Nat → List (List Int)
  | .nil, _, _, _ => []
  | .cons b p ps, par, at', i => (if par && !b then [at' ++ [(i : Int)]] else []) ++ p.ad (at' ++ [(i : Int)]) ++ ps.ad par at' (i + 1)
end
mutual
def P.ws (some' : List (List Int)) : P → List Int → P
  | .draw u, _ => .draw u
  | .seq ps, at' => .seq (ps.ws some' at' 0)
  | .par ps, at' => .par (ps.ws some' at' 0)
  | .named n p, at' => .named n (p.ws some' (at' ++ [0]))
  | .retry p, at' => .retry (p.ws some' (at' ++ [0]))
def Ps.ws (some' : List (List Int)) : Ps → List Int → Nat → Ps
  | .nil, _, _ => .nil
  | .cons b p ps, at', i => .cons (b || decide (at' ++ [(i : Int)] ∈ some')) (p.ws some' (at' ++ [(i : Int)])) (ps.ws some' at' (i + 1))
end
def Stp (m : Nat) (a : List Int) : Prop := a.length ≤ m ∧ ∀ s ∈ a, 0 ≤ s ∧ s ≤ 11
theorem Stp.snoc {m : Nat} {a : List Int} {i : Nat} (h : Stp m a) (hi : i ≤ 11) : Stp (m + 1) (a ++ [(i : Int)]) := by
  refine ⟨by have := h.1; simp; omega, fun s hs => ?_⟩
  rcases List.mem_append.mp hs with hs | hs
  · exact h.2 s hs
  · rw [List.mem_singleton] at hs; omega
theorem Stp.mono {m n : Nat} {a : List Int} (h : Stp m a) (hn : m ≤ n) : Stp n a := ⟨Nat.le_trans h.1 hn, h.2⟩
mutual
def P.wu : P → Bool
  | .draw u => decide (0 ≤ u ∧ u ≤ 9)
  | .seq ps => ps.wu
  | .par ps => ps.wu
  | .named n p => decide (0 ≤ n ∧ n ≤ 9) && p.wu
  | .retry p => p.wu
def Ps.wu : Ps → Bool
  | .nil => true
  | .cons _ p ps => p.wu && ps.wu
end
mutual
/-- how the tuple reads -/
theorem P.bt : ∀ p : P, p.wu = true → p.t.tr = true ∧ p.t.nd = true ∧ p.t.dep ≤ p.dep ∧ p.t.wt + 2 ≤ 70 * p.tn
  | .draw u, h => by
    simp only [P.wu, decide_eq_true_eq] at h
    have b := BT.int (v := u) (by omega)
    have et : PyData.strOk ("draw" : Str) = true := by decide +kernel
    have bt := b.tr
    simp only [T.tr] at bt
    refine ⟨by simp only [P.t, T.tr, T.trs, bt, et]; rfl, rfl, by simp [P.t, T.dep, T.deps, P.dep], ?_⟩
    have := b.wt
    have e : (T.str "draw").wt = 42 := by decide +kernel
    simp only [P.t, T.wt, T.wts, P.tn] at *
    omega
  | .seq ps, h => by
    obtain ⟨h1, h2, h3, h4⟩ := Ps.bt ps h
    have e : (T.str "seq").wt = 32 := by decide +kernel
    have et : PyData.strOk ("seq" : Str) = true := by decide +kernel
    refine ⟨by simp only [P.t, T.tr, T.trs, h1, et]; rfl, by simp only [P.t, T.nd, T.nds, h2]; rfl, by simp only [P.t, T.dep, T.deps, P.dep]; omega, ?_⟩
    simp only [P.t, T.wt, T.wts, P.tn] at *
    omega
  | .par ps, h => by
    obtain ⟨h1, h2, h3, h4⟩ := Ps.bt ps h
    have e : (T.str "par").wt = 32 := by decide +kernel
    have et : PyData.strOk ("par" : Str) = true := by decide +kernel
    refine ⟨by simp only [P.t, T.tr, T.trs, h1, et]; rfl, by simp only [P.t, T.nd, T.nds, h2]; rfl, by simp only [P.t, T.dep, T.deps, P.dep]; omega, ?_⟩
    simp only [P.t, T.wt, T.wts, P.tn] at *
    omega
  | .named n p, h => by
    simp only [P.wu, Bool.and_eq_true, decide_eq_true_eq] at h
    obtain ⟨h1, h2, h3, h4⟩ := P.bt p h.2
    have b := BT.int (v := n) (by omega)
    have bw := b.wt
    have bt := b.tr
    simp only [T.tr] at bt
    have e : (T.str "named").wt = 52 := by decide +kernel
    have et : PyData.strOk ("named" : Str) = true := by decide +kernel
    refine ⟨by simp only [P.t, T.tr, T.trs, h1, et, bt]; rfl, by simp only [P.t, T.nd, T.nds, h2]; rfl, by simp only [P.t, T.dep, T.deps, P.dep]; omega, ?_⟩
    simp only [P.t, T.wt, T.wts, P.tn] at *
    omega
  | .retry p, h => by
    obtain ⟨h1, h2, h3, h4⟩ := P.bt p h
    have e : (T.str "retry").wt = 52 := by decide +kernel
    have et : PyData.strOk ("retry" : Str) = true := by decide +kernel
    refine ⟨by simp only [P.t, T.tr, T.trs, h1, et]; rfl, by simp only [P.t, T.nd, T.nds, h2]; rfl, by simp only [P.t, T.dep, T.deps, P.dep]; omega, ?_⟩
    simp only [P.t, T.wt, T.wts, P.tn] at *
    omega
theorem Ps.bt : ∀ ps : Ps, ps.wu = true → T.trs ps.ts = true ∧ T.nds ps.ts = true ∧ T.deps ps.ts ≤ ps.dep ∧ T.wts ps.ts ≤ 70 * ps.tn
  | .nil, _ => ⟨rfl, rfl, Nat.le_refl _, Nat.le_refl _⟩
  | .cons b p ps, h => by
    simp only [Ps.wu, Bool.and_eq_true] at h
    obtain ⟨h1, h2, h3, h4⟩ := P.bt p h.1
    obtain ⟨g1, g2, g3, g4⟩ := Ps.bt ps h.2
    have e : (T.str "split").wt = 52 := by decide +kernel
    have et : PyData.strOk ("split" : Str) = true := by decide +kernel
    cases b with
    | true =>
      refine ⟨by simp only [Ps.ts, if_true, T.tr, T.trs, h1, et, g1]; rfl, by simp only [Ps.ts, if_true, T.nd, T.nds, h2, g2]; rfl, by simp only [Ps.ts, if_true, T.dep, T.deps, Ps.dep]; omega, ?_⟩
      simp only [Ps.ts, if_true, T.wt, T.wts, Ps.tn] at *
      omega
    | false =>
      refine ⟨by simp only [Ps.ts, if_false, Bool.false_eq_true, T.trs, h1, g1]; rfl, by simp only [Ps.ts, if_false, Bool.false_eq_true, T.nds, h2, g2]; rfl, by simp only [Ps.ts, if_false, Bool.false_eq_true, T.deps, Ps.dep]; omega, ?_⟩
      simp only [Ps.ts, if_false, Bool.false_eq_true, T.wts, Ps.tn] at *
      omega
end
theorem P.gd {p : P} (h : p.wu = true) (hd : p.dep ≤ 64) (hn : p.tn ≤ 1000) : Gd p.t := by
  obtain ⟨h1, h2, h3, h4⟩ := P.bt p h
  exact ⟨h1, h2, by omega, by omega⟩
end Mi
namespace Mi
open PySem L2 PySem.Spec PyProof.Rows
section
variable {X : Cx} {ad : Ad} {W : WX} {pos : Pos}
def OpMA (X : Cx) (ad : Ad) (f : Value → Value → Sem Value) (op : T → T → Sto → R T) : Prop :=
  ∃ r : R2, OpR X f r ∧ ∀ hd as st H x y tx ty Q W, Ab X.K (ad.hide hd) as st H → Rep X.K (ad.hide hd) as H x tx → Rep X.K (ad.hide hd) as H y ty → Post X.K (ad.hide hd) (Rep X.K (ad.hide hd)) as H Q W (op tx ty st) → r x y H Q
theorem OpM.atAd {f : Value → Value → Sem Value} {op : T → T → Sto → R T} (h : OpM X f op) : OpMA X ad f op := by
  obtain ⟨r, h1, h2⟩ := h
  exact ⟨r, h1, fun hd as st H x y tx ty Q W => h2 _ as st H x y tx ty Q W⟩
theorem OpMA.alt {f : Value → Value → Sem Value} {op op' op2 : T → T → Sto → R T} (h : OpMA X ad f op) (h' : OpMA X ad f op')
    (c : ∀ x y st, op2 x y st = op x y st ∨ op2 x y st = op' x y st) : OpMA X ad f op2 := by
  obtain ⟨r, h1, h2⟩ := h
  obtain ⟨r', h1', h2'⟩ := h'
  refine ⟨_, OpR.alt h1 h1', fun hd as st H x y tx ty Q W A rx ry q => ?_⟩
  rcases c tx ty st with e | e
  · rw [e] at q
    exact .inl (h2 hd as st H x y tx ty Q W A rx ry q)
  · rw [e] at q
    exact .inr (h2' hd as st H x y tx ty Q W A rx ry q)
variable {k : Nat} {fa : Addr} {fd : FuncData} {ps : List Str} {F : List T → Sto → R T} {c : Nat}
theorem Sit.none (S : Sit X W k) : Sit X W0 k := ⟨S.calm, S.gd, S.rm, takes0, S.po, S.sm⟩
theorem Post.noExc {α β : Type} {K : PySem.W.Frag} {ad : Ad} {as : List Addr} {H : Hp} {Rl : List Addr → Hp → β → α → Prop} {Q : β → Hp → Prop} {W W' : XK} {r : R α} (h : Post K ad Rl as H Q W (Mi.noExc r)) : Post K ad Rl as H Q W' r := by
  cases r with
  | ok t st => exact h
  | exc e st => exact h.elim
  | bad => exact h
def CallMA (X : Cx) (ad : Ad) (f : Value) (op : List T → Sto → R T) : Prop :=
  ∃ r, CallR X f r ∧ ∀ hd as st H xs ts Q W, Ab X.K (ad.hide hd) as st H → Reps X.K (ad.hide hd) as H xs ts → Post X.K (ad.hide hd) (Rep X.K (ad.hide hd)) as H Q W (op ts st) → r xs H Q
theorem tAppA {r : List V → Hp → VK → Prop} {op : List T → Sto → R T} {m : M (List T)} (hop : ∀ hd as st H xs ts Q W, Ab X.K (ad.hide hd) as st H → Reps X.K (ad.hide hd) as H xs ts → Post X.K (ad.hide hd) (Rep X.K (ad.hide hd)) as H Q W (op ts st) → r xs H Q) :
    ∀ σ H Q, tM X.K ad (Rep X.K) W (mApp op m) σ H Q → tCB r (tM X.K ad (Reps X.K) W m) σ H Q := fun σ H Q ⟨hd, ρ, as, st, A, E, q⟩ =>
  ⟨hd, ρ, as, st, A, E, Post.step q fun x st1 as1 H1 vx A1 e1 r1 q1 => hop hd as1 st1 H1 vx x Q _ A1 r1 q1⟩
theorem pm_callBA {e : Expr} {es : List Expr} {p : Pos} {x : Str} {id : String} {op : List T → Sto → R T} {m : M (List T)} (hc : CallMA X ad (.builtin id) op) (hg : Gl X x) (hm : X.mg x = none) (hv : bootBuiltins x = some (.builtin id)) (ha : PMA X ad W (e :: es) m) (hn : x ≠ "__name__" := by decide)
    (hdb : (x == ("__debug__" : Str)) = false := by decide) (he : starEach (e :: es) X.env = (false, eval e X.env) :: starEach es X.env := by rfl) (hpl : (backTo pos (starEach es X.env)).any (·.1) = false := by rfl) :
    PM X ad W (.Call (.Name x p) (e :: es) [] pos) (mApp op m) := by
  obtain ⟨r, h1, h2⟩ := hc
  exact peW (pe_callB h1 hg hm hv ha hn hdb he hpl) (tAppA h2)
end
end Mi
namespace Mi
open PySem L2 PySem.Spec PyProof.Rows
section
variable {X : Cx} {ad : Ad} {W : WX} {pos : Pos} {k : Nat} {e : Expr}
end
end Mi
namespace Mi
open PySem L2 PySem.Spec PyProof.Rows ClX
section
variable {X : Cx} {ad : Ad} {W : WX} {pos p apos : Pos} {k n c : Nat} {e o : Expr} {es : List Expr} {x m : Str} {fa pa C : Addr} {fd : FuncData} {ps : List Str} {F : List T → Sto → R T}
def mAdr (c : Nat) : M T := fun _ st => .ok (.adr c) st
theorem pm_adr (hg : Gl X x) (hm : X.mg x = some (.ref (ad.fn c))) (hdb : (x == ("__debug__" : Str)) = false := by decide) : PM X ad W (.Name x p) (mAdr c) :=
  ⟨fun pins s σ H Q I ⟨hd, ρ, as, st, A, E, q⟩ => ld_glob I hg hm ⟨.ref (ad.fn c), H, I, rfl, Post.at A (.adr (ad := ad.hide hd) c) q⟩ hdb⟩
theorem Rep.adrI {K : PySem.W.Frag} {ad : Ad} {as : List Addr} {H : Hp} {v : V} {i : Nat} (r : Rep K ad as H v (.adr i)) : v = .ref (ad.fn i) := by
  cases r; rfl
section
variable {pl : Sem Bool} {mc : Value} {mo : M T} {ma : M (List T)}
end
end
end Mi
namespace Mi
open PySem L2
section
variable {Q : T → Sto → Prop} {E : Exn → Sto → Prop} {ρ : Sl} {y0 : Option T} {st : Sto}
@[simp] theorem Ok_adr (c : Nat) : Ok (mAdr c (y0 :: ρ) st) Q E ↔ Q (.adr c) st := Iff.rfl
end
end Mi
namespace Mi
open PySem L2 PySem.Spec PyProof.Rows C8
section
variable {X : Cx} {ad : Ad} {c : Nat}
end
end Mi
namespace Mi
open PySem L2 PySem.Spec PyProof.Rows
abbrev excTail : List Value := [.type "Exception", .type "BaseException", .type "object"]
structure ExcX (K : PySem.W.Frag) (mg : Str → Option Value) (x : Str) (C : Addr) : Prop where
  q : PySem.W.excIn K C excTail "Exception.__new__" = true
  g : mg x = some (.ref C)
  k : PySem.W.keepIn K (.ref C) = true
  b : PySem.W.subIn K (.ref C) (.type "BaseException") = some true
  t : PySem.W.typeIn K (.ref C) = some (.type "type")
section
variable {X : Cx} {ad : Ad} {W : WX} {pos p p2 pos' : Pos} {k : Nat}
def sRaise (c : Nat) : SM := fun ρ st => .ex ⟨c, []⟩ ρ st
theorem pms_raise {c : Nat} {x m : Str} {j : Nat} (S : Sit X W k) (E : ExcX X.K X.mg x (ad.fn c)) (hg : Gl X x) (hdb : (x == ("__debug__" : Str)) = false := by decide) :
    PMS X ad W (.Raise (some (.Call (.Name x p) [.Constant (.str m) j p2] [] pos)) none pos') (sRaise c) :=
  psW (ps_raise S.calm S.tk (pmk_own PySem.F.excBase_Exception E.q E.g E.k (raises_own E.b E.t) hg hdb)) fun D σ H ⟨hd, ρ, as, st, A, En, q⟩ =>
    q as H σ (.ref (ad.fn c)) none A Ext.refl En ⟨rfl, .inl ⟨rfl, rfl⟩⟩
section
variable {N : Sl → Sto → Prop} {Rt : T → Sto → Prop} {B C : Sl → Sto → Prop} {E : Exn → Sl → Sto → Prop} {ρ : Sl} {st : Sto}
@[simp] theorem OkS_raise (c : Nat) : OkS (sRaise c ρ st) N Rt B C E ↔ E ⟨c, []⟩ ρ st := Iff.rfl
end
end
end Mi
namespace Mi
open PySem L2 PySem.Spec PyProof.Rows L2H
def strsT : List T → Option (List Str)
  | [] => some []
  | .str s :: ts => (strsT ts).map (s :: ·)
  | _ :: _ => none
theorem strsT_rep {K : PySem.W.Frag} {ad : Ad} {as : List Addr} {H : Hp} : ∀ {ts : List T} {zs : List Str} {xs : List V}, strsT ts = some zs → Reps K ad as H xs ts → xs = zs.map V.str
  | [], _, _, e, .nil => by cases e; rfl
  | .str s :: ts, zs, _, e, .cons r q => by
    simp only [strsT, Option.map_eq_some_iff] at e
    obtain ⟨z2, e2, rfl⟩ := e
    rw [r.strI, strsT_rep e2 q]; rfl
  | .non :: _, _, _, e, _ => by simp [strsT] at e
  | .bl _ :: _, _, _, e, _ => by simp [strsT] at e
  | .int _ :: _, _, _, e, _ => by simp [strsT] at e
  | .byt _ :: _, _, _, e, _ => by simp [strsT] at e
  | .ty _ :: _, _, _, e, _ => by simp [strsT] at e
  | .tup _ :: _, _, _, e, _ => by simp [strsT] at e
  | .lst _ :: _, _, _, e, _ => by simp [strsT] at e
  | .frz _ :: _, _, _, e, _ => by simp [strsT] at e
  | .dct _ _ :: _, _, _, e, _ => by simp [strsT] at e
  | .ref _ :: _, _, _, e, _ => by simp [strsT] at e
  | .adr _ :: _, _, _, e, _ => by simp [strsT] at e
  | .ptp _ :: _, _, _, e, _ => by simp [strsT] at e
def joinT (a : Str) (y : T) (st : Sto) : Option Str := match (seqR st y).bind strsT with
  | some zs => if (zs.map (·.length)).sum + zs.length * a.length ≤ 16777216 then some (Txt.join a zs) else none
  | none => none
def mJoin (mo me : M T) : M T := fun ρ st => (mo ρ st).bind fun x st1 => match x with
  | .str a => (me ρ st1).bind fun y st2 => match joinT a y st2 with
    | some z => .ok (.str z) st2
    | none => .bad
  | _ => .bad
section
variable {X : Cx} {ad : Ad} {W : WX} {pos apos : Pos} {o e : Expr}
theorem pm_join {mo me : M T} (ho : PM X ad W o mo) (he : PM X ad W e me) (hs : starEach [e] X.env = [(false, eval e X.env)] := by rfl) (hbase : attributeBase o "join" X.env (eval o X.env) = eval o X.env := by rfl) (hline : (apos.endLine == pos.line) = true := by rfl) :
    PM X ad W (.Call (.Attribute o "join" apos) [e] [] pos) (mJoin mo me) :=
  peW (pe_join ho he hs hbase hline) fun σ H Q ⟨hd, ρ, as, st, A, E, q⟩ => ⟨hd, ρ, as, st, A, E, Post.step q fun x st1 as1 H1 v A1 e1 r1 q1 => by
    cases x <;> try exact q1.elim
    rename_i a
    obtain rfl := r1.strI
    refine ⟨⟨a, rfl⟩, hd, ρ, as1, st1, A1, E.ext e1, Post.step q1 fun y st2 as2 H2 vy A2 e2 r2 q2 => ?_⟩
    unfold joinT at q2
    split at q2
    · rename_i z ez
      split at ez
      · rename_i zs es
        split at ez
        · rename_i hz
          cases ez
          obtain ⟨ts, t1, t2⟩ := Option.bind_eq_some_iff.mp es
          obtain ⟨p, xs, rfl, h1, h2⟩ := r2.seqR A2 t1
          have ex := strsT_rep t2 h2
          subst ex
          exact ⟨a, p, zs, rfl, rfl, h1, hz, Post.at A2 (.str _) q2⟩
        · cases ez
      · cases ez
    · exact q2.elim⟩
end
abbrev EXC : Nat := 999999
def exAd (ad : Ad) (a : Addr) : Ad := ⟨fun n => if n = EXC then a else ad.fn n, [], ad.tabs⟩
def fIsiE (sub : Nat → Option Bool) (xs : List T) (st : Sto) : R T := match xs with
  | [.adr e, .adr i] => if e = EXC then (match sub i with
    | some b => .ok (.bl b) st
    | none => .bad) else .bad
  | _ => .bad
theorem call_isEp {X : Cx} {a D : Addr} {oe : Obj} (C : ExcC X.K D) (hp : (a, oe) ∈ X.pn) (hc : oe.cls = .ref D) (hdi : oe.dict = none) (hf : ∃ vs, oe.data = .fields vs) : CallR X (.builtin "isinstance") (rIsE X.K D a) := by
  intro pins s σ H xs us Q I r h
  obtain ⟨c, cv, b, rfl, hcv, e, q⟩ := h
  obtain ⟨u1, u2, rfl, rx, rt⟩ := vals2 r
  cases (show u1 = Value.ref a from rx)
  have ec := hcv _ rt
  subst ec
  obtain ⟨hget, _⟩ := I.pin (a, oe) (List.mem_append.mpr (.inl hp))
  obtain ⟨vs, hv⟩ := hf
  have J : PySem.W.InstAt s.heap a oe D none := by
    obtain ⟨oc, od, oda, osl⟩ := oe
    dsimp only at hc hdi hv
    subst hc hdi hv
    exact ⟨hget, rfl, rfl, trivial⟩
  exact PySem.W.kia_one (PySem.W.handS_kitx_exc C.hg C.hk C.hs C.hd C.ha C.hn C.ht C.hm) I.kIn J e (fun z => nomatch z) fun tk => ⟨.bl b, H, I.kept (t' := tk) fun _ _ z => z, rfl, q⟩
theorem cm_isiE {X : Cx} {ad : Ad} {oe : Obj} {D : Addr} {sub : Nat → Option Bool} (C : ExcC X.K D) (hp : (ad.fn EXC, oe) ∈ X.pn) (hc : oe.cls = .ref D) (hdi : oe.dict = none) (hf : ∃ vs, oe.data = .fields vs)
    (hs : ∀ i b, sub i = some b → PySem.W.kitOne X.K (.ref D) (.ref (ad.fn i)) = some b) : CallMA X ad (.builtin "isinstance") (fIsiE sub) := by
  refine ⟨_, call_isEp C hp hc hdi hf, fun hd as st H xs ts Q W A r q => ?_⟩
  unfold fIsiE at q
  split at q
  · rename_i e i
    obtain ⟨v, w, rfl, rv, rw⟩ := r.two
    obtain rfl := rv.adrI
    obtain rfl := rw.adrI
    split at q
    · rename_i he
      subst he
      split at q
      · rename_i b hb
        exact ⟨_, .ref (ad.fn i), b, rfl, fun u z => z, hs i b hb, Post.at A (.bl _) q⟩
      · exact q.elim
    · exact q.elim
  · exact q.elim
abbrev CX0 : CXT := fun _ _ _ _ _ _ => False
def WordOk (P : Program) (w : World) (K : PySem.W.Frag) (mg : Str → Option Value) (base : Heap) (k : Nat) (f : Addr) (fd : FuncData) (x : Str) (ad : Ad) (wd : Nat → Option Str) : Prop :=
  ∀ (c : Nat) (z : Str), wd c = some z → ∀ (A : Around) (outer : List Env) (s : Shared) (H : Hp) (args : Args) (p : Addr × Obj) (Q : VK) (E : XK), RoomH k A → PinOk outer H s p → p.2.cls = .ref (ad.fn c) → p.2.dict = none → (∃ vs, p.2.data = .fields vs) →
    Env0 P w K mg base A outer s H → LamX.Tabs ad.tabs H → BindsTo s fd args [(x, .ref p.1)] → (∀ as' H', Ext [] H as' H' → LamX.Tabs ad.tabs H' → Q (.str z) H') →
    codeAny (model P w) A (.call (.ref f) args) (CR (MCX P w) outer P w H s Q E) s
section
variable {P : Program} {w : World} {K : PySem.W.Frag} {mg : Str → Option Value} {base : Heap} {ad : Ad}
theorem word_ok {name qual : Str} {st : Stmt} {f : Addr} {fd : FuncData} {N : List Str} {x : Str} {k : Nat} {wd : Nat → Option Str} (F : FunA K name qual st f fd) (S : FnScope N [x] (defScope st))
    (hbody : ∀ (c : Nat) (z : Str), wd c = some z → ∀ (cdv : Value) (A : Around) (outer : List PySem.Env) (s : Shared) (H : Hp) (E : XK) (p : Addr × Obj), p.2.cls = .ref (ad.fn c) → p.2.dict = none → (∃ vs, p.2.data = .fields vs) →
      ∃ m : SM, PMSs (cxH (MCX P w) P w K mg base N qual (defScope st) f cdv A outer s H E p) (exAd ad p.1) W0 (defBody st) m ∧ ∃ sto, runF N.length m [.adr EXC] [] = .ok (.str z) sto) :
    WordOk P w K mg base (k + 1) f fd x ad wd := by
  obtain ⟨oc, od, dV, kV, doc, pm, an, cdv, ct, osl, rfl, lk, hcd⟩ := F.ex
  intro c z hz A outer s H args p Q E hr hpin hc hdi hf e0 hT hb hQ
  have KX : K.In s.heap := e0.mod.kin.keeps fun b o e => (e0.bs b o e).1
  have lim : s.heap.NoLimit := e0.mod.nolimit.keeps fun b o e => (e0.bs b o e).1
  have hkind : ∀ y ∈ [x].zip [Value.ref p.1], (defScope st).names.lookup y.1 = some .local ∨
      ((defScope st).names.lookup y.1 = some .cell ∧ ((cellsFrom (s.heap.objs.size + 1) (defScope st).names []).lookup y.1).isSome = true) := by
    rintro ⟨n, v⟩ hy
    rcases S.par n (List.of_mem_zip hy).1 with q | q
    · exact .inl q
    · exact .inr ⟨q, PySem.W.cellsFrom_some _ _ _ (.inl q)⟩
  have hb : BindsTo s (PySem.W.fnOf name qual (defArgs st) (defBody st) (defScope st) dV kV doc pm an cdv ct) args ([x].zip [Value.ref p.1]) := hb
  refine codeAny_call_function hr.depth (KX _ _ lk) rfl S.co S.gen rfl (PySem.W.codeRec_of KX hcd) (hb _ _ _ _ (wpAny_newFunctionEnv_cells S.kind hkind fun env he s1 xx => ?_))
  subst he
  refine ⟨lim.keeps xx.toInCall.keep, codeAny_func ?_⟩
  obtain ⟨m, hm, sto, hrun⟩ := hbody c z hz cdv A outer s H E p hc hdi hf
  have I : Inv (cxH (MCX P w) P w K mg base N qual (defScope st) f cdv A outer s H E p) [] (L2.start N [V.ref p.1]) H s1 := inv_startH S hpin e0 rfl (.cons rfl .nil) xx
  have start_ok : tS K (exAd ad p.1) W0 m { nx := fun _ H' => Q .non H', rt := Q } (L2.start N [V.ref p.1]) H := by
    have Ab0 : Ab K ((exAd ad p.1).hide []) [] [] H := ⟨rfl, List.nodup_nil, fun i a o h => by simp at h, fun a h => (by cases h), hT⟩
    have rts : Reps K ((exAd ad p.1).hide []) [] H [V.ref p.1] [.adr EXC] := .cons (.adr (ad := (exAd ad p.1).hide []) EXC) .nil
    refine ⟨[], _, [], [], Ab0, start_en rts, ?_⟩
    unfold runF at hrun
    revert hrun
    show (match m ([T.adr EXC].map some ++ List.replicate (N.length - [T.adr EXC].length) none) [] with | .nx _ st' => R.ok T.non st' | .rt t st' => .ok t st' | .ex e _ st' => .exc e st' | _ => .bad) = _ → _
    generalize m ([T.adr EXC].map some ++ List.replicate (N.length - [T.adr EXC].length) none) [] = r
    intro hrun
    cases r with
    | nx ρ st => cases hrun
    | rt t st => cases hrun; exact fun as' H' v A e r => by rw [r.strI]; exact hQ as' H' e A.tabs
    | bk ρ st => cases hrun
    | ct ρ st => cases hrun
    | ex x ρ st => cases hrun
    | bad => cases hrun
  refine wpAny_mono (hm.run [] s1 (L2.start N [V.ref p.1]) H _ I start_ok) (fun fl s' hs => ?_) fun e s' hs => hs
  have fin : ∀ {σ' : L2.St} {H' : Hp} {v : V} {u : Value}, Inv (cxH (MCX P w) P w K mg base N qual (defScope st) f cdv A outer s H E p) [] σ' H' s' → RelV v u → Q v H' → CE outer P w H s Q u s' :=
    fun {σ' H' v u} J rv q => ⟨v, H', J.os, J.bare, J.base, J.hok, rv, q⟩
  cases fl with
  | ret u =>
    obtain ⟨v, σ', H', J, rv, q⟩ := hs
    exact fin J rv q
  | next =>
    obtain ⟨σ', H', J, q⟩ := hs
    exact fin (v := V.non) (u := Value.none) J rfl q
  | brk => exact False.elim (let ⟨_, _, _, q⟩ := hs; q)
  | cont => exact False.elim (let ⟨_, _, _, q⟩ := hs; q)
theorem Ab.far {as as' : List Addr} {st : Sto} {H H' : Hp} (A : Ab K ad as st H) (e : Ext [] H as' H') (t : LamX.Tabs ad.tabs H') : Ab K ad as st H' ∧ Ext as H as H' := by
  have ex : Ext as H as H' := ⟨⟨[], by simp, by simp⟩, fun a o na q nt => e.keep a o (by simp) q nt, e.dom⟩
  refine ⟨⟨A.len, A.nd, fun i a o h1 h2 => (A.obj i a o h1 h2).ext ex fun u q => e.keep a u (by simp) q ?_, fun a ha => ?_, t⟩, ex⟩
  · intro ps z
    subst z
    exact (A.obj i a o h1 h2).soft.1 ps q
  · obtain ⟨n, u, q, nt⟩ := A.hid a ha
    exact ⟨n, u, e.keep a u (by simp) q nt, nt⟩
end
end Mi
namespace Mi
open PySem L2 PySem.Spec PyProof.Rows L2H LamX
theorem un_comp {fs fs2 : List Addr} {H H1 H2 : Hp} {h h1 h2 : Heap} (u : Un fs [] H H1 h h1) (v : Un fs2 [] H1 H2 h1 h2) (hfs : ∀ b o, h.get? b = some o → b ∈ fs2 → b ∈ fs) : Un fs [] H H2 h h2 := by
  refine ⟨fun b o q n nb nx => v.keep b o (u.keep b o q n nb nx) (u.free b o q n nx) (fun z => nb (hfs b o q z)) nx, fun b o q n hb nx => ?_, fun b o q n nx => ?_, fun b o q nx => ?_, fun b xs q => v.tups b xs (u.tups b xs q), fun b o x q => v.frzs b o x (u.frzs b o x q), fun b ps q => ?_⟩
  · obtain ⟨sl, e1⟩ := u.slot b o q n hb nx
    obtain ⟨sl', e2⟩ := v.any e1 (u.free b o q n nx) nx
    exact ⟨sl', e2⟩
  · obtain ⟨o1, e1⟩ := u.there b o q nx
    exact v.free b o1 e1 (u.free b o q n nx) nx
  · obtain ⟨o1, e1⟩ := u.there b o q nx
    exact v.there b o1 e1 nx
  · obtain ⟨m1, e1⟩ := u.tbls b ps q
    obtain ⟨m2, e2⟩ := v.tbls b _ e1
    exact ⟨m1 ++ m2, by rw [e2, Array.append_assoc]⟩
abbrev Zx (P : Program) (w : World) (K : PySem.W.Frag) (mg : Str → Option Value) (base : Heap) (Ng : List Str) (qg : Str) (sg : Scope) (g : Addr) (cdg : Value) (A : Around) (outer : List Env) (s : Shared) (H : Hp) (pn : List (Addr × Obj)) (xe : Value → Shared → Prop) : Cx :=
  (cxOf C8.CX0 P w K mg base Ng qg sg g cdg A outer s H C8.E0).tr pn xe
def CapAt (P : Program) (w : World) (K : PySem.W.Frag) (mg : Str → Option Value) (base : Heap) (f c' : Addr) (q : Str) (k : Nat) (tl : XK → Hp → VK → Prop) (A : Around) (outer : List Env) (s : Shared) (H : Hp) : Prop :=
  ∀ (Ng : List Str) (qg : Str) (sg : Scope) (g : Addr) (cdg : Value) (i : Nat) (a : Str) (p1 p2 : Pos) (pn : List (Addr × Obj)) (xe : Value → Shared → Prop) (W : WX) (E : XK),
    Room (k + 1) (A.deeper (envOfC qg sg s.heap.objs.size g cdg)) → A.guards = some [] → Takes (Zx P w K mg base Ng qg sg g cdg A outer s H pn xe) W → (∀ cls d σ' H', E cls d H' → W cls d σ' H') →
    Ng[i]? = some a → Vis sg a → (a == ("__debug__" : Str)) = false → (a == ("__classdict__" : Str)) = false →
    PE (Zx P w K mg base Ng qg sg g cdg A outer s H pn xe) (.Call (.Name a p1) [] [] p2) fun σZ HZ Q => σZ[i]? = some (some (.ref f)) ∧ HZ c' = some (CodeO c' q) ∧ tl E HZ Q
section
variable {X : Cx} {pins : List (Addr × Obj)} {σ : L2.St} {H H2 : Hp} {s s2 : Shared} {scope : Scope} {params : Arguments} {body : Expr} {f c' : Addr} {pm ctv : Value} {k : Nat} {A2 : Around} {outer2 : List Env} {tb : XK → TE}
theorem cap_lam (I : Inv X pins σ H s) (L : LamS X.env.scope scope)
    (hf : s.heap.get? f = some (PySem.W.kla_obj "<lambda>" (X.env.qual ++ "<lambda>") params body scope (cloFrom X.env.cells scope.names []) pm c' ctv)) (hfn : H f = none) (hfr : f ∉ frs X.stack)
    (hbind : bindArgs (PySem.W.kla_fn "<lambda>" (X.env.qual ++ "<lambda>") params body scope (cloFrom X.env.cells scope.names []) pm (.ref c') ctv) ⟨[], []⟩ = pure [])
    (un : Un (frs X.stack) [] H H2 s.heap s2.heap) (hfs : ∀ b o, s.heap.get? b = some o → b ∈ frs outer2 → b ∈ frs X.stack)
    (hbody : ∀ (A : Around) (outer : List Env) (s' : Shared) (H' : Hp) (E : XK), Room k (A.deeper (lamEnv X scope s'.heap.objs.size f c')) → A.guards = some [] → PE (lamCx X A outer s' H' E scope f c') body (tb E)) :
    CapAt X.prog X.w X.K X.mg X.base f c' (X.env.qual ++ "<lambda>") k (fun E H' Q' => tb E σ H' Q') A2 outer2 s2 H2 := by
  intro Ng qg sg g cdg i a p1 p2 pn xe W E hr hg tk hW hN hv hd hcd
  constructor
  intro pZ sZ σZ HZ Q IZ ⟨h1, h2, h3⟩
  have rv := (pe_var (X := Zx X.prog X.w X.K X.mg X.base Ng qg sg g cdg A2 outer2 s2 H2 pn xe) (pos := p1) (i := i) hN hv hd hcd).run pZ sZ σZ HZ (fun v H1 => v = .ref f ∧ H1 = HZ) IZ ⟨_, h1, rfl, rfl⟩
  refine wpAny_Call_Name_kw (thn rv fun u s1 hu => ?_)
  obtain ⟨v, H1, I1, r1, rfl, rfl⟩ := hu
  cases (show u = Value.ref f from r1)
  have all := un_comp un I1.base hfs
  have at1 := all.keep f _ hf hfn hfr (by simp)
  refine PySem.W.callWith_F0 ⟨_, _, _, _, at1⟩ ?_
  obtain ⟨⟨oc, us, t, e1, e2, e3⟩, _, _⟩ := I1.hok c' _ h2
  have deep := hr.deeper (lamEnv X scope s1.heap.objs.size f c')
  have go : codeAny (model X.prog X.w) (A2.deeper (envOfC qg sg s2.heap.objs.size g cdg)) (.call (.ref f) ⟨[], []⟩) (CR (L2.CX X.prog X.w) (envOfC qg sg s2.heap.objs.size g cdg :: outer2) X.prog X.w H1 s1 Q E) s1 := by
    refine PySem.W.kla_callFunE hr.depth at1 rfl L.co L.gen rfl ⟨c', oc, us, t, rfl, e1, e2, e3⟩ ?_
    rw [hbind]
    refine wpAny_pure (wpAny_newFunctionEnv (fun y hy => (L.own y hy).2) (fun y hy => absurd hy (by simp)) (fun h₁ hns hsb => ?_) L.kind)
    have kp : ∀ b o, s1.heap.get? b = some o → h₁.get? b = some o := fun b o e => hsb.extBut b o (Nat.ne_of_lt (Heap.lt_size e)) (Heap.get?_push_of_some _ e)
    refine ⟨I1.nolimit.fresh _ hsb, ?_⟩
    have J := lam_start2 (E := E) (tk := s1.toks + ([] : List (Str × Value)).length) (h₁ := h₁) (f := f) (c' := c') I L I1.env0 hr.hd all hns kp
    refine PySem.W.kla_codeExpr (wpAny_mono ((hbody (A2.deeper (envOfC qg sg s2.heap.objs.size g cdg)) (envOfC qg sg s2.heap.objs.size g cdg :: outer2) s1 H1 E deep hg).run [] _ _ H1 Q J h3) (fun v s' hq => ?_) fun e s' hq => hq)
    obtain ⟨w1, H', J', rq, q⟩ := hq
    exact ⟨w1, H', J'.os, J'.bare, J'.base, J'.hok, rq, q⟩
  have hx := passes_call tk hW
  refine wpAny_call (codeAny_mono go fun r s' hq => ?_)
  match r, hq with
  | .error e, hq => exact hx pZ σZ H1 s1 e s' I1 hq
  | .ok (.ret u), hq => exact I1.after hq
  | .ok .next, hq => exact hq.elim
  | .ok .brk, hq => exact hq.elim
  | .ok .cont, hq => exact hq.elim
end
theorem ext_n {as : List Addr} {H H1 : Hp} (e : ExtN H H1) : Ext as H as H1 := ⟨⟨[], by simp, by simp⟩, fun a o _ q nt => e a o q nt, fun a n o q => by
  by_cases h : ∃ ps, o = .tbl ps
  · exact h
  · have nt : NT o := fun ps z => h ⟨ps, z⟩
    exact n o (e a o q nt)⟩
theorem Ab.extN {K : PySem.W.Frag} {ad : Ad} {as : List Addr} {st : Sto} {H H1 : Hp} (A : Ab K ad as st H) (e : ExtN H H1) (t : Tabs ad.tabs H1) : Ab K ad as st H1 := (A.far (ext_n (as := []) e) t).1
def GvOk (P : Program) (w : World) (K : PySem.W.Frag) (mg : Str → Option Value) (base : Heap) (j k : Nat) (g : Addr) (fd : FuncData) (a : Str) (TT : (XK → Hp → VK → Prop) → Hp → VK → Prop) : Prop :=
  ∀ (A : Around) (outer : List Env) (s : Shared) (H : Hp) (args : Args) (f c' : Addr) (q : Str) (Q : VK) (tl : XK → Hp → VK → Prop), Room k A → A.guards = some [] → Env0 P w K mg base A outer s H → BindsTo s fd args [(a, .ref f)] → H c' = some (CodeO c' q) →
    (∀ A2 outer2 s2 H2, Un (frs outer) [] H H2 s.heap s2.heap → (∀ b o, s.heap.get? b = some o → b ∈ frs outer2 → b ∈ frs outer) → CapAt P w K mg base f c' q j tl A2 outer2 s2 H2) → TT tl H Q →
    codeAny (model P w) A (.call (.ref g) args) (CR C8.CX0 outer P w H s Q C8.E0) s
section
variable {X : Cx} {ad : Ad} {W : WX}
theorem pe_lam1 {TT : (XK → Hp → VK → Prop) → Hp → VK → Prop} {T : List (Addr × Str)} {x a : Str} {g c Pt : Addr} {fd : FuncData} {j k : Nat} {params : Arguments} {body : Expr} {scope : Scope} {tb : XK → TE} {p lpos pos : Pos}
    (G : GvOk X.prog X.w X.K X.mg X.base j k g fd a TT) (hr : Room k X.A) (hgd : X.A.guards = some []) (hg : Gl X x) (hm : X.mg x = some (.ref g)) (hk : PySem.W.keepIn X.K (.ref g) = true) (hb : Binds X.K fd [a] [])
    (TB : TabB X.base X.mg c Pt) (hcode : X.env.code = .ref c) (hmT : (Pt, X.env.qual ++ "<lambda>") ∈ T) (hu : ∀ q ∈ T, q.1 = Pt → q.2 = X.env.qual ++ "<lambda>") (L : LamS X.env.scope scope) (hdef : defaultsOf params X.env = ([], []))
    (hbind : ∀ (q : Str) (cl : List (Str × Addr)) (pm cv ctv : Value), bindArgs (PySem.W.kla_fn "<lambda>" q params body scope cl pm cv ctv) ⟨[], []⟩ = pure [])
    (hbody : ∀ (A : Around) (outer : List Env) (s : Shared) (H : Hp) (E : XK) (f c' : Addr), Room j (A.deeper (lamEnv X scope s.heap.objs.size f c')) → A.guards = some [] → PE (lamCx X A outer s H E scope f c') body (tb E))
    (hdb : (x == ("__debug__" : Str)) = false := by decide) :
    PE X (.Call (.Name x p) [.Lambda params body scope lpos] [] pos) (tLam T TT tb) := by
  constructor
  intro pins s σ H Q I ⟨hT, h⟩
  refine wpAny_Call_Name_kw (ld_glob I hg hm (PySem.W.callWith_K (h₀ := X.base) I.ok.mod.kin hk ?_ (by rfl) (by rfl)) hdb)
  show wpAny (model X.prog X.w) X.A (spliced ((false, eval (.Lambda params body scope lpos) X.env) :: backTo pos (starEach [] X.env))) _ X.xe s
  refine Calls.spliced_cons (lam_make2 I TB hcode hmT hu hT hdef (L.has I.ok) fun f c' pm' ctv H1 s' I1 eN T1 hf hfn hfr hco => ?_)
  refine Calls.spliced_nil ⟨I1.kIn, ?_⟩
  have bb := hb s' [.ref f] I1.kIn rfl
  have go := G X.A X.stack s' H1 ⟨[.ref f], []⟩ f c' _ Q (fun E H' Q' => tb E σ H' Q') hr hgd I1.env0 bb hco
    (fun A2 outer2 s2 H2 un hfs => cap_lam I1 L hf hfn hfr (hbind _ _ _ _ _) un hfs fun A outer s3 H3 E hr2 hg2 => hbody A outer s3 H3 E f c' hr2 hg2) (h H1 eN T1)
  refine wpAny_call (codeAny_mono go fun r s2 hq => ?_)
  match r, hq with
  | .error e, hq => exact (show False from hq).elim
  | .ok (.ret u), hq => exact I1.after hq
  | .ok .next, hq => exact hq.elim
  | .ok .brk, hq => exact hq.elim
  | .ok .cont, hq => exact hq.elim
end
end Mi
namespace Mi
open PySem L2 PySem.Spec PyProof.Rows L2H LamX
theorem pe_post {X : Cx} {e : Expr} {t : TE} (h : PE X e t) : PE X e fun σ H Q => ∃ Q1 : V → Hp → Prop, (∀ v H1, Q1 v H1 → Q v H1) ∧ t σ H Q1 := ⟨fun pins s σ H Q I ⟨Q1, hk, h1⟩ =>
  wpAny_mono (h.run pins s σ H Q1 I h1) (fun u s' ⟨v, H', I', r, q⟩ => ⟨v, H', I', r, hk _ _ q⟩) fun _ _ z => z⟩
theorem takes_len {X : Cx} {W : WX} (tk : Takes X W) : Takes X fun c d σ H => σ.length = X.N.length → W c d σ H := fun u s' ⟨a, B, sI, pins, σ, H, cls, d, e, I, nb, up, sky, na, os, ag, w⟩ =>
  tk u s' ⟨a, B, sI, pins, σ, H, cls, d, e, I, nb, up, sky, na, os, ag, w I.len⟩
def TTsaid (K : PySem.W.Frag) (ad : Ad) (wd : Nat → Option Str) (rp : List T → Sto → R T) : (XK → Hp → VK → Prop) → Hp → VK → Prop := fun tl H Q =>
  tl (fun cls d H' => ∃ c z, cls = .ref (ad.fn c) ∧ d = none ∧ wd c = some z ∧ ("! " : Str).length + z.length ≤ sizeLine ∧ Tabs ad.tabs H' ∧ ∀ as2 H2, Ext [] H' as2 H2 → Tabs ad.tabs H2 → Q (.str (("! " : Str) ++ z)) H2) H
    fun v H1 => ∃ hd as st t, Ab K (ad.hide hd) as st H1 ∧ Rep K (ad.hide hd) as H1 v t ∧ Post K (ad.hide hd) (Rep K (ad.hide hd)) as H1 Q (fun _ _ _ => False) (rp [t] st)
section
variable {P : Program} {w : World} {K : PySem.W.Frag} {mg : Str → Option Value} {base : Heap} {ad : Ad}
theorem said_ok {x a why ex word : Str} {st : Stmt} {g gw CS : Addr} {fd fw : FuncData} {N : List Str} {j kw k jj : Nat} {wd : Nat → Option Str} {rp : List T → Sto → R T} {p0 p1 p2 p3 p4 p5 p6 p7 p8 p9 p10 p11 p12 p13 : Pos}
    (F : FunA K x x st g fd) (S : FnScope N [a] (defScope st)) (hsm : ∃ o, base.get? sysModules = some o) (hN0 : N[0]? = some a) (hN1 : N[1]? = some why) (hN : N = [a, why]) (hva : Vis (defScope st) a) (hvw : Vis (defScope st) why) (hlw : (defScope st).names.lookup why = some .local)
    (hb : defBody st = [.Try [.Return (some (.Call (.Name "repr" p0) [.Call (.Name a p1) [] [] p2] [] p3)) p4] [.ExceptHandler (some (.Name ex p5)) (some why) [.Return (some (.BinOp (.Constant (.str "! ") jj p6) .Add (.Call (.Name word p7) [.Name why p8] [] p9) p10)) p11] p12] [] [] p13])
    (ge : (defScope st).names.lookup ex = some .globalImplicit) (gr : (defScope st).names.lookup ("repr" : Str) = some .globalImplicit) (gw' : (defScope st).names.lookup word = some .globalImplicit)
    (me : mg ex = some (.ref CS)) (mr : mg "repr" = none) (mw : mg word = some (.ref gw)) (kw' : PySem.W.keepIn K (.ref gw) = true) (bw : Binds K fw [why] [])
    (hword : WordOk P w K mg base kw gw fw why ad wd) (hex : ∀ c z, wd c = some z → PySem.W.exmOne K (.ref (ad.fn c)) (.ref CS) = some true)
    (hrp : ∀ (X : Cx) (W : WX), X.prog = P → X.w = w → X.K = K → X.mg = mg → X.base = base → Sit X W k → CallMA X ad (.builtin "repr") rp)
    (hj : j + 1 ≤ k) (hk : kw ≤ k)
    (d1 : (a == ("__debug__" : Str)) = false := by decide) (d2 : (a == ("__classdict__" : Str)) = false := by decide) (d3 : (ex == ("__debug__" : Str)) = false := by decide) (d4 : (why == ("__debug__" : Str)) = false := by decide) (d5 : (why == ("__classdict__" : Str)) = false := by decide) (d6 : (word == ("__debug__" : Str)) = false := by decide) :
    GvOk P w K mg base j (k + 1) g fd a (TTsaid K ad wd rp) := by
  obtain ⟨oc, od, dV, kV, doc, pm, an, cdv, ct, osl, rfl, lk, hcd⟩ := F.ex
  intro A outer s H args f c' q Q tl hr hgd e0 hbind hc hcap hTT
  refine run_ofS (vs := [.ref f]) (us := [.ref f]) (ps := [a]) (N := N) lk hcd S hr e0 hbind (.cons rfl .nil) rfl fun hr' => ?_
  have Zg : ∀ y, (defScope st).names.lookup y = some .globalImplicit → Gl (cxOf C8.CX0 P w K mg base N x (defScope st) g cdv A outer s H C8.E0) y := fun y h => h
  let ts : Addr → Value → Option Addr → TS := fun e cls d D σ HZ => ∃ c z, cls = .ref (ad.fn c) ∧ d = none ∧ wd c = some z ∧ ("! " : Str).length + z.length ≤ sizeLine ∧ σ[1]? = some (some (.ref e)) ∧ Tabs ad.tabs HZ ∧ ∀ as2 H2, Ext [] HZ as2 H2 → Tabs ad.tabs H2 → D.rt (.str (("! " : Str) ++ z)) H2
  let tb : WX → TS := fun W D σ HZ => ∃ Ech : XK, (∀ cls d σ' H', Ech cls d H' → σ'.length = N.length → W cls d σ' H') ∧ σ[0]? = some (some (.ref f)) ∧ HZ c' = some (CodeO c' q) ∧
    tl Ech HZ fun v H1 => ∃ hd as st t, Ab K (ad.hide hd) as st H1 ∧ Rep K (ad.hide hd) as H1 v t ∧ Post K (ad.hide hd) (Rep K (ad.hide hd)) as H1 D.rt (fun _ _ _ => False) (rp [t] st)
  have tr := ps_try_as (X := cxOf C8.CX0 P w K mg base N x (defScope st) g cdv A outer s H C8.E0) (x := ex) (n := why) (c := .ref CS) (i := 1) (np := p5) (pos := p13) (pos' := p12) (tb := tb) (ts := ts) (Wout := fun _ _ _ _ => False)
    (body := [.Return (some (.Call (.Name "repr" p0) [.Call (.Name a p1) [] [] p2] [] p3)) p4]) (b₀ := .Return (some (.BinOp (.Constant (.str "! ") jj p6) .Add (.Call (.Name word p7) [.Name why p8] [] p9) p10)) p11) (suite := [])
    rfl rfl S.nd hN1 hlw ⟨Zg _ ge, d3, .inl me⟩ L2.takes0
    (fun W pn xe tk po => by
      constructor
      intro pins s' σ' H' D I ⟨Ech, hW, h1, h2, h3⟩
      have hp := hcap A outer s H Un.refl (fun _ _ _ z => z) N x (defScope st) g cdv 0 a p1 p2 pn xe _ Ech (hr'.mono hj) hgd (takes_len tk) hW hN0 hva d1 d2
      have sit : Sit (Zx P w K mg base N x (defScope st) g cdv A outer s H pn xe) W k := ⟨rfl, hgd, hr', tk, po, hsm⟩
      obtain ⟨r, hc1, hc2⟩ := hrp _ W rfl rfl rfl rfl rfl sit
      have pr := pss_one (ps_ret (pos := p4) (pe_callB (p := p0) (pos := p3) hc1 (Zg _ gr) mr PyProof.Rows.boot_repr (pa_cons (pe_post hp) pa_nil)))
      refine pr.run pins s' σ' H' D I ⟨_, fun v H1 ⟨hd, as, st1, t, A1, r1, q1⟩ => ?_, h1, h2, h3⟩
      exact hc2 hd as st1 H1 [v] [t] D.rt _ A1 (.cons r1 .nil) q1)
    (fun e oe cls d pn hz hf => by
      have hA : RoomH kw ((cxOf C8.CX0 P w K mg base N x (defScope st) g cdv A outer s H C8.E0).suite e ((e, oe) :: pn)).A :=
        ⟨by have := hr'.dp; show (A.deeper (envOfC x (defScope st) s.heap.objs.size g cdv)).depth + 3 * kw + 5 < _; omega, by have := hr'.un; show (A.deeper (envOfC x (defScope st) s.heap.objs.size g cdv)).units + 16 * kw + 200 < _; omega⟩
      have pw : PE ((cxOf C8.CX0 P w K mg base N x (defScope st) g cdv A outer s H C8.E0).suite e ((e, oe) :: pn)) (.Call (.Name word p7) [.Name why p8] [] p9)
          fun σ HZ Q => ∃ c z, cls = .ref (ad.fn c) ∧ d = none ∧ wd c = some z ∧ σ[1]? = some (some (.ref e)) ∧ Tabs ad.tabs HZ ∧ ∀ as2 H2, Ext [] HZ as2 H2 → Tabs ad.tabs H2 → Q (.str z) H2 := by
        constructor
        intro pins s' σ' H' Q' I ⟨c, z, ec, ed, hz', h1, hT, hq⟩
        refine wpAny_Call_Name_kw (ld_glob I (Zg _ gw') mw ?_ d6)
        have pa : PA ((cxOf C8.CX0 P w K mg base N x (defScope st) g cdv A outer s H C8.E0).suite e ((e, oe) :: pn)) [.Name why p8] (tCons _ tNil) := pa_cons (pe_var (i := 1) hN1 hvw d4 d5) pa_nil
        refine PySem.W.callWith_K (h₀ := base) I.ok.mod.kin kw' (thn (pa.run p9 pins s' σ' H' (fun vs H1 => vs = [.ref e] ∧ H1 = H') I ⟨.ref e, h1, rfl, rfl⟩) fun us s1 ⟨vs, H1, I1, rv, ev, eH⟩ => ⟨I1.kIn, ?_⟩)
        subst ev; subst eH
        obtain ⟨u, rfl, ru⟩ := vals1 rv
        cases (show u = Value.ref e from ru)
        have P1 := I1.pin (e, oe) (List.mem_append.mpr (.inl List.mem_cons_self))
        have hpin : PinOk ((cxOf C8.CX0 P w K mg base N x (defScope st) g cdv A outer s H C8.E0).suite e ((e, oe) :: pn)).stack H1 s1 (e, oe) := ⟨P1.1, P1.2.1, fun hm => (List.mem_cons.mp (I1.stkSub e hm)).elim P1.2.2.1 P1.2.2.2.1, P1.2.2.2.2⟩
        have bb := bw s1 [.ref e] I1.kIn rfl
        have go := hword c z hz' _ _ s1 H1 ⟨[.ref e], []⟩ (e, oe) Q' (fun _ _ _ => False) hA hpin (hz.1.trans ec) (hz.2.trans ed) hf I1.env0 hT bb fun as2 H2 e2 t2 => hq as2 H2 e2 t2
        refine wpAny_call (codeAny_mono go fun r s2 hq2 => ?_)
        match r, hq2 with
        | .error _, hq2 => obtain ⟨_, _, _, _, _, _, _, _, _, _, _, _, z⟩ := hq2; exact z.elim
        | .ok (.ret u), hq2 => exact I1.after hq2
        | .ok .next, hq2 => exact hq2.elim
        | .ok .brk, hq2 => exact hq2.elim
        | .ok .cont, hq2 => exact hq2.elim
      have pr := pss_one (ps_ret (pos := p11) (pe_op (pos := p10) op_add_str (pe_str (x := "! ") (j := jj) (pos := p6)) pw))
      constructor
      intro pins s' σ' H' D I ⟨c, z, h1, h2, h3, h4, h5, h6, h7⟩
      exact pr.run pins s' σ' H' D I ⟨c, z, h1, h2, h3, h5, h6, fun as2 H2 e2 t2 => ⟨"! ", z, rfl, rfl, h4, h7 as2 H2 e2 t2⟩⟩)
  rw [hb]
  refine ⟨_, pss_one tr, ?_⟩
  subst hN
  refine ⟨fun cls d H' => _, fun cls d σ' H' hE hlen => ?_, rfl, hc, hTT⟩
  obtain ⟨c, z, rfl, rfl, hz, hl, hT, hq⟩ := hE
  refine ⟨true, hex c z hz, fun _ e he => ⟨c, z, rfl, rfl, hz, hl, ?_, hT, hq⟩, fun h => by cases h⟩
  have hlen : σ'.length = 2 := hlen
  rw [List.getElem?_set_self (by omega)]
end
end Mi
namespace Mi
open PySem L2 PySem.Spec PyProof.Rows L2H LamX
def mSaid (wd : Nat → Option Str) (rp : List T → Sto → R T) (m : M T) : M T := fun ρ st => match m ρ st with
  | .ok t st1 => noExc (rp [t] st1)
  | .exc e st1 => match wd e.c with
    | some z => if ("! " : Str).length + z.length ≤ sizeLine ∧ e.fs = [] then .ok (.str (("! " : Str) ++ z)) st1 else .bad
    | none => .bad
  | .bad => .bad
theorem Post.noExcI {α β : Type} {K : PySem.W.Frag} {ad : Ad} {as : List Addr} {H : Hp} {Rl : List Addr → Hp → β → α → Prop} {Q : β → Hp → Prop} {W : XK} {r : R α} (h : Post K ad Rl as H Q W (Mi.noExc r)) : Post K ad Rl as H Q (fun _ _ _ => False) r := Post.noExc h
section
variable {K : PySem.W.Frag} {ad : Ad}
theorem tt_said {wd : Nat → Option Str} {rp : List T → Sto → R T} {m : M T} {hd as : List Addr} {ρ : Sl} {st : Sto} {H H1 : Hp} {σ : L2.St} {Q : V → Hp → Prop} {W : XK} (A : Ab K (ad.hide hd) as st H) (E : En K (ad.hide hd) as H σ ρ)
    (q : Post K (ad.hide hd) (Rep K (ad.hide hd)) as H Q W (mSaid wd rp m ρ st)) (eN : ExtN H H1) (T1 : Tabs ad.tabs H1) :
    TTsaid K ad wd rp (fun E' H' Q2 => tM K ad (Rep K) (fun cls d _ HH => E' cls d HH) m σ H' Q2) H1 Q := by
  have ex : Ext as H as H1 := ext_n eN
  refine ⟨hd, ρ, as, st, A.extN eN T1, E.ext ex, ?_⟩
  unfold mSaid at q
  revert q
  cases m ρ st with
  | ok t st1 => exact fun q as2 H2 v A2 e2 r2 => ⟨hd, as2, st1, t, A2, r2, Post.noExcI (Post.ext (ex.trans e2) q)⟩
  | bad => exact fun q => q
  | exc e st1 =>
    intro q as2 H2 u d A2 e2 r2
    dsimp only at q
    split at q
    · rename_i z ez
      split at q
      · rename_i hc
        obtain ⟨eu, h | ⟨_, _, h, _⟩⟩ := r2
        · refine ⟨e.c, z, eu, h.2, ez, hc.1, A2.tabs, fun as3 H3 e3 t3 => ?_⟩
          obtain ⟨A3, x3⟩ := A2.far e3 t3
          exact q as2 H3 _ A3 ((ex.trans e2).trans x3) (.str _)
        · exact absurd hc.2 h
      · exact q.elim
    · exact q.elim
end
section
variable {X : Cx} {ad : Ad} {W : WX}
theorem pm_said {wd : Nat → Option Str} {rp : List T → Sto → R T} {m : M T} {x a : Str} {g c Pt : Addr} {fd : FuncData} {j k : Nat} {params : Arguments} {body : Expr} {scope : Scope} {p lpos pos : Pos}
    (G : GvOk X.prog X.w X.K X.mg X.base j k g fd a (TTsaid X.K ad wd rp)) (hr : Room k X.A) (hgd : X.A.guards = some []) (hg : Gl X x) (hm : X.mg x = some (.ref g)) (hk : PySem.W.keepIn X.K (.ref g) = true) (hb : Binds X.K fd [a] [])
    (TB : TabB X.base X.mg c Pt) (hcode : X.env.code = .ref c) (hmT : (Pt, X.env.qual ++ "<lambda>") ∈ ad.tabs) (hu : ∀ q ∈ ad.tabs, q.1 = Pt → q.2 = X.env.qual ++ "<lambda>") (L : LamS X.env.scope scope) (hdef : defaultsOf params X.env = ([], []))
    (hbind : ∀ (q : Str) (cl : List (Str × Addr)) (pm cv ctv : Value), bindArgs (PySem.W.kla_fn "<lambda>" q params body scope cl pm cv ctv) ⟨[], []⟩ = pure [])
    (hbody : ∀ (A : Around) (outer : List Env) (s : Shared) (H : Hp) (E : XK) (f c' : Addr), Room j (A.deeper (lamEnv X scope s.heap.objs.size f c')) → A.guards = some [] → PM (lamCx X A outer s H E scope f c') ad (fun cls d _ HH => E cls d HH) body m)
    (hdb : (x == ("__debug__" : Str)) = false := by decide) :
    PM X ad W (.Call (.Name x p) [.Lambda params body scope lpos] [] pos) (mSaid wd rp m) :=
  peW (pe_lam1 (tb := fun E => tM X.K ad (Rep X.K) (fun cls d _ HH => E cls d HH) m) G hr hgd hg hm hk hb TB hcode hmT hu L hdef hbind hbody hdb) fun σ H Q ⟨hd, ρ, as, st, A, E, q⟩ => ⟨A.tabs, fun H1 eN T1 => tt_said A E q eN T1⟩
end
section
variable {X : Cx} {ad : Ad} {W : WX}
end
end Mi
namespace Mi
open PySem L2 PySem.Spec PyProof.Rows L2H LamX
section
variable {P : Program} {w : World} {K : PySem.W.Frag} {mg : Str → Option Value} {base : Heap} {ad : Ad}
end
end Mi
namespace Mi
open PySem L2 PySem.Spec PyProof.Rows LamX
abbrev noCode : Obj := { cls := .none, data := .fields #[] }
theorem law_runT {P : Program} {w : World} {K : PySem.W.Frag} {ad : Ad} {mg mb : Str → Option Value} {k : Nat} {fa a : Addr} {fd : FuncData} {x : Str} {F : List T → Sto → R T} {s₁ : Shared} {vs : List Value} {ns : List Int} {cs : List (Addr × Addr)}
    (KX : K.In s₁.heap) (hns : s₁.heap.Ns mainGlobals mg) (hb : s₁.heap.Ns builtinsNs mb) (hbb : ∀ x : Str, x ≠ "__name__" → mb x = bootBuiltins x) (hlim : s₁.heap.NoLimit) (hmod : ∃ mm, s₁.heap.Ns sysModules mm) (hg : s₁.gens = #[])
    (hT : ∀ p ∈ cs, s₁.heap.get? p.2 = some noCode) (nT : ∀ p ∈ cs, K.lookup p.2 = none) (C : ∀ p ∈ cs, PySem.W.CodeHd s₁.heap p.1 p.2)
    (hbm : ∃ (bm : Addr) (ob : Obj), mg "__builtins__" = some (.ref bm) ∧ bm ≠ builtinsNs ∧ s₁.heap.get? bm = some ob ∧ ob.cls = .type "module" ∧ ob.dict = some builtinsNs ∧ ob.data = .plain)
    (ha : s₁.heap.get? a = some { cls := .type "list", data := .seq vs.toArray }) (hi : IntsAre vs ns) (hl : ns.length ≤ sizeLine) (hr : Room k callerA) (had : ad.hid = []) (hat : ∀ q ∈ ad.tabs, ∃ p ∈ cs, p.2 = q.1)
    (hF : ∀ base : Heap, K.In base → base.Ns mainGlobals mg → (∃ o, base.get? sysModules = some o) → (∀ p ∈ cs, TabB base mg p.1 p.2) → GnOk P w K mg base k fa fd [x] (spF K ad 1 F)) (hbind : ∀ (s : Shared) (u : Value), BindsTo s fd ⟨[u], []⟩ [(x, u)])
    (hlaw : ∃ st, F [.frz (ns.map T.int)] [] = .ok (.bl true) st) :
    codeAny (model P w) callerA (.call (.ref fa) ⟨[.ref a], []⟩) (fun r s' => r = .ok (.ret (.bool true)) ∧ OldK s₁.heap s'.heap ∧ s'.os = s₁.os ∧ AllBare s'.gens) s₁ := by
  obtain ⟨stE, hlaw⟩ := hlaw
  have rv := vals_ints hi
  have lenV := hi.length
  have isP : ∀ b ∈ cs.map (·.2), s₁.heap.get? b = some noCode := fun b hb => by
    obtain ⟨p, hp, rfl⟩ := List.mem_map.mp hb
    exact hT p hp
  have nPa : a ∉ cs.map (·.2) := fun z => by
    have e := isP a z
    rw [ha] at e
    have := congrArg Obj.data (Option.some.inj e)
    cases this
  have repInts : ∀ (as : List Addr) (H : Hp) (l : List Int), Reps K (ad.hide []) as H (l.map V.int) (l.map T.int) := fun as H l => by
    induction l with
    | nil => exact .nil
    | cons i r ih => exact .cons (.int i) ih
  have core : ∀ H : Hp, (∀ b ∈ cs.map (·.2), H b = some (.tbl #[])) → (∀ b, H b = none ∨ b ∈ cs.map (·.2) ∨ ∃ o xs, H b = some (.frz o (.lst xs))) → SqL K H a (ns.map V.int) → HOk P w H s₁.heap → (∀ b, H b ≠ none → b = a ∨ b ∈ cs.map (·.2)) → (H a ≠ none → K.lookup a = none) →
      codeAny (model P w) callerA (.call (.ref fa) ⟨[.ref a], []⟩) (fun r s' => r = .ok (.ret (.bool true)) ∧ OldK s₁.heap s'.heap ∧ s'.os = s₁.os ∧ AllBare s'.gens) s₁ := by
    intro H hP hO hS hok hA hK
    -- what is neither a list nor an empty table stands in the ground
    have gnd : ∀ {b : Addr} {o : Obj}, s₁.heap.get? b = some o → (∀ us n, o.data ≠ .seq us n) → o.data ≠ .fields #[] → H b = none ∧ (hidT s₁.heap H).get? b = some o := fun {b o} e h1 h2 => by
      have n : H b = none := by
        cases q : H b with
        | none => rfl
        | some u =>
          rcases hA b (by rw [q]; simp) with z | z
          · subst z
            rw [ha] at e; cases e
            exact (h1 _ _ rfl).elim
          · rw [isP b z] at e; cases e
            exact (h2 rfl).elim
      exact ⟨n, hidT_get e n⟩
    have dictG : ∀ {b : Addr} {o : Obj} {es : Array DictEntry} {ep : Nat}, s₁.heap.get? b = some o → o.data = .dict es ep → (hidT s₁.heap H).get? b = some o := fun {b o es ep} e d => (gnd e (fun us n z => by rw [d] at z; cases z) (fun z => by rw [d] at z; cases z)).2
    have nsK : ∀ {b : Addr} {m : Str → Option Value}, s₁.heap.Ns b m → (hidT s₁.heap H).Ns b m := fun {b m} ⟨o, es, ep, e, d, r⟩ => ⟨o, es, ep, dictG e d, d, r⟩
    have hKb : K.In (hidT s₁.heap H) := fun b o e => by
      refine hidT_get (KX b o e) ?_
      cases q : H b with
      | none => rfl
      | some u =>
        rcases hA b (by rw [q]; simp) with z | z
        · rw [z, hK (by rw [← z, q]; simp)] at e; cases e
        · obtain ⟨p, hp, rfl⟩ := List.mem_map.mp z
          rw [nT p hp] at e; cases e
    have hM : Mod K mg (hidT s₁.heap H) := ⟨hKb, nsK hns, ⟨mb, nsK hb, hbb⟩, let ⟨mc, h1, h2⟩ := hlim; ⟨mc, nsK h1, h2⟩⟩
    have e0 : Env0 P w K mg (hidT s₁.heap H) callerA [] s₁ H :=
      ⟨rfl, hM, fun b o e => of_hidT e, Nat.le_of_eq (hidT_size _ _), trivial, fun b hb => absurd (show b ∈ ([] : List Addr) from hb) (by simp), hok, .of_eq hg⟩
    have hsm : ∃ o, (hidT s₁.heap H).get? sysModules = some o := by
      obtain ⟨mm, hm⟩ := hmod
      obtain ⟨o, _, _, e, _⟩ := nsK hm
      exact ⟨o, e⟩
    have TB : ∀ p ∈ cs, TabB (hidT s₁.heap H) mg p.1 p.2 := fun p hp => by
      refine ⟨?_, ?_, fun z => ?_⟩
      · obtain ⟨o, us, file, tf, flags, tg, inF, text, tt, e1, r1, r2, r3, rest⟩ := C p hp
        exact ⟨o, us, file, tf, flags, tg, inF, text, tt, (gnd e1 (fun us' n z => by rw [r2] at z; cases z) (fun z => by rw [r2] at z; cases z; simp at r3)).2, r1, r2, r3, rest⟩
      · obtain ⟨bm, ob, b1, b2, b3, b4, b5, b6⟩ := hbm
        refine ⟨bm, ob, b1, b2, fun q => ?_, fun q => ?_, (gnd b3 (fun us n z => by rw [b6] at z; cases z) (fun z => by rw [b6] at z; cases z)).2, b4, b5, b6⟩
        · obtain ⟨o, es, ep, e, hd, _⟩ := hns
          rw [q, e] at b3; cases b3
          rw [hd] at b6; cases b6
        · rw [q, hT p hp] at b3; cases b3
          cases b6
      · obtain ⟨o, es, ep, e, hd, _⟩ := hns
        rw [z, hT p hp] at e; cases e
        cases hd
    have frz : FrzAt K [] H a (ns.map V.int) := by
      rcases hS with (h | ⟨o, h⟩) | h
      · rcases hO a with z | z | ⟨o, xs, z⟩
        · rw [h] at z; cases z
        · exact absurd z nPa
        · rw [h] at z; cases z
      · exact .inl ⟨by simp, o, h⟩
      · exact .inr (.inr h)
    have tb0 : Tabs ad.tabs H := fun q hq => by
      obtain ⟨p, hp, e⟩ := hat q hq
      exact TabS.nil (hP q.1 (by rw [← e]; exact List.mem_map.mpr ⟨p, hp, rfl⟩))
    have ab : Ab K (ad.hide []) [] [] H := ⟨rfl, List.nodup_nil, fun i a o h => by simp at h, fun a h => (by cases h), tb0⟩
    have sp : spF K ad 1 F [.ref a] H (fun v _ => v = .bl true) (fun _ _ _ => False) := by
      refine ⟨rfl, [], [], [], [.frz (ns.map T.int)], ab, .cons (.frz frz (repInts _ _ _)) .nil, ?_⟩
      rw [hlaw]
      intro as' H' v _ _ r
      exact r.blI
    refine codeAny_mono ((hF _ hKb (nsK hns) hsm TB).run callerA [] s₁ H ⟨[.ref a], []⟩ [.ref a] [.ref a] _ _ hr rfl e0 (hbind s₁ (.ref a)) (.cons rfl .nil) sp) fun r s' h => ?_
    match r, h with
    | .error e, h => obtain ⟨_, _, _, _, _, _, _, _, _, _, _, _, z⟩ := h; exact z.elim
    | .ok .next, h => exact h.elim
    | .ok .brk, h => exact h.elim
    | .ok .cont, h => exact h.elim
    | .ok (.ret u), h =>
      obtain ⟨v, H', os, bare, un, hok', r', q⟩ := h
      have q' : v = .bl true := q
      subst q'
      obtain rfl : u = Value.bool true := r'
      have stay : ∀ b o, b ∉ cs.map (·.2) → s₁.heap.get? b = some o → s'.heap.get? b = some o := fun b o nb e => by
        cases z : H b with
        | none => exact un.keep b o e z (fun z => absurd (show b ∈ ([] : List Addr) from z) (by simp)) (by simp)
        | some u =>
          rcases hO b with z1 | z1 | ⟨ob, xs, z1⟩
          · rw [z] at z1; cases z1
          · exact absurd z1 nb
          · obtain ⟨e1, _⟩ := hok b _ z1
            obtain ⟨e2, _⟩ := hok' b _ (un.frzs b ob _ z1)
            rw [e] at e1; cases e1
            exact e2
      have grew : ∀ p ∈ cs, ∃ more : Array Value, s'.heap.get? p.2 = some { cls := .none, data := .fields more } := fun p hp => by
        obtain ⟨more, z⟩ := un.tbls p.2 #[] (hP _ (List.mem_map.mpr ⟨p, hp, rfl⟩))
        exact ⟨_, hok' p.2 _ z⟩
      refine ⟨rfl, ⟨fun b o e => ?_, fun b o e => ?_⟩, os, bare⟩
      · by_cases nb : b ∈ cs.map (·.2)
        · obtain ⟨p, hp, rfl⟩ := List.mem_map.mp nb
          obtain ⟨more, hm⟩ := grew p hp
          rw [hT p hp] at e
          cases e
          exact .inr (.inl ⟨((C p hp).tab (hT p hp)).isCodeTable, rfl, #[], more, rfl, by rw [Array.empty_append]; exact hm⟩)
        · exact .inl (stay b o nb e)
      · by_cases nb : b ∈ cs.map (·.2)
        · obtain ⟨p, hp, rfl⟩ := List.mem_map.mp nb
          obtain ⟨more, hm⟩ := grew p hp
          exact ⟨_, hm⟩
        · exact ⟨o, stay b o nb e⟩
  let G : Hp := fun b => if b ∈ cs.map (·.2) then some (.tbl #[]) else none
  have gin : ∀ b, b ∈ cs.map (·.2) → G b = some (.tbl #[]) := fun b h => if_pos h
  have gout : ∀ b, b ∉ cs.map (·.2) → G b = none := fun b h => if_neg h
  cases hk : K.lookup a with
  | some o =>
    have e := KX a o hk
    rw [ha] at e
    cases e
    refine core G gin (fun b => ?_) (.inr ⟨_, vs.toArray, _, hk, rfl, rfl, rfl, by rw [List.size_toArray, lenV]; exact hl, by simpa using rv⟩) (fun b u z => ?_) (fun b z => ?_) fun z => absurd (gout a nPa) z
    · by_cases h : b ∈ cs.map (·.2)
      · exact .inr (.inl h)
      · exact .inl (gout b h)
    · by_cases h : b ∈ cs.map (·.2)
      · rw [gin b h] at z; cases z
        exact isP b h
      · rw [gout b h] at z; cases z
    · by_cases h : b ∈ cs.map (·.2)
      · exact .inr h
      · exact absurd (gout b h) z
  | none =>
    have at_ : upd G a (.frz { cls := .type "list", data := .seq vs.toArray } (.lst (ns.map V.int))) a = some (.frz { cls := .type "list", data := .seq vs.toArray } (.lst (ns.map V.int))) := upd_same
    have off : ∀ b, b ≠ a → upd G a (.frz { cls := .type "list", data := .seq vs.toArray } (.lst (ns.map V.int))) b = G b := fun b h => upd_ne h
    refine core _ (fun b h => by rw [off b (fun z => nPa (by rw [← z]; exact h))]; exact gin b h) (fun b => ?_) (.inl (.inr ⟨_, at_⟩)) (fun b u z => ?_) (fun b z => ?_) fun _ => hk
    · by_cases hb : b = a
      · subst hb; exact .inr (.inr ⟨_, _, at_⟩)
      · by_cases h : b ∈ cs.map (·.2)
        · exact .inr (.inl h)
        · exact .inl ((off b hb).trans (gout b h))
    · by_cases hb : b = a
      · subst hb
        rw [at_] at z; cases z
        exact ⟨ha, by rw [List.length_map]; exact hl, vs, _, rv, ha⟩
      · rw [off b hb] at z
        by_cases h : b ∈ cs.map (·.2)
        · rw [gin b h] at z; cases z
          exact isP b h
        · rw [gout b h] at z; cases z
    · by_cases hb : b = a
      · exact .inl hb
      · rw [off b hb] at z
        by_cases h : b ∈ cs.map (·.2)
        · exact .inr h
        · exact absurd (gout b h) z
def TabOf (K : PySem.W.Frag) (mg : Str → Option Value) (h : Heap) (x : Str) : Prop := ∀ (a c Pt : Addr) (o : Obj) (fd : FuncData) (e : Value) (dd : Option Addr) (us : Array Value) (sl : Array (Option Value)),
  mg x = some (.ref a) → K.lookup a = some o → o.data = .func fd → fd.code = .ref c → K.lookup c = some ⟨e, dd, .fields us, sl⟩ → us[11]? = some (.ref Pt) → h.get? Pt = some noCode
theorem walkT {l : PySem.W.OpenLaw} {n k : Nat} {q : Program} {loose : List Str} {XP : (Str → Option Value) → Heap → Prop} {YP : World → Heap → Prop} {d : DefRec} {K : Params → PySem.W.Frag} {x : Str} {F : List T → Sto → R T} {L : List Str}
    (hn : l.most = some n) (hn2 : n ≤ sizeLine) (hdf : d.params.defaults = []) (hr : Room k callerA) (hi : importsNone q = true) (hL : (L.all fun y => (recsOf q).any fun e => e.name == y) = true)
    (hY : ∀ (w : World) (h : Heap), YP w h → (K w.params).In h)
    (hlaw : ∀ ns : List Int, ns.length ≤ n → ∃ st, F [.frz (ns.map T.int)] [] = .ok (.bl true) st)
    (hF : ∀ (w : World) (mg : Str → Option Value) (fa : Addr) (h : Heap), (K w.params).In h → h.Ns mainGlobals mg → mg d.name = some (.ref fa) → (∀ y ∈ L, TabOf (K w.params) mg h y) →
      ∃ (ad : Ad) (fd : FuncData) (cs : List (Addr × Addr)), (∀ p ∈ cs, h.get? p.2 = some noCode) ∧ (∀ p ∈ cs, (K w.params).lookup p.2 = none) ∧ (∀ p ∈ cs, PySem.W.CodeHd h p.1 p.2) ∧ ad.hid = [] ∧ (∀ q ∈ ad.tabs, ∃ p ∈ cs, p.2 = q.1) ∧ (∀ (s : Shared) (u : Value), BindsTo s fd ⟨[u], []⟩ [(x, u)]) ∧
        ∀ base : Heap, (K w.params).In base → base.Ns mainGlobals mg → (∃ o, base.get? sysModules = some o) → (∀ p ∈ cs, TabB base mg p.1 p.2) → GnOk l.prog w (K w.params) mg base k fa fd [x] (spF (K w.params) ad 1 F)) :
    PySem.W.WalkO q loose XP YP l.row.toRowW d [] (fun f vs => PySem.call f vs) := by
  refine Att.attach_call hn hdf fun w s₀ s₁ mg mb fa o pm cd doc a vs ns G Y ho hd hcd hmg hobj hints hlen hg => ?_
  have KX := hY w _ Y
  have own : ∀ y ∈ L, TabOf (K w.params) mg s₁.heap y := fun y hy a1 c1 P1 o1 fd1 e1 dd us sl k0 k1 k2 k3 k4 k5 => by
    obtain ⟨dL, hm, hn1⟩ := List.any_eq_true.mp (List.all_eq_true.mp hL y hy)
    obtain ⟨a', o', fd', c', P', h1, h2, h3, h4, h5, ⟨oc, vc, g1, _, g3, g4⟩, hP⟩ := G.T.tab dL hm
    rw [beq_iff_eq.mp hn1, k0] at h1
    cases h1
    rw [KX _ _ k1] at h2
    cases h2
    rw [k2] at h3
    cases h3
    rw [k3] at h4
    cases h4
    rw [KX _ _ k4] at g1
    cases g1
    cases g3
    rw [k5] at g4
    cases g4
    exact hP
  obtain ⟨ad, fd, cs, hT, nT, C, had, hat, hb, hG⟩ := hF w mg fa _ KX G.T.g hmg own
  obtain ⟨mm, hm⟩ := (G.T.seer hi).mods
  exact law_runT KX G.T.g G.T.b G.T.builtins G.T.nolimit ⟨mm, hm.1⟩ hg hT nT C G.T.bmain hobj hints (Nat.le_trans hlen hn2) hr had hat hG hb (hlaw ns hlen)
end Mi
namespace Mi
open PySem L2 PySem.Spec PyProof.Rows
section
variable {X : Cx} {ad : Ad} {W : WX} {pos p : Pos} {k n c : Nat} {e : Expr} {f x : Str} {fa pa : Addr} {fd : FuncData} {ps : List Str} {F : List T → Sto → R T}
end
end Mi
namespace Mi
open PySem L2 PySem.Spec PyProof.Rows LamX
theorem CallM.atAd {X : Cx} {ad : Ad} {f : Value} {op : List T → Sto → R T} (h : CallM X f op) : CallMA X ad f op := by
  obtain ⟨r, h1, h2⟩ := h
  exact ⟨r, h1, fun hd as st H xs ts Q W => h2 _ as st H xs ts Q W⟩
theorem sit_lam {X : Cx} {A : Around} {outer : List Env} {s : Shared} {H : Hp} {E : XK} {scope : Scope} {f c' : Addr} {j : Nat} (hr : Room j (A.deeper (lamEnv X scope s.heap.objs.size f c'))) (hg : A.guards = some []) (hsm : ∃ o, X.base.get? sysModules = some o) :
    Sit (lamCx X A outer s H E scope f c') (fun c d _ HH => E c d HH) j := ⟨rfl, hg, hr, takes_of rfl rfl rfl rfl, passes_of rfl, hsm⟩
abbrev lamQ (q : Str) : Str := (q ++ ".<locals>.") ++ "<lambda>"
theorem tabs_one {l : List (Addr × Str)} (h : (l.map (·.1)).Nodup) {p : Addr × Str} (hp : p ∈ l) : ∀ q ∈ l, q.1 = p.1 → q.2 = p.2 := by
  induction l with
  | nil => cases hp
  | cons a l ih =>
    rw [List.map_cons, List.nodup_cons] at h
    intro q hq e
    rcases List.mem_cons.mp hp with e1 | hp <;> rcases List.mem_cons.mp hq with e2 | hq
    · rw [e1, e2]
    · exact absurd (List.mem_map.mpr ⟨q, hq, by rw [e, e1]⟩) h.1
    · exact absurd (List.mem_map.mpr ⟨p, hp, by rw [← e, e2]⟩) h.1
    · exact ih h.2 hp q hq e
structure LamD (base : Heap) (mg : Str → Option Value) (ad : Ad) (fd : FuncData) (q : Str) (c Pt : Addr) : Prop where
  cd : fd.code = .ref c
  tb : TabB base mg c Pt
  mem : (Pt, lamQ q) ∈ ad.tabs
  one : ∀ p ∈ ad.tabs, p.1 = Pt → p.2 = lamQ q
end Mi
namespace Mi
open PySem L2 PySem.Spec PyProof.Rows LamX L2H
def subT (is : List Nat) (c i : Nat) : Option Bool := if i ∈ is ∧ i ≠ EXC then some (i == c) else none
theorem exAd_fn {ad : Ad} {a : Addr} {i : Nat} (h : i ≠ EXC) : (exAd ad a).fn i = ad.fn i := if_neg h
theorem lookup_mem {l : List (Nat × Str)} {c : Nat} {z : Str} (h : l.lookup c = some z) : (c, z) ∈ l := by
  induction l with
  | nil => cases h
  | cons a l ih =>
    obtain ⟨k, v⟩ := a
    rw [List.lookup_cons] at h
    by_cases e : c = k
    · subst e
      simp at h
      rw [h]; exact List.mem_cons_self
    · have : (c == k) = false := by simpa using e
      rw [this] at h
      exact List.mem_cons_of_mem _ (ih h)
theorem cm_isiW {X : Cx} {ad : Ad} {p : Addr × Obj} {c : Nat} {is : List Nat} (C : ExcC X.K (ad.fn c)) (hp : p ∈ X.pn) (hc : p.2.cls = .ref (ad.fn c)) (hdi : p.2.dict = none) (hf : ∃ vs, p.2.data = .fields vs)
    (hs : ∀ i ∈ is, PySem.W.kitOne X.K (.ref (ad.fn c)) (.ref (ad.fn i)) = some (i == c)) : CallMA X (exAd ad p.1) (.builtin "isinstance") (fIsiE (subT is c)) :=
  cm_isiE (oe := p.2) (D := ad.fn c) C (by show (exAd ad p.1 |>.fn EXC, p.2) ∈ X.pn; rw [show (exAd ad p.1).fn EXC = p.1 from (by show (if EXC = EXC then p.1 else ad.fn EXC) = p.1; exact if_pos rfl)]; exact hp) hc hdi hf fun i b h => by
    unfold subT at h
    split at h
    · rename_i hi
      cases h
      rw [exAd_fn hi.2]
      exact hs i hi.1
    · cases h
end Mi
namespace Mi
open PySem PySem.Spec PySem.Calls PyProof.Rows PySem.W
variable {prog : Program} {w : World} {M : Model} {A : Around} {E : Value → Shared → Prop} {s : Shared} {K : Frag} {x C L f : Addr} {h₀ : Heap} {m : Str → Option Value} {ox : Obj} {od : Option Obj} {nm T : String}
end Mi
namespace Mi
open PySem L2 PySem.Spec PyProof.Rows
section
variable {X : Cx} {ad : Ad} {W : WX} {pos : Pos} {k c : Nat} {fa : Addr} {fd : FuncData} {ps : List Str} {F : List T → Sto → R T}
end
end Mi
namespace Mi
open PySem L2 PySem.Spec PyProof.Rows
section
variable {X : Cx} {ad : Ad} {W : WX} {pos : Pos} {k c : Nat} {fa : Addr} {fd : FuncData} {ps : List Str} {F : List T → Sto → R T}
end
end Mi
namespace Mi
open PySem PySem.Spec PySem.Calls PyProof.Rows PySem.W
section
variable {prog : Program} {w : World} {M : Model} {A : Around} {E : Value → Shared → Prop} {s : Shared} {K : Frag} {x dx C L f : Addr} {h₀ : Heap} {m : Str → Option Value} {ox : Obj} {od : Option Obj} {nm T : String}
end
end Mi
namespace Mi
open PySem PySem.Spec PySem.Calls PyProof.Rows PySem.W
section
variable {prog : Program} {w : World} {M : Model} {A : Around} {E : Value → Shared → Prop} {s : Shared} {K : Frag} {x C L f : Addr} {h₀ : Heap} {m : Str → Option Value} {ox : Obj} {od : Option Obj} {nm T : String}
end
end Mi
namespace Mi
open PySem L2 PySem.Spec PyProof.Rows
section
variable {X : Cx} {ad : Ad} {W : WX} {pos : Pos} {k c : Nat} {fa : Addr} {fd : FuncData} {ps : List Str} {F : List T → Sto → R T}
end
end Mi
namespace Mi
open PySem L2 PySem.Spec PyProof.Rows PySem.W
section
variable {X : Cx}
end
section
variable {X : Cx} {ad : Ad} {W : WX} {pos : Pos} {k c : Nat} {fa : Addr} {fd : FuncData} {ps : List Str} {F : List T → Sto → R T} {x : Str} {e : Expr}
end
end Mi
namespace Mi
open PySem L2
section
variable {Q : T → Sto → Prop} {E : Exn → Sto → Prop} {ρ : Sl} {y0 : Option T} {st : Sto} {c : Nat} {F : List T → Sto → R T}
end
section
variable {N : Sl → Sto → Prop} {Rt : T → Sto → Prop} {B C : Sl → Sto → Prop} {Ex : Exn → Sl → Sto → Prop} {ρ : Sl} {y0 : Option T} {st : Sto}
end
end Mi
namespace Mi
open PySem L2 PySem.Spec PyProof.Rows
section
variable {X : Cx} {ad : Ad} {W : WX} {pos p1 p2 p3 : Pos} {e : Expr}
end
section
variable {Q : T → Sto → Prop} {E : Exn → Sto → Prop} {st : Sto}
end
end Mi
namespace Mi
open PySem L2 PySem.Spec PyProof.Rows
section
variable {X : Cx} {ad : Ad} {c : Nat}
end
section
variable {c : Nat} {st : Sto}
end
end Mi
namespace Mi
open PySem L2
section
variable {κ : Type} [DecidableEq κ]
def valG (kvs : List (κ × T)) (k : κ) : Option T := (kvs.find? fun kv => decide (kv.1 = k)).map (·.2)
def putG (kvs : List (κ × T)) (k : κ) (v : T) : List (κ × T) :=
  if (kvs.any fun kv => decide (kv.1 = k)) = true then kvs.map (fun kv => if kv.1 = k then (kv.1, v) else kv) else kvs ++ [(k, v)]
variable {K : PySem.W.Frag} {ad : Ad} {as : List Addr} {H : Hp}
end
section
variable {X : Cx} {ad : Ad} {W : WX} {pos p apos cpos tpos : Pos} {o e value : Expr} {es : List Expr} {c : Nat}
variable {k n : Nat} {fa : Addr} {fd : FuncData} {ps : List Str} {F : List T → Sto → R T} {x m : Str}
end
section
variable {X : Cx} {ad : Ad} {W : WX} {pos tpos : Pos} {o i c a b : Expr} {es : List Expr}
end
section
variable {Q : T → Sto → Prop} {E : Exn → Sto → Prop} {ρ : Sl} {y0 : Option T} {st : Sto} {N : Sl → Sto → Prop} {Rt : T → Sto → Prop} {B C : Sl → Sto → Prop} {Ex : Exn → Sl → Sto → Prop}
end
end Mi
namespace Mi
open PySem L2 PySem.Spec PyProof.Rows
section
variable {X : Cx} {ad : Ad} {W : WX} {pos p tpos : Pos}
end
inductive EsM (K : PySem.W.Frag) : List DictEntry → List (Str × T) → Prop
  | nil : EsM K [] []
  | cons {h : Int} {z : Str} {t : Tok} {u : Value} {c : T} {es : List DictEntry} {kvs : List (Str × T)} : Cst K u c → EsM K es kvs → EsM K (⟨h, .str z t, u⟩ :: es) ((z, c) :: kvs)
def dctVal (kvs : List (Str × T)) (z : Str) : Option T := (kvs.find? fun p => decide (p.1 = z)).map (·.2)
theorem EsM.find {K : PySem.W.Frag} (z : Str) : ∀ {es : List DictEntry} {kvs : List (Str × T)}, EsM K es kvs → match dctVal kvs z with
    | some c => ∃ e, es.find? (·.key.isStr z) = some e ∧ Cst K e.val c
    | none => es.find? (·.key.isStr z) = none
  | _, _, .nil => rfl
  | _, _, .cons (z := y) (c := c) (kvs := kvs) hc h => by
    have ih := h.find z
    unfold dctVal at ih ⊢
    rw [List.find?_cons, List.find?_cons]
    by_cases e : y = z
    · subst e
      simp only [decide_true, Value.isStr, beq_self_eq_true, Option.map_some]
      exact ⟨_, rfl, hc⟩
    · have e' : (y == z) = false := by simpa using e
      simp only [e, decide_false, Value.isStr, e']
      exact ih
section
variable {X : Cx} {ad : Ad} {W : WX} {pos p tpos : Pos} {x : Str} {kvs : List (Str × T)} {i : Expr} {mi : M T}
end
section
variable {Q : T → Sto → Prop} {E : Exn → Sto → Prop} {ρ : Sl} {y0 : Option T} {st : Sto}
@[simp] theorem Ok_join (mo me : M T) : Ok (mJoin mo me (y0 :: ρ) st) Q E ↔ Ok (mo (y0 :: ρ) st) (fun x st1 => ∃ a, x = .str a ∧ Ok (me (y0 :: ρ) st1) (fun y st2 => ∃ z, joinT a y st2 = some z ∧ Q (.str z) st2) E) E := by
  unfold mJoin
  rw [Ok_bind]
  refine Ok_congr fun x st1 => ?_
  cases x <;> simp [Ok_bind]
  rename_i a
  refine iff_of_eq (congrArg (fun f => Ok (me (y0 :: ρ) st1) f E) ?_)
  funext y st2
  cases joinT a y st2 <;> simp
end
end Mi
namespace Mi
open PySem L2 PySem.Spec PyProof.Rows
section
variable {X : Cx} {pins : List (Addr × Obj)} {σ : L2.St} {H : Hp} {s : Shared} {ad : Ad} {as : List Addr}
mutual
theorem rep_nested (I : L2.Inv X pins σ H s) : ∀ {k : NestedKey} {v : V} {u : Value}, Rep X.K ad as H v (kT k) → RelV v u → NestedIs s.heap k u
  | .none, _, u, r, e => by
    rw [kT] at r
    obtain rfl := r.nonI
    obtain rfl : u = Value.none := e
    exact .none
  | .num i, _, u, r, e => by
    rw [kT] at r
    obtain rfl := r.intI
    obtain ⟨t, rfl⟩ := e
    exact .int i t
  | .text x, _, u, r, e => by
    rw [kT] at r
    obtain rfl := r.strI
    obtain ⟨t, rfl⟩ := e
    exact .text x t
  | .tup ks, _, u, r, e => by
    rw [kT] at r
    obtain ⟨a, xs, rfl, h1, h2⟩ := r.tupI
    obtain rfl : u = Value.ref a := e
    obtain ⟨its, r2, ⟨o, ho, hc, n, hd⟩, _⟩ := I.tuple h1
    exact .tup ho hc hd (by simpa using reps_nested I h2 r2)
theorem reps_nested (I : L2.Inv X pins σ H s) : ∀ {ks : List NestedKey} {vs : List V} {us : List Value}, Reps X.K ad as H vs (kTs ks) → Vals vs us → NestedAll s.heap ks us
  | [], _, _, r, e => by
    rw [kTs] at r
    cases r; cases e
    exact .nil
  | k :: ks, _, _, r, e => by
    rw [kTs] at r
    cases r with
    | cons r1 r2 =>
      cases e with
      | cons e1 e2 => exact .cons (rep_nested I r1 e1) (reps_nested I r2 e2)
end
end
structure NAt (K : PySem.W.Frag) (ad : Ad) (as : List Addr) (H : Hp) (a : Addr) (xs : List (NestedKey × Addr × V)) : Prop where
  at_ : H a = some (DN a xs)
  low : (a == sysModules) = false
  len : xs.length ≤ sizeLine
  nd : (xs.map (·.1)).Nodup
  ok : ∀ x ∈ xs, nkOk x.1 = true
  ks : ∀ x ∈ xs, Rep K ad as H (.ref x.2.1) (kT x.1)
abbrev NRel : List (NestedKey × Addr × V) → List (NestedKey × Addr × Value) → Prop := Paired fun p q => p.1 = q.1 ∧ p.2.1 = q.2.1 ∧ RelV p.2.2 q.2.2
def valX (xs : List (NestedKey × Addr × V)) (k : NestedKey) : Option V := (xs.find? fun x => decide (x.1 = k)).map (·.2.2)
def putX (xs : List (NestedKey × Addr × V)) (k : NestedKey) (b : Addr) (v : V) : List (NestedKey × Addr × V) :=
  if (xs.any fun x => decide (x.1 = k)) = true then xs.map (fun x => if x.1 = k then (x.1, x.2.1, v) else x) else xs ++ [(k, b, v)]
theorem NRel.val {xs : List (NestedKey × Addr × V)} {ys : List (NestedKey × Addr × Value)} (r : NRel xs ys) (k : NestedKey) : RelO (valX xs k) ((atKey ys k).map (·.2)) := by
  induction r with
  | nil => exact True.intro
  | @cons p q ps qs h t ih =>
    obtain ⟨h1, _, h2⟩ := h
    by_cases e : p.1 = k
    · have e' : q.1 = k := h1.symm.trans e
      have b : atKey (q :: qs) k = some q.2 := by simp [atKey, List.find?_cons, e']
      have a : valX (p :: ps) k = some p.2.2 := by simp [valX, List.find?_cons, e]
      rw [a, b]; exact h2
    · have e' : ¬ q.1 = k := fun z => e (h1.trans z)
      have b : atKey (q :: qs) k = atKey qs k := by simp [atKey, List.find?_cons, e']
      have a : valX (p :: ps) k = valX ps k := by simp [valX, List.find?_cons, e]
      rw [a, b]; exact ih
theorem NRel.any {xs : List (NestedKey × Addr × V)} {ys : List (NestedKey × Addr × Value)} (r : NRel xs ys) (k : NestedKey) : (xs.any fun x => decide (x.1 = k)) = (atKey ys k).isSome := by
  induction r with
  | nil => rfl
  | @cons p q ps qs h t ih =>
    rw [List.any_cons, ih, h.1]
    by_cases e : q.1 = k
    · simp [atKey, List.find?_cons, e]
    · simp [atKey, List.find?_cons, e]
theorem NRel.repl {xs : List (NestedKey × Addr × V)} {ys : List (NestedKey × Addr × Value)} (r : NRel xs ys) (k : NestedKey) {v : V} {u : Value} (rv : RelV v u) : NRel (xs.map fun x => if x.1 = k then (x.1, x.2.1, v) else x) (ys.map (putAt k u)) := by
  induction r with
  | nil => exact .nil
  | @cons p q ps qs h t ih =>
    rw [List.map_cons, List.map_cons]
    refine .cons ?_ ih
    obtain ⟨h1, h2, h3⟩ := h
    unfold putAt
    by_cases e : p.1 = k
    · rw [if_pos e, if_pos (h1.symm.trans e)]; exact ⟨h1, h2, rv⟩
    · rw [if_neg e, if_neg (fun z => e (h1.trans z))]; exact ⟨h1, h2, h3⟩
theorem NRel.put {xs : List (NestedKey × Addr × V)} {ys : List (NestedKey × Addr × Value)} (r : NRel xs ys) (k : NestedKey) (b : Addr) {v : V} {u : Value} (rv : RelV v u) : NRel (putX xs k b v) (storedH ys k b u) := by
  unfold putX storedH
  rw [r.any k]
  by_cases q : (atKey ys k).isSome = true
  · rw [if_pos q, if_pos q]
    exact r.repl k rv
  · rw [if_neg q, if_neg q]
    exact Paired.snoc r ⟨rfl, rfl, rv⟩
section
variable {X : Cx} {pins : List (Addr × Obj)} {σ : L2.St} {H : Hp} {s : Shared} {ad : Ad} {as : List Addr} {a : Addr} {xs : List (NestedKey × Addr × V)}
theorem NAt.dict (I : L2.Inv X pins σ H s) (n : NAt X.K ad as H a xs) : ∃ ys : List (NestedKey × Addr × Value), NRel xs ys ∧ s.heap.DictOfH (nestedKind X.prog X.w) a ys := by
  obtain ⟨⟨o, es, ep, h1, h2, h3, h4⟩, _⟩ := (show ObjOk X.prog X.w H s.heap a (DN a xs) from I.hok a _ n.at_)
  have key : ∀ {l : List (NestedKey × Addr × V)} {m : List DictEntry}, Paired (fun (p : NestedKey × Addr × V) (e : DictEntry) => e.key = .ref p.2.1 ∧ RelV p.2.2 e.val ∧ ∀ w, e.hash = p.1.hash w) l m →
      ∃ ys : List (NestedKey × Addr × Value), NRel l ys ∧ m = ys.map (entryOfKey (nestedKind X.prog X.w)) := by
    intro l m r
    induction r with
    | nil => exact ⟨[], .nil, rfl⟩
    | @cons p q ps qs h t ih =>
      obtain ⟨ys, r1, r2⟩ := ih
      obtain ⟨e1, e2, e3⟩ := h
      refine ⟨(p.1, p.2.1, q.val) :: ys, .cons ⟨rfl, rfl, e2⟩ r1, ?_⟩
      rw [List.map_cons, r2]
      congr 1
      obtain ⟨qh, qk, qv⟩ := q
      simp only at e1
      subst e1
      show (⟨qh, _, qv⟩ : DictEntry) = ⟨p.1.hash X.w, _, qv⟩
      have := e3 X.w
      simp only at this
      rw [this]
  obtain ⟨ys, r, e⟩ := key h4
  refine ⟨ys, r, o, es, ep, h1, h2, h3, e, fun y hy => ?_, ?_⟩
  · have : ∃ x ∈ xs, x.1 = y.1 ∧ x.2.1 = y.2.1 := by
      clear e h4 key
      have n' := n.nd
      clear n'
      revert r
      generalize xs = l
      intro r
      induction r with
      | nil => cases hy
      | @cons p q ps qs h t ih =>
        rcases List.mem_cons.mp hy with rfl | hy
        · exact ⟨p, List.mem_cons_self, h.1, h.2.1⟩
        · obtain ⟨x, hx, e⟩ := ih hy
          exact ⟨x, List.mem_cons_of_mem _ hx, e⟩
    obtain ⟨x, hx, e1, e2⟩ := this
    have ok := n.ok x hx
    unfold nkOk at ok
    rw [Bool.and_eq_true, decide_eq_true_eq] at ok
    rw [← e1, ← e2]
    exact ⟨rep_nested I (n.ks x hx) rfl, ok.2⟩
  · have : ys.map (·.1) = xs.map (·.1) := by
      clear e h4 key
      have n' := n.nd
      clear n'
      revert r
      generalize xs = l
      intro r
      induction r with
      | nil => rfl
      | cons h t ih => rw [List.map_cons, List.map_cons, ih, h.1]
    rw [this]
    exact n.nd

theorem putX_keys {xs : List (NestedKey × Addr × V)} {k : NestedKey} {b : Addr} {v : V} : ∀ x ∈ putX xs k b v, (∃ y ∈ xs, x.1 = y.1 ∧ x.2.1 = y.2.1) ∨ x.1 = k ∧ x.2.1 = b := by
  intro x hx
  unfold putX at hx
  split at hx
  · obtain ⟨y, hy, rfl⟩ := List.mem_map.mp hx
    refine .inl ⟨y, hy, ?_⟩
    split <;> exact ⟨rfl, rfl⟩
  · rcases List.mem_append.mp hx with hx | hx
    · exact .inl ⟨x, hx, rfl, rfl⟩
    · rw [List.mem_singleton] at hx
      subst hx
      exact .inr ⟨rfl, rfl⟩
theorem putX_len {xs : List (NestedKey × Addr × V)} {k : NestedKey} {b : Addr} {v : V} : (putX xs k b v).length ≤ xs.length + 1 := by
  unfold putX
  split
  · simp
  · simp
theorem putX_fst {xs : List (NestedKey × Addr × V)} {k : NestedKey} {b : Addr} {v : V} : (putX xs k b v).map (·.1) = if (xs.any fun x => decide (x.1 = k)) = true then xs.map (·.1) else xs.map (·.1) ++ [k] := by
  unfold putX
  split
  · rw [List.map_map]
    refine List.map_congr_left fun x _ => ?_
    simp only [Function.comp]
    split <;> rfl
  · simp
theorem putX_nd {xs : List (NestedKey × Addr × V)} {k : NestedKey} {b : Addr} {v : V} (h : (xs.map (·.1)).Nodup) : ((putX xs k b v).map (·.1)).Nodup := by
  rw [putX_fst]
  split
  · exact h
  · rename_i hn
    rw [List.nodup_append]
    refine ⟨h, by simp, fun x hx y hy => ?_⟩
    rw [List.mem_singleton] at hy
    subst hy
    rintro rfl
    obtain ⟨z, hz, e⟩ := List.mem_map.mp hx
    exact hn (List.any_eq_true.mpr ⟨z, hz, by simpa using e⟩)
variable {y v : V} {u r : Value} {o : Option V} {A : Around} {E : Value → Shared → Prop}
end
section
variable {X : Cx} {o i e f value : Expr} {pos tpos apos : Pos} {td ty tv tx : TE}
end
end Mi
namespace PySem
section
variable {prog : Program} {w : World} {K : Type} [DecidableEq K] {knd : HeapKind prog w K} {A : Around} {E : Value → Shared → Prop} {s : Shared}
end
end PySem
namespace Mi
open PySem L2 PySem.Spec PyProof.Rows
section
variable {X : Cx} {de ke ve : Expr} {pos : Pos} {td tk tv : TE}
end
section
variable {K : PySem.W.Frag} {ad : Ad} {as : List Addr} {H : Hp} {st : Sto}
theorem NAt.put {a : Addr} {xs : List (NestedKey × Addr × V)} {k : NestedKey} {b : Addr} {v : V} {H' : Hp} {as' : List Addr} (n : NAt K ad as H a xs) (hl : xs.length < sizeLine) (ok : nkOk k = true) (rk : Rep K ad as H (.ref b) (kT k)) (e : Ext as H as' H') (h' : H' a = some (DN a (putX xs k b v))) : NAt K ad as' H' a (putX xs k b v) := by
  refine ⟨h', n.low, Nat.le_trans putX_len hl, putX_nd n.nd, fun x hx => ?_, fun x hx => ?_⟩
  · rcases putX_keys x hx with ⟨z, hz, e, _⟩ | ⟨e, _⟩
    · rw [e]; exact n.ok z hz
    · rw [e]; exact ok
  · rcases putX_keys x hx with ⟨z, hz, e1, e2⟩ | ⟨e1, e2⟩
    · rw [e1, e2]; exact (n.ks z hz).ext e
    · rw [e1, e2]; exact rk.ext e
end
section
variable {X : Cx} {ad : Ad} {W : WX} {pos tpos apos : Pos} {o i e f value : Expr}
end
end Mi
namespace Mi
open PySem L2
section
variable {X : Cx} {ad : Ad} {W : WX} {pos p p' pos' : Pos} {a b : Expr} {ma mb : M T}
end
section
variable {m m' : M T} {ρ : Sl} {st : Sto} {Q : T → Sto → Prop} {E : Exn → Sto → Prop}
end
end Mi
namespace Mi
open PySem L2
section
variable {X : Cx} {W : WX} {k : Nat}
end
section
variable {st : Sto} {ρ : Sl} {y0 : Option T} {Q : T → Sto → Prop} {E : Exn → Sto → Prop} {N : Sl → Sto → Prop} {Rt : T → Sto → Prop} {B C : Sl → Sto → Prop} {Ex : Exn → Sl → Sto → Prop}
end
def nkI (k : List Int) : NestedKey := .tup (k.map .num)
theorem nkI_inj {a b : List Int} : nkI a = nkI b ↔ a = b := by
  unfold nkI
  constructor
  · intro h
    injection h with h
    exact (List.map_inj_right (fun x y e => by injection e)).mp h
  · rintro rfl; rfl
end Mi
namespace Mi
open PySem L2
def P.be (p : P) (i : Nat) : List Nat := (p.bs [] 0).getD i []
def P.ke (p : P) (i : Nat) : List Int := (p.hs [-1] 0).getD i []
theorem P.be_al (p : P) (i : Nat) (h : i < p.al.length) : p.be i = p.al[i].bef := by
  have e : p.al.map Al.bef = p.bs [] 0 := P.all_bef p hm0 [] 0 [] [] 0
  unfold P.be
  rw [← e]
  simp [h]
theorem P.be_lt (p : P) {i j : Nat} (h : j ∈ p.be i) : j < i ∧ i < p.o := by
  by_cases hi : i < p.al.length
  · rw [P.be_al p i hi] at h
    have := (P.all_befOk p hm0 [] 0 [] [] 0 (by simp) p.al[i] (List.getElem_mem _)).lt j h
    rw [P.al_no] at this
    exact ⟨this, by rw [← P.al_len p]; exact hi⟩
  · unfold P.be at h
    rw [List.getD_eq_getElem?_getD, List.getElem?_eq_none (by rw [P.bs_len, ← P.al_len p]; omega)] at h
    cases h
structure Pre (p : P) (l : List Nat) : Prop where
  nd : l.Nodup
  lt : ∀ i ∈ l, i < p.o
  be : ∀ a i b, l = a ++ i :: b → ∀ j ∈ p.be i, j ∈ a
theorem Pre.nil (p : P) : Pre p [] := ⟨.nil, by simp, fun a i b h => by simp at h⟩
theorem nd_sub {α : Type} [DecidableEq α] : ∀ {l m : List α}, l.Nodup → (∀ a ∈ l, a ∈ m) → l.length ≤ m.length
  | [], m, _, _ => Nat.zero_le _
  | a :: l, m, hn, hs => by
    rw [List.nodup_cons] at hn
    have h1 := hs a (List.mem_cons_self ..)
    have := nd_sub (m := m.erase a) hn.2 fun b hb => (List.mem_erase_of_ne (fun e => hn.1 (by rw [← e]; exact hb))).mpr (hs b (List.mem_cons_of_mem _ hb))
    rw [List.length_erase_of_mem h1] at this
    have := List.length_pos_of_mem h1
    rw [List.length_cons]
    omega
theorem Pre.len {p : P} {l : List Nat} (h : Pre p l) : l.length ≤ p.o := by
  have := nd_sub h.nd (m := List.range p.o) fun i hi => List.mem_range.mpr (h.lt i hi)
  simpa using this
theorem Pre.all {p : P} {l : List Nat} (h : Pre p l) (hl : l.length = p.o) {i : Nat} (hi : i < p.o) : i ∈ l := by
  apply Classical.byContradiction
  intro hn
  have := nd_sub (List.nodup_cons.mpr ⟨hn, h.nd⟩) (m := List.range p.o) fun j hj => List.mem_range.mpr (by
    rcases List.mem_cons.mp hj with rfl | hj
    · exact hi
    · exact h.lt j hj)
  simp at this
  omega
theorem least {Q : Nat → Prop} : ∀ n, Q n → ∃ m, Q m ∧ m ≤ n ∧ ∀ j, j < m → ¬ Q j := by
  intro n
  induction n using Nat.strongRecOn with
  | _ n ih =>
    intro hn
    by_cases h : ∃ j, j < n ∧ Q j
    · obtain ⟨j, h1, h2⟩ := h
      obtain ⟨m, h3, h4, h5⟩ := ih j h1 h2
      exact ⟨m, h3, by omega, h5⟩
    · exact ⟨n, hn, Nat.le_refl _, fun j hj hq => h ⟨j, hj, hq⟩⟩
def P.rdy (p : P) (l : List Nat) (i : Nat) : Bool := decide (i ∉ l) && (p.be i).all fun j => decide (j ∈ l)
def P.ready (p : P) (l : List Nat) : List Nat := (List.range p.o).filter (p.rdy l)
theorem P.mem_ready {p : P} {l : List Nat} {i : Nat} : i ∈ p.ready l ↔ i < p.o ∧ i ∉ l ∧ ∀ j ∈ p.be i, j ∈ l := by
  simp [P.ready, P.rdy]
theorem Pre.snoc {p : P} {l : List Nat} (h : Pre p l) {i : Nat} (hi : i ∈ p.ready l) : Pre p (l ++ [i]) := by
  obtain ⟨h1, h2, h3⟩ := P.mem_ready.mp hi
  refine ⟨List.nodup_append.mpr ⟨h.nd, by simp, fun a ha b hb => ?_⟩, fun j hj => ?_, fun a j b e k hk => ?_⟩
  · rw [List.mem_singleton] at hb
    subst hb
    exact fun e => h2 (e ▸ ha)
  · rcases List.mem_append.mp hj with hj | hj
    · exact h.lt j hj
    · rw [List.mem_singleton] at hj; omega
  · rcases List.eq_nil_or_concat b with rfl | ⟨b', c, rfl⟩
    · obtain ⟨e1, e2⟩ := List.append_inj' e rfl
      cases e2
      exact e1 ▸ h3 k hk
    · have e' : l ++ [i] = (a ++ j :: b') ++ [c] := by rw [e]; simp
      obtain ⟨e1, e2⟩ := List.append_inj' e' rfl
      exact h.be a j b' e1 k hk
theorem Pre.range (p : P) : Pre p (List.range p.o) := by
  refine ⟨List.nodup_range, fun i hi => List.mem_range.mp hi, fun a i b e j hj => ?_⟩
  have hl : (List.range p.o)[a.length]? = some i := by rw [e]; simp
  obtain ⟨h1, h2⟩ := List.getElem?_eq_some_iff.mp hl
  rw [List.getElem_range] at h2
  have hji := (P.be_lt p hj).1
  have h3 : (List.range p.o)[j]? = some j := by
    rw [List.getElem?_eq_some_iff]
    have : j < p.o := by have := (P.be_lt p hj).2; omega
    exact ⟨by simpa using this, by simp⟩
  rw [e, List.getElem?_append_left (by omega)] at h3
  exact List.mem_of_getElem? h3
theorem Pre.take {p : P} {l a b : List Nat} (h : Pre p l) (e : l = a ++ b) : Pre p a := by
  subst e
  refine ⟨(List.nodup_append.mp h.nd).1, fun i hi => h.lt i (List.mem_append_left _ hi), fun c i d e j hj => h.be c i (d ++ b) (by rw [e]; simp) j hj⟩
def onS (hs : List (List Int)) (l : List Nat) (k : List Int) : List Nat := l.filter fun i => decide (hs.getD i [] = k)
theorem onS_snoc (hs : List (List Int)) (l : List Nat) (i : Nat) (k : List Int) : onS hs (l ++ [i]) k = if hs.getD i [] = k then onS hs l k ++ [i] else onS hs l k := by
  unfold onS
  rw [List.filter_append]
  by_cases h : hs.getD i [] = k
  · rw [if_pos h, List.filter_cons_of_pos (by simpa using h), List.filter_nil]
  · rw [if_neg h, List.filter_cons_of_neg (by simpa using h), List.filter_nil, List.append_nil]
theorem valG_putG {κ : Type} [DecidableEq κ] (kvs : List (κ × T)) (k k' : κ) (v : T) : valG (putG kvs k v) k' = if k' = k then some v else valG kvs k' := by
  unfold putG
  split
  · rename_i h
    induction kvs with
    | nil => simp at h
    | cons x kvs ih =>
      unfold valG at ih ⊢
      rw [List.map_cons, List.find?_cons, List.find?_cons]
      by_cases e : x.1 = k
      · simp only [e, if_true]
        by_cases e2 : k' = k
        · subst e2; simp
        · have e3 : ¬ k = k' := fun h => e2 h.symm
          simp only [e2, e3, decide_false, if_false]
          clear ih h
          induction kvs with
          | nil => rfl
          | cons y kvs ih =>
            rw [List.map_cons, List.find?_cons, List.find?_cons]
            by_cases e4 : y.1 = k
            · simp only [e4, if_true, e3, decide_false]; exact ih
            · simp only [e4, if_false]
              by_cases e5 : y.1 = k'
              · simp [e5]
              · simp only [e5, decide_false]; exact ih
      · simp only [e, if_false]
        have h' : (kvs.any fun kv => decide (kv.1 = k)) = true := by simpa [e] using h
        by_cases e2 : x.1 = k'
        · have : ¬ k' = k := fun hh => e (e2.trans hh)
          simp [e2, this]
        · simp only [e2, decide_false]
          exact ih h'
  · rename_i h
    unfold valG
    rw [List.find?_append]
    by_cases e : k' = k
    · subst e
      have : kvs.find? (fun kv => decide (kv.1 = k')) = none := by
        rw [List.find?_eq_none]
        intro x hx hh
        exact h (List.any_eq_true.mpr ⟨x, hx, hh⟩)
      rw [this]; simp
    · have : ¬ k = k' := fun hh => e hh.symm
      simp [e, this]
theorem putG_keys {κ : Type} [DecidableEq κ] (kvs : List (κ × T)) (k : κ) (v : T) : (putG kvs k v).map (·.1) = if k ∈ kvs.map (·.1) then kvs.map (·.1) else kvs.map (·.1) ++ [k] := by
  have e : (kvs.any fun kv => decide (kv.1 = k)) = true ↔ k ∈ kvs.map (·.1) := by
    rw [List.any_eq_true]
    constructor
    · rintro ⟨x, hx, h⟩
      rw [← of_decide_eq_true h]
      exact List.mem_map_of_mem hx
    · intro h
      obtain ⟨x, hx, rfl⟩ := List.mem_map.mp h
      exact ⟨x, hx, by simp⟩
  unfold putG
  by_cases h : k ∈ kvs.map (·.1)
  · rw [if_pos (e.mpr h), if_pos h, List.map_map]
    refine List.map_congr_left fun x _ => ?_
    simp only [Function.comp_apply]
    split <;> rfl
  · rw [if_neg (fun hh => h (e.mp hh)), if_neg h, List.map_append]
    rfl
structure DictOf (hs : List (List Int)) (l : List Nat) (kvs : List (NestedKey × T)) : Prop where
  val : ∀ k, valG kvs (nkI k) = if onS hs l k = [] then none else some (numL (onS hs l k))
  keys : ∃ ks : List (List Int), kvs.map (·.1) = ks.map nkI ∧ ks.Nodup ∧ ∀ k ∈ ks, ∃ i ∈ l, hs.getD i [] = k
theorem DictOf.nil (hs : List (List Int)) : DictOf hs [] [] := ⟨fun k => rfl, [], rfl, .nil, by simp⟩
theorem DictOf.get {hs : List (List Int)} {l : List Nat} {kvs : List (NestedKey × T)} (h : DictOf hs l kvs) (k : List Int) : (valG kvs (nkI k)).getD (.lst []) = numL (onS hs l k) := by
  rw [h.val]
  split
  · rename_i e; rw [e]; rfl
  · rfl
theorem DictOf.add {hs : List (List Int)} {l : List Nat} {kvs : List (NestedKey × T)} (h : DictOf hs l kvs) (i : Nat) : DictOf hs (l ++ [i]) (putG kvs (nkI (hs.getD i [])) (numL (onS hs l (hs.getD i []) ++ [i]))) := by
  refine ⟨fun k => ?_, ?_⟩
  · rw [valG_putG, onS_snoc]
    by_cases e : hs.getD i [] = k
    · subst e; simp
    · have : ¬ k = hs.getD i [] := fun h => e h.symm
      rw [if_neg e, if_neg (fun hh => this (nkI_inj.mp hh)), h.val]
  · obtain ⟨ks, h1, h2, h3⟩ := h.keys
    rw [putG_keys, h1]
    by_cases e : hs.getD i [] ∈ ks
    · rw [if_pos (List.mem_map_of_mem e)]
      exact ⟨ks, rfl, h2, fun k hk => by
        obtain ⟨j, hj, hh⟩ := h3 k hk
        exact ⟨j, List.mem_append_left _ hj, hh⟩⟩
    · rw [if_neg (fun hh => by
        obtain ⟨x, hx, hh⟩ := List.mem_map.mp hh
        exact e (nkI_inj.mp hh ▸ hx))]
      refine ⟨ks ++ [hs.getD i []], by simp, List.nodup_append.mpr ⟨h2, by simp, fun a ha b hb => ?_⟩, fun k hk => ?_⟩
      · rw [List.mem_singleton] at hb
        subst hb
        exact fun hh => e (hh ▸ ha)
      · rcases List.mem_append.mp hk with hk | hk
        · obtain ⟨j, hj, hh⟩ := h3 k hk
          exact ⟨j, List.mem_append_left _ hj, hh⟩
        · rw [List.mem_singleton] at hk
          exact ⟨i, by simp, hk.symm⟩
theorem DictOf.len {hs : List (List Int)} {l : List Nat} {kvs : List (NestedKey × T)} (h : DictOf hs l kvs) : kvs.length ≤ l.length := by
  obtain ⟨ks, h1, h2, h3⟩ := h.keys
  have e : kvs.length = ks.length := by simpa using congrArg List.length h1
  have := nd_sub h2 (m := l.map fun i => hs.getD i []) fun k hk => by
    obtain ⟨i, hi, hh⟩ := h3 k hk
    exact List.mem_map.mpr ⟨i, hi, hh⟩
  rw [e]
  simpa using this
def ixS (hs : List (List Int)) (l : List Nat) (i : Nat) : Nat := (onS hs l (hs.getD i [])).idxOf i
theorem onS_mem {hs : List (List Int)} {l : List Nat} {i : Nat} (h : i ∈ l) : i ∈ onS hs l (hs.getD i []) := List.mem_filter.mpr ⟨h, by simp⟩
inductive PathR (hs : List (List Int)) (ix : Nat → Nat) : Nat → List Int → List Int → Prop where
  | root (m : Nat) : PathR hs ix m [-1] []
  | name {m : Nat} {k q : List Int} (a : Int) : k ≠ [] → PathR hs ix m k q → PathR hs ix (m + 1) (k ++ [a]) (q ++ [-1 - a])
  | split {m j : Nat} {q : List Int} : j < hs.length → PathR hs ix m (hs.getD j []) q → PathR hs ix (m + 1) [(j : Int)] (q ++ [(ix j : Int)])
theorem PathR.mono {hs : List (List Int)} {ix : Nat → Nat} {m m' : Nat} {k q : List Int} (h : PathR hs ix m k q) (hm : m ≤ m') : PathR hs ix m' k q := by
  induction h generalizing m' with
  | root m => exact .root _
  | name a hk _ ih =>
    obtain ⟨m', rfl⟩ : ∃ x, m' = x + 1 := ⟨m' - 1, by omega⟩
    exact .name a hk (ih (by omega))
  | split hj _ ih =>
    obtain ⟨m', rfl⟩ : ∃ x, m' = x + 1 := ⟨m' - 1, by omega⟩
    exact .split hj (ih (by omega))
theorem PathR.len {hs : List (List Int)} {ix : Nat → Nat} {m : Nat} {k q : List Int} (h : PathR hs ix m k q) : q.length ≤ m := by
  induction h with
  | root m => exact Nat.zero_le _
  | name a hk _ ih => simp; omega
  | split hj _ ih => simp; omega
section
variable {hs : List (List Int)} {ix : Nat → Nat}
end
end Mi
namespace Mi
open PySem L2 PySem.Spec PyProof.Rows
section
variable {X : Cx}
end
section
variable {K : PySem.W.Frag} {ad : Ad} {as as1 : List Addr} {H H1 : Hp} {st : Sto} {D : Addr} {w : World} {S : Int → Bool} {c : Nat}
structure ScAt (w : World) (D : Addr) (acc : List Int) (H : Hp) : Prop where
  ex : ∃ S c, H D = some (SetO w D S c) ∧ (∀ k, S k = true ↔ k ∈ acc) ∧ c ≤ acc.length
theorem ScAt.nil : ScAt w D [] (upd H D (SetO w D (fun _ => false) 0)) := ⟨_, _, upd_same, by simp, Nat.le_refl _⟩
end
section
variable {K : PySem.W.Frag} {ad : Ad} {W : WX} {w : World}
end
section
variable {X : Cx} {ad : Ad} {W : WX} {pos p pos2 : Pos}
end
end Mi
namespace Mi
open PySem L2
section
variable {X : Cx} {ad : Ad} {W : WX} {pos p apos : Pos} {e f o : Expr}
end
section
variable {st : Sto} {ρ : Sl} {y0 : Option T} {Q : T → Sto → Prop} {E : Exn → Sto → Prop}
end
section
variable {g : T → Sl → Option Sl} {tt : M Bool} {elt : M T} {ρ : Sl} {st : Sto} {r : Nat}
variable {y0 : Option T} {Q : T → Sto → Prop} {E : Exn → Sto → Prop}
end
section
variable {g : T → Sl → Option Sl} {tt : M Bool} {elt : M T} {ρ : Sl} {st : Sto} {Q : T → Sto → Prop} {E : Exn → Sto → Prop}
end
end Mi
namespace Mi
open PySem L2
section
variable {hs : List (List Int)} {ix : Nat → Nat}
structure IxOk (hs : List (List Int)) (ix : Nat → Nat) : Prop where
  inj : ∀ i j, i < hs.length → j < hs.length → hs.getD i [] = hs.getD j [] → ix i = ix j → i = j
inductive PathN (hs : List (List Int)) (ix : Nat → Nat) : List Int → List Int → Prop where
  | root : PathN hs ix [-1] []
  | name {k q : List Int} (a : Int) : 0 ≤ a → k ≠ [] → PathN hs ix k q → PathN hs ix (k ++ [a]) (q ++ [-1 - a])
  | split {j : Nat} {q : List Int} : j < hs.length → PathN hs ix (hs.getD j []) q → PathN hs ix [(j : Int)] (q ++ [(ix j : Int)])
theorem PathN.inj (ok : IxOk hs ix) {k k' q : List Int} (h : PathN hs ix k q) (h' : PathN hs ix k' q) : k = k' := by
  induction h generalizing k' with
  | root => 
    generalize e : ([] : List Int) = r at h'
    cases h' with
    | root => rfl
    | name a _ _ _ => simp at e
    | split _ _ => simp at e
  | @name k q a ha hk hq ih =>
    generalize e : q ++ [-1 - a] = r at h'
    cases h' with
    | root => simp at e
    | @name k2 q2 b hb hk2 hq2 =>
      obtain ⟨e1, e2⟩ := List.append_inj' e rfl
      have e2 : -1 - a = -1 - b := by simpa using e2
      subst e1
      rw [ih hq2, show a = b by omega]
    | @split j q2 hj hq2 =>
      obtain ⟨_, e2⟩ := List.append_inj' e rfl
      have e2 : -1 - a = (ix j : Int) := by simpa using e2
      omega
  | @split j q hj hq ih =>
    generalize e : q ++ [(ix j : Int)] = r at h'
    cases h' with
    | root => simp at e
    | @name k2 q2 b hb hk2 hq2 =>
      obtain ⟨_, e2⟩ := List.append_inj' e rfl
      have e2 : (ix j : Int) = -1 - b := by simpa using e2
      omega
    | @split j2 q2 hj2 hq2 =>
      obtain ⟨e1, e2⟩ := List.append_inj' e rfl
      have e2 : (ix j : Int) = (ix j2 : Int) := by simpa using e2
      subst e1
      rw [ok.inj j j2 hj hj2 (ih hq2) (by omega)]
theorem PathN.pre {k q : List Int} (h : PathN hs ix k q) : ∀ n, n ≤ q.length → ∃ k', PathN hs ix k' (q.take n) := by
  induction h with
  | root => exact fun n hn => ⟨[-1], by simpa using PathN.root⟩
  | @name k q a ha hk hq ih =>
    intro n hn
    by_cases e : n = (q ++ [-1 - a]).length
    · rw [e, List.take_length]; exact ⟨_, .name a ha hk hq⟩
    · simp at hn e
      rw [List.take_append_of_le_length (by omega)]
      exact ih n (by omega)
  | @split j q hj hq ih =>
    intro n hn
    by_cases e : n = (q ++ [(ix j : Int)]).length
    · rw [e, List.take_length]; exact ⟨_, .split hj hq⟩
    · simp at hn e
      rw [List.take_append_of_le_length (by omega)]
      exact ih n (by omega)
theorem PathN.step (ok : IxOk hs ix) {k k' q : List Int} {x : Int} (h : PathN hs ix k q) (h' : PathN hs ix k' (q ++ [x])) : (∃ a, 0 ≤ a ∧ x = -1 - a ∧ k' = k ++ [a]) ∨ ∃ j, j < hs.length ∧ hs.getD j [] = k ∧ x = (ix j : Int) ∧ k' = [(j : Int)] := by
  generalize e : q ++ [x] = r at h'
  cases h' with
  | root => simp at e
  | @name k2 q2 b hb hk2 hq2 =>
    obtain ⟨e1, e2⟩ := List.append_inj' e rfl
    subst e1
    rw [h.inj ok hq2]
    exact .inl ⟨b, hb, by simpa using e2, rfl⟩
  | @split j q2 hj hq2 =>
    obtain ⟨e1, e2⟩ := List.append_inj' e rfl
    subst e1
    exact .inr ⟨j, hj, (h.inj ok hq2).symm, by simpa using e2, rfl⟩
end
structure IDict (ks : List Int) (g : Int → T) (d : List (Key × T)) : Prop where
  val : ∀ x : Int, valG d (.inl x) = if x ∈ ks then some (g x) else none
  keys : ∃ l : List Int, d.map (·.1) = l.map Sum.inl ∧ l.Nodup ∧ ∀ x, x ∈ l ↔ x ∈ ks
theorem IDict.nil (g : Int → T) : IDict [] g [] := ⟨fun x => rfl, [], rfl, .nil, fun x => Iff.rfl⟩
theorem IDict.put {ks : List Int} {g : Int → T} {d : List (Key × T)} (h : IDict ks g d) (x : Int) : IDict (ks ++ [x]) g (putG d (.inl x) (g x)) := by
  refine ⟨fun y => ?_, ?_⟩
  · rw [valG_putG]
    by_cases e : y = x
    · subst e; simp
    · rw [if_neg (by intro h; exact e (Sum.inl.inj h)), h.val]
      simp [e]
  · obtain ⟨l, h1, h2, h3⟩ := h.keys
    rw [putG_keys, h1]
    by_cases e : x ∈ l
    · rw [if_pos (List.mem_map_of_mem e)]
      refine ⟨l, rfl, h2, fun y => ?_⟩
      rw [h3, List.mem_append, List.mem_singleton]
      constructor
      · exact .inl
      · rintro (h | rfl)
        · exact h
        · exact (h3 _).mp e
    · rw [if_neg (fun hh => by
        obtain ⟨z, hz, hh⟩ := List.mem_map.mp hh
        exact e (Sum.inl.inj hh ▸ hz))]
      refine ⟨l ++ [x], by simp, List.nodup_append.mpr ⟨h2, by simp, fun a ha b hb => ?_⟩, fun y => ?_⟩
      · rw [List.mem_singleton] at hb
        subst hb
        exact fun hh => e (hh ▸ ha)
      · simp only [List.mem_append, List.mem_singleton, h3]
theorem IDict.len {ks : List Int} {g : Int → T} {d : List (Key × T)} (h : IDict ks g d) : d.length ≤ ks.length := by
  obtain ⟨l, h1, h2, h3⟩ := h.keys
  have e : d.length = l.length := by simpa using congrArg List.length h1
  rw [e]
  exact nd_sub h2 fun x hx => (h3 x).mp hx
theorem PathN.ne {hs : List (List Int)} {ix : Nat → Nat} {k q : List Int} (h : PathN hs ix k q) : k ≠ [] := by
  cases h <;> simp
theorem PathN.fn {hs : List (List Int)} {ix : Nat → Nat} {k q q' : List Int} (h : PathN hs ix k q) (h' : PathN hs ix k q') : q = q' := by
  induction h generalizing q' with
  | root =>
    generalize e : [(-1 : Int)] = r at h'
    cases h' with
    | root => rfl
    | @name k2 q2 b hb hk2 hq2 =>
      have := congrArg List.length e
      simp at this
      exact absurd this hk2
    | @split j q2 hj hq2 => simp at e
  | @name k q a ha hk hq ih =>
    generalize e : k ++ [a] = r at h'
    cases h' with
    | root =>
      have := congrArg List.length e
      simp at this
      exact absurd this hk
    | @name k2 q2 b hb hk2 hq2 =>
      obtain ⟨e1, e2⟩ := List.append_inj' e rfl
      have e2 : a = b := by simpa using e2
      subst e1 e2
      rw [ih hq2]
    | @split j q2 hj hq2 =>
      have := congrArg List.length e
      simp at this
      exact absurd this hk
  | @split j q hj hq ih =>
    generalize e : [(j : Int)] = r at h'
    cases h' with
    | root => simp at e
    | @name k2 q2 b hb hk2 hq2 =>
      have := congrArg List.length e
      simp at this
      exact absurd this hk2
    | @split j2 q2 hj2 hq2 =>
      have e : j = j2 := by simp at e; omega
      subst e
      rw [ih hq2]
abbrev Mk := List Int × Nat × Int
structure RecOk (us : List T) (hs : List (List Int)) (l : List Nat) (pa : Nat → List Int) (ms : List Mk) : Prop where
  nd : l.Nodup
  mem : ∀ i, i ∈ l ↔ i < hs.length
  path : ∀ i, i < hs.length → PathN hs (ixS hs l) (hs.getD i []) (pa i)
  head : ∀ k ∈ hs, ∀ (j : Nat) (r : List Int), k = (j : Int) :: r → us.getD j .non = .non
  use : ∀ i, i < hs.length → us.getD i .non = .non ∨ ∃ u : Int, 0 ≤ u ∧ us.getD i .non = .int u
  mark : ∀ m, m ∈ ms ↔ ∃ i, i < hs.length ∧ ∃ u : Int, 0 < u ∧ us.getD i .non = .int u ∧ m = (pa i, ixS hs l i, u)
section
variable {us : List T} {hs : List (List Int)} {l : List Nat} {pa : Nat → List Int} {ms : List Mk}
theorem RecOk.ix (R : RecOk us hs l pa ms) : IxOk hs (ixS hs l) := ⟨fun i j hi hj e e2 => by
  have h1 : i ∈ onS hs l (hs.getD i []) := onS_mem ((R.mem i).mpr hi)
  have h2 : j ∈ onS hs l (hs.getD i []) := by rw [e]; exact onS_mem ((R.mem j).mpr hj)
  unfold ixS at e2
  rw [← e] at e2
  have a1 := List.getElem_idxOf (List.idxOf_lt_length_iff.mpr h1)
  have a2 := List.getElem_idxOf (List.idxOf_lt_length_iff.mpr h2)
  rw [← a1, ← a2]
  simp only [e2]⟩
theorem PathN.names {ix : Nat → Nat} {k p : List Int} (h : PathN hs ix k p) : ∀ x ∈ k.tail, 0 ≤ x := by
  induction h with
  | root => simp
  | @name k p a ha hk hq ih =>
    intro x hx
    cases k with
    | nil => exact absurd rfl hk
    | cons b k =>
      simp at hx
      rcases hx with hx | rfl
      · exact ih x hx
      · exact ha
  | split hj _ _ => simp
end
structure ST (n : Nat) (t : T) : Prop where
  tr : t.tr = true
  nd : t.nd = true
  dp : t.dep ≤ n
theorem ST.sh {n : Nat} {t : T} (h : ST n t) (hn : n ≤ 64) : shaped t = true := T.tr_shaped h.tr h.nd (Nat.le_trans h.dp hn)
theorem ST.mono {n m : Nat} {t : T} (h : ST n t) (hn : n ≤ m) : ST m t := ⟨h.tr, h.nd, Nat.le_trans h.dp hn⟩
theorem STs {n : Nat} : ∀ {ts : List T}, (∀ t ∈ ts, ST n t) → T.trs ts = true ∧ T.nds ts = true ∧ T.deps ts ≤ n
  | [], _ => ⟨rfl, rfl, by simp [T.deps]⟩
  | t :: ts, h => by
    obtain ⟨a, b, c⟩ := STs fun u hu => h u (List.mem_cons_of_mem _ hu)
    have ht := h t (List.mem_cons_self ..)
    have := ht.dp
    exact ⟨by simp [T.trs, ht.tr, a], by simp [T.nds, ht.nd, b], by simp only [T.deps]; omega⟩
theorem ST.tup {n : Nat} {ts : List T} (h : ∀ t ∈ ts, ST n t) : ST (n + 1) (.tup ts) := by
  obtain ⟨a, b, c⟩ := STs h
  exact ⟨by simp [T.tr, a], by simp [T.nd, b], by simp only [T.dep]; omega⟩
theorem ST.lst {n : Nat} {ts : List T} (h : ∀ t ∈ ts, ST n t) : ST (n + 1) (.lst ts) := by
  obtain ⟨a, b, c⟩ := STs h
  exact ⟨by simp [T.tr, a], by simp [T.nd, b], by simp only [T.dep]; omega⟩
theorem ST.int {v : Int} (h : v.natAbs < 32) : ST 0 (.int v) := ⟨(BT.int h).tr, (BT.int h).nd, (BT.int h).dp⟩
end Mi
namespace Mi
open PySem L2 PySem.Spec PyProof.Rows
structure GsOk (P : Program) (w : World) (K : PySem.W.Frag) (mg : Str → Option Value) (base : Heap) (k n : Nat) (f : Addr) (sp : Sp) : Prop where
  run : ∀ (A : Around) (outer : List PySem.Env) (s : Shared) (H : Hp) (us : List Value) (ws rest : List V) (Q : VK) (E : XK),
    Room k A → A.guards = some [] → Env0 P w K mg base A outer s H → Vals (ws ++ rest) us → ws.length = n → rest.length ≤ sizeLine → (∀ p, H p = none → sp (ws ++ [.ref p]) (upd H p (.tup rest)) Q E) →
      codeAny (model P w) A (.call (.ref f) ⟨us, []⟩) (CR (MCX P w) outer P w H s Q E) s
section
variable {P : Program} {w : World} {K : PySem.W.Frag} {mg : Str → Option Value} {base : Heap} {ad : Ad}
theorem GsOk.mono {f : Addr} {sp : Sp} {j k n : Nat} (F : GsOk P w K mg base j n f sp) (h : j ≤ k) : GsOk P w K mg base k n f sp :=
  ⟨fun A outer s H us ws rest Q E hr => F.run A outer s H us ws rest Q E (hr.mono h)⟩
theorem gs_none {f : Addr} {k n m : Nat} : GsOk P w K mg base k n f (spF K ad m fun _ _ => .bad) :=
  ⟨fun A outer s H us ws rest Q E _ _ e0 _ _ _ h => by
    obtain ⟨_, _, _, _, _, _, _, q⟩ := h s.heap.objs.size (e0.hok.fresh (Nat.le_refl _))
    exact q.elim⟩
theorem gs_ok {x qual pv : Str} {st : Stmt} {f : Addr} {fd : FuncData} {N ps : List Str} {k n m : Nat} {body : SM} (F : FunA K x qual st f fd) (S : FnScope N (ps ++ [pv]) (defScope st)) (hsm : ∃ o, base.get? sysModules = some o) (hn : ps.length = n) (hm : n + 1 = m)
    (hb : ∀ us rest : List Value, us.length = n → bindArgs fd ⟨us ++ rest, []⟩ = (newTuple rest >>= fun t => pure (ps.zip us ++ [(pv, t)])))
    (hbody : ∀ (cdv : Value) (A : Around) (outer : List PySem.Env) (s : Shared) (H : Hp) (E : XK), Sit (cxOf (MCX P w) P w K mg base N qual (defScope st) f cdv A outer s H E) (fun c d _ H => E c d H) k →
      PMSs (cxOf (MCX P w) P w K mg base N qual (defScope st) f cdv A outer s H E) ad (fun c d _ H => E c d H) (defBody st) body) :
    GsOk P w K mg base (k + 1) n f (spF K ad m (runF N.length body)) := by
  obtain ⟨oc, od, dV, kV, doc, pm, an, cdv, ct, osl, rfl, lk, hcd⟩ := F.ex
  refine ⟨fun A outer s H us ws rest Q E hr hg e0 r hl hz hsp => ?_⟩
  obtain ⟨u1, u2, eu, r1, r2⟩ := StX.vals_split r
  subst eu
  have hn0 : H s.heap.objs.size = none := e0.hok.fresh (Nat.le_refl _)
  have hl1 : u1.length = n := by rw [← r1.length]; exact hl
  have hl2 : u2.length ≤ sizeLine := by rw [← r2.length]; exact hz
  refine StX.run_bnd lk hcd S hr e0 (G := fun xs H2 => ∃ p, H p = none ∧ xs = ws ++ [V.ref p] ∧ H2 = upd H p (.tup rest)) (fun A' Ex Q' h => ?_) fun s2 H2 xs ⟨p, hp, ex, eH⟩ hr' => ?_
  · rw [hb u1 u2 hl1]
    refine wpAny_bind (wpAny_newTuple (wpAny_pure ?_) hl2)
    have new : ObjOk P w (upd H s.heap.objs.size (.tup rest)) (s.heap.push ({ cls := .type "tuple", data := .seq u2.toArray } : Obj)) s.heap.objs.size (.tup rest) := ⟨hz, u2, r2, ⟨_, Heap.get?_push_size _ rfl, rfl, _, rfl⟩⟩
    have un := StX.un_laid (fs := frs outer) (s := s) (o := ({ cls := .type "tuple", data := .seq u2.toArray } : Obj)) (u := .tup rest) hn0
    have z := h _ _ (ws ++ [V.ref s.heap.objs.size]) (u1 ++ [Value.ref s.heap.objs.size]) (StX.env0_laid e0 new) un rfl (fun e s' => StX.cxUp outer s H _ _ E e s' un (fun b o q => Heap.get?_push_of_some _ q) rfl) (r1.append (.cons rfl .nil))
      (by rw [List.length_append, List.length_append, hl, hn]; rfl) ⟨_, hn0, rfl, rfl⟩
    rw [List.zip_append (by rw [hn, hl1])] at z
    exact z
  · subst ex eH
    obtain ⟨hl', hd, as, sto, ts, Ab0, rts, hq⟩ := hsp p hp
    have sit : Sit (cxOf (MCX P w) P w K mg base N qual (defScope st) f cdv A outer s2 (upd H p (.tup rest)) E) (fun c d _ H => E c d H) k :=
      ⟨rfl, hg, hr', takes_of rfl rfl rfl rfl, passes_of rfl, hsm⟩
    refine ⟨_, hbody cdv A outer s2 _ E sit, hd, _, as, sto, Ab0, start_en rts, ?_⟩
    unfold runF at hq
    revert hq
    generalize body (ts.map some ++ List.replicate (N.length - ts.length) none) sto = r
    intro hq
    cases r with
    | nx ρ st => exact fun as' H' σ' A e E => hq as' H' .non A e .non
    | rt t st => exact fun as' H' v A e r => hq as' H' v A e r
    | bk ρ st => exact hq.elim
    | ct ρ st => exact hq.elim
    | ex x ρ st => exact fun as' H' σ' u d A e _ r => hq as' H' u d A e r
    | bad => exact hq.elim
end
section
variable {X : Cx} {ad : Ad} {W : WX} {k n : Nat} {f : Addr} {F : List T → Sto → R T} {x : Str} {p pos : Pos} {e : Expr} {es : List Expr}
theorem run_gs {sp : Sp} {pins : List (Addr × Obj)} {σ : L2.St} {H : Hp} {s : Shared} {Q : VK} {us : List Value} {ws rest : List V} (G : GsOk X.prog X.w X.K X.mg X.base k n f sp) (S : Sit X W k)
    (I : Inv X pins σ H s) (r : Vals (ws ++ rest) us) (hl : ws.length = n) (hz : rest.length ≤ sizeLine) (h : ∀ p, H p = none → sp (ws ++ [.ref p]) (upd H p (.tup rest)) Q fun u d H' => W u d σ H') : wpAny (model X.prog X.w) X.A (call (.ref f) us) (EP X pins σ Q) X.xe s := by
  refine wpAny_call (codeAny_mono (G.run X.A X.stack s H us ws rest Q _ S.rm S.gd I.env0 r hl hz h) fun q s' hq => ?_)
  cases q with
  | error e => exact S.tk e s' (XE.of_call I (fun _ _ _ z => z) hq)
  | ok fl =>
    cases fl with
    | ret u => exact I.after hq
    | next => exact False.elim hq
    | brk => exact False.elim hq
    | cont => exact False.elim hq
def starF (n : Nat) (F : List T → Sto → R T) (ts : List T) (st : Sto) : R T := if n ≤ ts.length ∧ ts.length ≤ sizeLine then F (ts.take n ++ [.tup (ts.drop n)]) st else .bad
theorem star_post {hd : List Addr} {as : List Addr} {st : Sto} {H : Hp} {vs : List V} {ts : List T} {Q : VK} {W' : XK} (A : Ab X.K (ad.hide hd) as st H) (r : Reps X.K (ad.hide hd) as H vs ts) (q : Post X.K (ad.hide hd) (Rep X.K (ad.hide hd)) as H Q W' (starF n F ts st)) :
    n ≤ vs.length ∧ vs.length ≤ sizeLine ∧ ∀ p, H p = none → spF X.K ad (n + 1) F (vs.take n ++ [.ref p]) (upd H p (.tup (vs.drop n))) Q W' := by
  unfold starF at q
  split at q
  · rename_i h
    refine ⟨by rw [r.length]; exact h.1, by rw [r.length]; exact h.2, fun p hp => ?_⟩
    refine ⟨by rw [List.length_append, List.length_take, r.length, Nat.min_eq_left h.1]; rfl, hd, as, st, _, A.fresh hp, ((r.take n).ext (Ext.fresh hp)).append (.cons (rep_newTup A hp (r.drop n)) .nil), Post.ext (Ext.fresh hp) q⟩
  · exact q.elim
def mCallV (i n1 n2 : Nat) (F1 F2 : List T → Sto → R T) (ma : M (List T)) : M T := fun ρ st => match ρ[i]? with
  | some (some (.adr j)) => if j = n1 then (ma ρ st).bind (starF 0 F1) else if j = n2 then (ma ρ st).bind (starF 0 F2) else .bad
  | _ => .bad
theorem pm_callV {i n1 n2 : Nat} {F1 F2 : List T → Sto → R T} {ma : M (List T)} (hv : PE X (.Name x p) (tVar i)) (G1 : GsOk X.prog X.w X.K X.mg X.base k 0 (ad.fn n1) (spF X.K ad 1 F1)) (G2 : GsOk X.prog X.w X.K X.mg X.base k 0 (ad.fn n2) (spF X.K ad 1 F2)) (S : Sit X W k)
    (k1 : PySem.W.keepIn X.K (.ref (ad.fn n1)) = true) (k2 : PySem.W.keepIn X.K (.ref (ad.fn n2)) = true)
    (ha : PMA X ad W (e :: es) ma) (he : starEach (e :: es) X.env = (false, eval e X.env) :: starEach es X.env := by rfl) (hpl : (backTo pos (starEach es X.env)).any (·.1) = false := by rfl) :
    PM X ad W (.Call (.Name x p) (e :: es) [] pos) (mCallV i n1 n2 F1 F2 ma) := by
  refine ⟨fun pins s σ H Q I ⟨hd, ρ, as, st, A, E, q⟩ => wpAny_Call_Name_kw ?_⟩
  have go : ∀ (j : Nat) (F : List T → Sto → R T), ρ[i]? = some (some (.adr j)) → GsOk X.prog X.w X.K X.mg X.base k 0 (ad.fn j) (spF X.K ad 1 F) → PySem.W.keepIn X.K (.ref (ad.fn j)) = true →
      Post X.K (ad.hide hd) (Rep X.K (ad.hide hd)) as H Q (fun u d H' => W u d σ H') ((ma ρ st).bind (starF 0 F)) →
      wpAny (model X.prog X.w) X.A (eval (.Name x p) X.env) (fun v s' => wpAny (model X.prog X.w) X.A (callWith pos v [] (backTo pos (starEach (e :: es) X.env)) []) (EP X pins σ Q) X.xe s') X.xe s := fun j F ej G kp q => by
    obtain ⟨v, h1, h2⟩ := E.2 i _ ej
    obtain rfl : v = .ref (ad.fn j) := h2.adrI
    refine thn (hv.run pins s σ H (fun v H1 => v = .ref (ad.fn j) ∧ H1 = H) I ⟨_, h1, rfl, rfl⟩) fun u s0 ⟨vx, H0, I0, rx, ex, eH⟩ => ?_
    subst ex; subst eH
    obtain rfl : u = Value.ref (ad.fn j) := rx
    refine PySem.W.callWith_K (h₀ := X.base) I0.ok.mod.kin kp (thn (ha.run pos pins s0 σ H0 (fun vs H1 => 0 ≤ vs.length ∧ vs.length ≤ sizeLine ∧ ∀ p, H1 p = none → spF X.K ad 1 F (vs.take 0 ++ [.ref p]) (upd H1 p (.tup (vs.drop 0))) Q fun u d H' => W u d σ H') I0
      ⟨hd, ρ, as, st, A, E, Post.step q fun ts st1 as1 H1 vs A1 e1 r1 q1 => star_post A1 r1 q1⟩) fun us s1 ⟨vs, H1, I1, r, h1, h2, q⟩ => ⟨I1.kIn, ?_⟩) he hpl
    exact run_gs G S I1 (by rw [List.take_append_drop]; exact r) rfl (by rw [List.length_drop]; omega) q
  unfold mCallV at q
  split at q
  · rename_i j ej
    split at q
    · rename_i hj
      subst hj
      exact go _ _ ej G1 k1 q
    · split at q
      · rename_i hj
        subst hj
        exact go _ _ ej G2 k2 q
      · exact q.elim
  · exact q.elim
theorem pm_callV0 {i n1 n2 : Nat} {F1 F2 : List T → Sto → R T} (hv : PE X (.Name x p) (tVar i)) (G1 : GsOk X.prog X.w X.K X.mg X.base k 0 (ad.fn n1) (spF X.K ad 1 F1)) (G2 : GsOk X.prog X.w X.K X.mg X.base k 0 (ad.fn n2) (spF X.K ad 1 F2)) (S : Sit X W k)
    (k1 : PySem.W.keepIn X.K (.ref (ad.fn n1)) = true) (k2 : PySem.W.keepIn X.K (.ref (ad.fn n2)) = true) :
    PM X ad W (.Call (.Name x p) [] [] pos) (mCallV i n1 n2 F1 F2 mNil) := by
  refine ⟨fun pins s σ H Q I ⟨hd, ρ, as, st, A, E, q⟩ => wpAny_Call_Name_kw ?_⟩
  have go : ∀ (j : Nat) (F : List T → Sto → R T), ρ[i]? = some (some (.adr j)) → GsOk X.prog X.w X.K X.mg X.base k 0 (ad.fn j) (spF X.K ad 1 F) → PySem.W.keepIn X.K (.ref (ad.fn j)) = true →
      Post X.K (ad.hide hd) (Rep X.K (ad.hide hd)) as H Q (fun u d H' => W u d σ H') (starF 0 F [] st) →
      wpAny (model X.prog X.w) X.A (eval (.Name x p) X.env) (fun v s' => wpAny (model X.prog X.w) X.A (callWith pos v [] (backTo pos (starEach [] X.env)) []) (EP X pins σ Q) X.xe s') X.xe s := fun j F ej G kp q => by
    obtain ⟨v, h1, h2⟩ := E.2 i _ ej
    obtain rfl : v = .ref (ad.fn j) := h2.adrI
    refine thn (hv.run pins s σ H (fun v H1 => v = .ref (ad.fn j) ∧ H1 = H) I ⟨_, h1, rfl, rfl⟩) fun u s0 ⟨vx, H0, I0, rx, ex, eH⟩ => ?_
    subst ex; subst eH
    obtain rfl : u = Value.ref (ad.fn j) := rx
    obtain ⟨_, _, q⟩ := star_post (X := X) (F := F) (n := 0) A .nil q
    exact PySem.W.callWith_K0 I0.kIn kp (run_gs (ws := []) (rest := []) (us := []) G S I0 .nil rfl (Nat.zero_le _) q)
  unfold mCallV at q
  split at q
  · rename_i j ej
    split at q
    · rename_i hj
      subst hj
      exact go _ _ ej G1 k1 q
    · split at q
      · rename_i hj
        subst hj
        exact go _ _ ej G2 k2 q
      · exact q.elim
  · exact q.elim
end
end Mi
namespace Mi
open PySem L2
def opEqE (x y : T) (st : Sto) : R T := match x, y with
  | .tup ts, .tup [] => .ok (.bl ts.isEmpty) st
  | _, _ => .bad
def rEqE (K : PySem.W.Frag) : R2 := fun x y H Q => ∃ a b xs, x = .ref a ∧ y = .ref b ∧ SqT K H a xs ∧ SqT K H b [] ∧ Q (.bl xs.isEmpty) H
section
variable {X : Cx}
theorem op_eqE (hu : X.A.units + 64 < cLine) : OpR X (compareOp .Eq) (rEqE X.K) := by
  intro pins s σ H x y v u Q I rx ry h
  obtain ⟨a, b, xs, rfl, rfl, ha, hb, q⟩ := h
  cases rx
  cases ry
  obtain ⟨its, r1, p1, _⟩ := I.tuple ha
  obtain ⟨its2, r2, p2, _⟩ := I.tuple hb
  obtain rfl : its2 = [] := r2.nil_iff.mpr rfl
  refine PySem.SeqAt.eq_tupleAt (e := fun _ => true) p1 p2 (by omega) (fun j h1 h2 => absurd h2 (by simp)) ⟨.bl xs.isEmpty, H, I, ?_, q⟩
  have e : its.length = xs.length := (r1.length).symm
  have : (its.toArray.size == ([] : List Value).toArray.size) = xs.isEmpty := by
    cases xs with
    | nil => simp at e; subst e; rfl
    | cons x xs => cases its with
      | nil => simp at e
      | cons => rfl
  rw [this]
  simp
  rfl
theorem om_eqE (hu : X.A.units + 64 < cLine) : OpM X (compareOp .Eq) opEqE := by
  refine ⟨_, op_eqE hu, fun ad as st H x y tx ty Q W A rx ry q => ?_⟩
  unfold opEqE at q
  split at q
  · rename_i ts
    obtain ⟨a, vs, rfl, s1, r1⟩ := rx.tupI
    obtain ⟨b, ws, rfl, s2, r2⟩ := ry.tupI
    have e1 : vs.length = ts.length := Reps.length r1
    have e2 := Reps.length r2
    obtain rfl : ws = [] := List.eq_nil_of_length_eq_zero (by simpa using e2)
    refine ⟨a, b, vs, rfl, rfl, s1, s2, ?_⟩
    have : vs.isEmpty = ts.isEmpty := by
      cases vs <;> cases ts <;> simp at e1 <;> rfl
    rw [this]
    exact Post.at A (.bl _) q
  · exact q.elim
end
@[simp] theorem Ok_eqE {ts : List T} {st : Sto} {Q : T → Sto → Prop} {E : Exn → Sto → Prop} : Ok (opEqE (.tup ts) (.tup []) st) Q E ↔ Q (.bl ts.isEmpty) st := Iff.rfl
end Mi
namespace Ga
open PySem L2 Mi
def top (i : Nat) : Stmt := PySem.Challenge.pw_forklots_k02_seq_and_par.main.body.getD i (.Pass ⟨0, 0, 0, 0⟩)
inductive Fn where
  | is_between
  | is_formed
  | is_split
  | is_formed_part
  | parts_of
  | counts_of
  | is_plan
  | check_plan
  | seq
  | par
  | L_cell
  | L_source
  | L_random
  | L_choice
  | L_parts
  | L_plan
  | L_is_whole
  | L_sizes
  | L_is_plan
  | L_odds
  | L_word
  | L_said
  | L_put
  | L_got
  | law
abbrev CF := Fn → List T → Sto → R T
def nm : Fn → Str
  | .is_between => "is_between"
  | .is_formed => "is_formed"
  | .is_split => "is_split"
  | .is_formed_part => "is_formed_part"
  | .parts_of => "parts_of"
  | .counts_of => "counts_of"
  | .is_plan => "is_plan"
  | .check_plan => "check_plan"
  | .seq => "seq"
  | .par => "par"
  | .L_cell => "_law_cell"
  | .L_source => "_law_source"
  | .L_random => "_law_random"
  | .L_choice => "_law_choice"
  | .L_parts => "_law_parts"
  | .L_plan => "_law_plan"
  | .L_is_whole => "_law_is_whole"
  | .L_sizes => "_law_sizes"
  | .L_is_plan => "_law_is_plan"
  | .L_odds => "_law_odds"
  | .L_word => "_law_word"
  | .L_said => "_law_said"
  | .L_put => "_law_put"
  | .L_got => "_law_got"
  | .law => "law"
def qn : Fn → Str
  | .is_between => "is_between"
  | .is_formed => "is_formed"
  | .is_split => "is_split"
  | .is_formed_part => "is_formed_part"
  | .parts_of => "parts_of"
  | .counts_of => "counts_of"
  | .is_plan => "is_plan"
  | .check_plan => "check_plan"
  | .seq => "seq"
  | .par => "par"
  | .L_cell => "_law_cell"
  | .L_source => "_law_source"
  | .L_random => "_law_random"
  | .L_choice => "_law_choice"
  | .L_parts => "_law_parts"
  | .L_plan => "_law_plan"
  | .L_is_whole => "_law_is_whole"
  | .L_sizes => "_law_sizes"
  | .L_is_plan => "_law_is_plan"
  | .L_odds => "_law_odds"
  | .L_word => "_law_word"
  | .L_said => "_law_said"
  | .L_put => "_law_put"
  | .L_got => "_law_got"
  | .law => "law"
def isM : Fn → Bool
  | .is_between => false
  | .is_formed => false
  | .is_split => false
  | .is_formed_part => false
  | .parts_of => false
  | .counts_of => false
  | .is_plan => false
  | .check_plan => false
  | .seq => false
  | .par => false
  | .L_cell => false
  | .L_source => false
  | .L_random => false
  | .L_choice => false
  | .L_parts => false
  | .L_plan => false
  | .L_is_whole => false
  | .L_sizes => false
  | .L_is_plan => false
  | .L_odds => false
  | .L_word => false
  | .L_said => false
  | .L_put => false
  | .L_got => false
  | .law => false
def sf : Fn → Stmt
  | .is_between => top 15
  | .is_formed => top 16
  | .is_split => top 17
  | .is_formed_part => top 18
  | .parts_of => top 19
  | .counts_of => top 20
  | .is_plan => top 21
  | .check_plan => top 22
  | .seq => top 23
  | .par => top 24
  | .L_cell => top 26
  | .L_source => top 27
  | .L_random => top 28
  | .L_choice => top 29
  | .L_parts => top 30
  | .L_plan => top 31
  | .L_is_whole => top 32
  | .L_sizes => top 33
  | .L_is_plan => top 34
  | .L_odds => top 35
  | .L_word => top 36
  | .L_said => top 37
  | .L_put => top 38
  | .L_got => top 39
  | .law => top 40
def ps : Fn → List Str
  | .is_between => ["thing", "low", "high"]
  | .is_formed => ["thing", "depth"]
  | .is_split => ["part"]
  | .is_formed_part => ["thing", "depth"]
  | .parts_of => ["plan"]
  | .counts_of => ["plan"]
  | .is_plan => ["thing"]
  | .check_plan => ["thing"]
  | .seq => ["parts"]
  | .par => ["parts"]
  | .L_cell => ["_law_script", "_law_k"]
  | .L_source => ["_law_cell_here"]
  | .L_random => ["_law_source_here", "_law_count"]
  | .L_choice => ["_law_source_here", "_law_these"]
  | .L_parts => ["_law_source_here", "_law_room", "_law_deep", "_law_word_here"]
  | .L_plan => ["_law_source_here", "_law_room", "_law_deep"]
  | .L_is_whole => ["_law_thing", "_law_least", "_law_last"]
  | .L_sizes => ["_law_thing"]
  | .L_is_plan => ["_law_thing"]
  | .L_odds => []
  | .L_word => ["_law_why"]
  | .L_said => ["_law_ask"]
  | .L_put => ["_law_word_here", "_law_parts_here"]
  | .L_got => ["_law_word_here", "_law_parts_here"]
  | .law => ["_law_script"]
def isSt : Fn → Bool
  | .is_between => false
  | .is_formed => false
  | .is_split => false
  | .is_formed_part => false
  | .parts_of => false
  | .counts_of => false
  | .is_plan => false
  | .check_plan => false
  | .seq => true
  | .par => true
  | .L_cell => false
  | .L_source => false
  | .L_random => false
  | .L_choice => false
  | .L_parts => false
  | .L_plan => false
  | .L_is_whole => false
  | .L_sizes => false
  | .L_is_plan => false
  | .L_odds => false
  | .L_word => false
  | .L_said => false
  | .L_put => false
  | .L_got => false
  | .law => false
def ar : Fn → Nat
  | .is_between => 3
  | .is_formed => 2
  | .is_split => 1
  | .is_formed_part => 2
  | .parts_of => 1
  | .counts_of => 1
  | .is_plan => 1
  | .check_plan => 1
  | .seq => 1
  | .par => 1
  | .L_cell => 2
  | .L_source => 1
  | .L_random => 2
  | .L_choice => 2
  | .L_parts => 4
  | .L_plan => 3
  | .L_is_whole => 3
  | .L_sizes => 1
  | .L_is_plan => 1
  | .L_odds => 0
  | .L_word => 1
  | .L_said => 1
  | .L_put => 2
  | .L_got => 2
  | .law => 1
abbrev c_MAX_USE : T := (.int 9)
abbrev c_MAX_PARTS : T := (.int 12)
abbrev c_MAX_NAME : T := (.int 9)
abbrev c_MAX_DEPTH : T := (.int 10)
abbrev c_MAX_OPERATIONS : T := (.int 24)
abbrev c_MAX_RETRIES : T := (.int 8)
abbrev c_MAX_TUPLES : T := (.int 60)
def wordL : List (Nat × Str) := [(101, "InvalidPlan")]
def wordIs : List Nat := [101, 102, 103, 104, 105]
def wordT (c : Nat) : Option Str := wordL.lookup c
def b_L_word (sub : Nat → Option Bool) : SM := (sCons (sAsg (mLstS mNil) (gSet 1))
  (sCons (sIf (mTest (mApp (fIsiE sub) (mCons (mVar 0) (mCons (mAdr 101) mNil)))) (sCons (sExpr (mMeth "list" fAppend (mVar 1) (mCons (mC (.str "InvalidPlan")) mNil))) sNil) sNil)
  (sCons (sIf (mTest (mApp (fIsiE sub) (mCons (mVar 0) (mCons (mAdr 102) mNil)))) (sCons (sExpr (mMeth "list" fAppend (mVar 1) (mCons (mC (.str "InvalidOperation")) mNil))) sNil) sNil)
  (sCons (sIf (mTest (mApp (fIsiE sub) (mCons (mVar 0) (mCons (mAdr 103) mNil)))) (sCons (sExpr (mMeth "list" fAppend (mVar 1) (mCons (mC (.str "InvalidRecord")) mNil))) sNil) sNil)
  (sCons (sIf (mTest (mApp (fIsiE sub) (mCons (mVar 0) (mCons (mAdr 104) mNil)))) (sCons (sExpr (mMeth "list" fAppend (mVar 1) (mCons (mC (.str "TooComplex")) mNil))) sNil) sNil)
  (sCons (sIf (mTest (mApp (fIsiE sub) (mCons (mVar 0) (mCons (mAdr 105) mNil)))) (sCons (sExpr (mMeth "list" fAppend (mVar 1) (mCons (mC (.str "InvalidText")) mNil))) sNil) sNil)
  (sCons (sRet (mJoin (mC (.str " ")) (mVar 1))) sNil)))))))
def b_is_between (cf : CF) : SM := (sCons (sRet (mAnd (mApp fIsiS (mCons (mVar 0) (mCons (mC (.ty "int")) mNil))) (mAnd (mNot (mApp fIsiS (mCons (mVar 0) (mCons (mC (.ty "bool")) mNil)))) (mChain opLe opLe (mVar 1) (mVar 0) (mVar 2)))))
  sNil)
def b_is_formed (cf : CF) : SM := (sCons (sIf (mTOr (mTest (mBin (opEqB false) (mVar 1) (mC (.int 0)))) (mTOr (mTNot (mTest (mApp fIsiS (mCons (mVar 0) (mCons (mC (.ty "tuple")) mNil))))) (mTOr (mTest (mBin (opEqB false) (mApp fLen (mCons (mVar 0) mNil)) (mC (.int 0)))) (mTNot (mTest (mApp fIsiS (mCons (mBin opIx (mVar 0) (mC (.int 0))) (mCons (mC (.ty "str")) mNil)))))))) (sCons (sRet (mC (.bl false)))
    sNil) sNil)
  (sCons (sPar 2 3 (mCons (mBin opIx (mVar 0) (mC (.int 0))) (mCons (mSl (mVar 0) (mPart (mC (.int 1))) mNoPart) mNil)))
  (sCons (sIf (mTest (mBin (opEqB false) (mVar 2) (mC (.str "draw")))) (sCons (sRet (mAnd (mBin (opEqB false) (mApp fLen (mCons (mVar 3) mNil)) (mC (.int 1))) (mCall 3 (cf .is_between) (mCons (mBin opIx (mVar 3) (mC (.int 0))) (mCons (mC (.int 0)) (mCons (mC c_MAX_USE) mNil))))))
    sNil) sNil)
  (sCons (sIf (mTest (mBin (opEqB false) (mVar 2) (mC (.str "seq")))) (sCons (sRet (mAnd (mBin opLe (mApp fLen (mCons (mVar 3) mNil)) (mC c_MAX_PARTS)) (mApp fAll (mCons (mLc (mIt (mVar 3)) (tgN 4) mYes (mCall 2 (cf .is_formed) (mCons (mVar 4) (mCons (mBin opSub (mVar 1) (mC (.int 1))) mNil))) [4]) mNil))))
    sNil) sNil)
  (sCons (sIf (mTest (mBin (opEqB false) (mVar 2) (mC (.str "par")))) (sCons (sRet (mAnd (mBin opLe (mApp fLen (mCons (mVar 3) mNil)) (mC c_MAX_PARTS)) (mApp fAll (mCons (mLc (mIt (mVar 3)) (tgN 4) mYes (mCall 2 (cf .is_formed_part) (mCons (mVar 4) (mCons (mBin opSub (mVar 1) (mC (.int 1))) mNil))) [4]) mNil))))
    sNil) sNil)
  (sCons (sIf (mTest (mBin (opEqB false) (mVar 2) (mC (.str "named")))) (sCons (sRet (mAnd (mBin (opEqB false) (mApp fLen (mCons (mVar 3) mNil)) (mC (.int 2))) (mAnd (mCall 3 (cf .is_between) (mCons (mBin opIx (mVar 3) (mC (.int 0))) (mCons (mC (.int 0)) (mCons (mC c_MAX_NAME) mNil)))) (mCall 2 (cf .is_formed) (mCons (mBin opIx (mVar 3) (mC (.int 1))) (mCons (mBin opSub (mVar 1) (mC (.int 1))) mNil))))))
    sNil) sNil)
  (sCons (sRet (mAnd (mBin (opEqB false) (mVar 2) (mC (.str "retry"))) (mAnd (mBin (opEqB false) (mApp fLen (mCons (mVar 3) mNil)) (mC (.int 1))) (mCall 2 (cf .is_formed) (mCons (mBin opIx (mVar 3) (mC (.int 0))) (mCons (mBin opSub (mVar 1) (mC (.int 1))) mNil))))))
  sNil)))))))
def b_is_split (cf : CF) : SM := (sCons (sRet (mBin (opEqB false) (mBin opIx (mVar 0) (mC (.int 0))) (mC (.str "split"))))
  sNil)
def b_is_formed_part (cf : CF) : SM := (sCons (sIf (mTAnd (mTest (mBin opGt (mVar 1) (mC (.int 0)))) (mTAnd (mTest (mApp fIsiS (mCons (mVar 0) (mCons (mC (.ty "tuple")) mNil)))) (mTAnd (mTest (mBin (opEqB false) (mApp fLen (mCons (mVar 0) mNil)) (mC (.int 2)))) (mTAnd (mTest (mApp fIsiS (mCons (mBin opIx (mVar 0) (mC (.int 0))) (mCons (mC (.ty "str")) mNil)))) (mTest (mCall 1 (cf .is_split) (mCons (mVar 0) mNil))))))) (sCons (sRet (mCall 2 (cf .is_formed) (mCons (mBin opIx (mVar 0) (mC (.int 1))) (mCons (mBin opSub (mVar 1) (mC (.int 1))) mNil))))
    sNil) sNil)
  (sCons (sRet (mCall 2 (cf .is_formed) (mCons (mVar 0) (mCons (mVar 1) mNil))))
  sNil))
def b_parts_of (cf : CF) : SM := (sCons (sIf (mTest (mBin (opEqB false) (mBin opIx (mVar 0) (mC (.int 0))) (mC (.str "draw")))) (sCons (sRet (mTup mNil))
    sNil) sNil)
  (sCons (sRet (mIte (mTest (mBin (opInB false) (mBin opIx (mVar 0) (mC (.int 0))) (mTup (mCons (mC (.str "seq")) (mCons (mC (.str "par")) mNil))))) (mSl (mVar 0) (mPart (mC (.int 1))) mNoPart) (mSl (mVar 0) (mPart (mUn opNeg (mC (.int 1)))) mNoPart)))
  sNil))
def w_counts_of_0 (cf : CF) : SM := (sCons (sAsg (mLc (mZip true (mCons (mVar 1) (mCons (mCall 1 (cf .counts_of) (mCons (mVar 2) mNil)) mNil))) (tg2 3 4) mYes (mBin opAdd (mVar 3) (mVar 4)) [3, 4]) (gSet 1))
    sNil)
def b_counts_of (cf : CF) : SM := (sCons (sAsg (mLst (mCons (mApp fInt (mCons (mBin (opInB false) (mBin opIx (mVar 0) (mC (.int 0))) (mTup (mCons (mC (.str "draw")) (mCons (mC (.str "split")) mNil)))) mNil)) (mCons (mApp fInt (mCons (mBin (opEqB false) (mBin opIx (mVar 0) (mC (.int 0))) (mC (.str "retry"))) mNil)) (mCons (mC (.int 1)) mNil)))) (gSet 1))
  (sCons (sFor (mIt (mCall 1 (cf .parts_of) (mCons (mVar 0) mNil))) (gSet 2) (w_counts_of_0 cf))
  (sCons (sRet (mVar 1))
  sNil)))
def b_is_plan (cf : CF) : SM := (sCons (sIf (mTNot (mTest (mCall 2 (cf .is_formed) (mCons (mVar 0) (mCons (mC c_MAX_DEPTH) mNil))))) (sCons (sRet (mC (.bl false)))
    sNil) sNil)
  (sCons (sAsg (mCall 1 (cf .counts_of) (mCons (mVar 0) mNil)) (gTupM 3 (gsCons (gSet 1) (gsCons (gSet 2) (gsCons (gSet 3) gsNil)))))
  (sCons (sRet (mAnd (mBin opLe (mVar 1) (mC c_MAX_OPERATIONS)) (mAnd (mBin opLe (mVar 2) (mC c_MAX_RETRIES)) (mBin opLe (mVar 3) (mC c_MAX_TUPLES)))))
  sNil)))
def b_check_plan (cf : CF) : SM := (sCons (sIf (mTNot (mTest (mCall 1 (cf .is_plan) (mCons (mVar 0) mNil)))) (sCons (sRaise 101)
    sNil) sNil)
  sNil)
def b_seq (cf : CF) : SM := (sCons (sAsg (mTup (mCons (mC (.str "seq")) (mStar (mVar 0) mNil))) (gSet 1))
  (sCons (sExpr (mCall 1 (cf .check_plan) (mCons (mVar 1) mNil)))
  (sCons (sRet (mVar 1))
  sNil)))
def b_par (cf : CF) : SM := (sCons (sAsg (mTup (mCons (mC (.str "par")) (mStar (mVar 0) mNil))) (gSet 1))
  (sCons (sExpr (mCall 1 (cf .check_plan) (mCons (mVar 1) mNil)))
  (sCons (sRet (mVar 1))
  sNil)))
def b_L_cell (cf : CF) : SM := (sCons (sIf (mTest (mBin opLt (mVar 1) (mApp fLen (mCons (mVar 0) mNil)))) (sCons (sRet (mBin opIx (mVar 0) (mVar 1)))
    sNil) sNil)
  (sCons (sRet (mC (.int 0)))
  sNil))
def b_L_source (cf : CF) : SM := (sCons (sRet (mLstS (mCons (mApp fMax2 (mCons (mC (.int 0)) (mCons (mBin opSub (mVar 0) (mBin opPow (mC (.int 10)) (mC (.int 18)))) mNil))) (mCons (mBin opAdd (mBin opMod (mApp fInt (mCons (mVar 0) mNil)) (mC (.int 2147483629))) (mC (.int 1))) (mCons (mC (.int 0)) mNil)))))
  sNil)
def b_L_random (cf : CF) : SM := (sCons (sIf (mTest (mBin opGt (mBin opIx (mVar 0) (mC (.int 0))) (mC (.int 0)))) (sCons (sAsg (mBin opMod (mApp fInt (mCons (mBin opIx (mVar 0) (mC (.int 0))) mNil)) (mVar 1)) (gSet 2))
    (sCons (sAsg (mBin opFdiv (mBin opIx (mVar 0) (mC (.int 0))) (mVar 1)) (gItem (mVar 0) (mC (.int 0))))
    (sCons (sRet (mVar 2))
    sNil))) sNil)
  (sCons (sAsg (mBin opAdd (mBin opIx (mVar 0) (mC (.int 2))) (mC (.int 1))) (gItem (mVar 0) (mC (.int 2))))
  (sCons (sAsg (mBin opMod (mApp fInt (mCons (mBin opAdd (mBin opAdd (mBin opMul (mBin opIx (mVar 0) (mC (.int 1))) (mC (.int 48271))) (mBin opMul (mC (.int 1009)) (mBin opIx (mVar 0) (mC (.int 2))))) (mC (.int 7))) mNil)) (mC (.int 2147483647))) (gItem (mVar 0) (mC (.int 1))))
  (sCons (sAsg (mBin opMod (mApp fInt (mCons (mBin opAdd (mBin opAdd (mBin opMul (mBin opIx (mVar 0) (mC (.int 1))) (mBin opIx (mVar 0) (mC (.int 1)))) (mBin opMul (mC (.int 69621)) (mBin opIx (mVar 0) (mC (.int 1))))) (mC (.int 11))) mNil)) (mC (.int 2147483629))) (gSet 3))
  (sCons (sAsg (mBin opMod (mApp fInt (mCons (mBin opAdd (mBin opMul (mVar 3) (mVar 3)) (mBin opMul (mC (.int 40014)) (mVar 3))) mNil)) (mC (.int 2147483587))) (gSet 3))
  (sCons (sRet (mBin opMod (mApp fInt (mCons (mBin opFdiv (mVar 3) (mC (.int 16))) mNil)) (mVar 1)))
  sNil))))))
def b_L_choice (cf : CF) : SM := (sCons (sRet (mBin opIx (mVar 1) (mCall 2 (cf .L_random) (mCons (mVar 0) (mCons (mApp fLen (mCons (mVar 1) mNil)) mNil)))))
  sNil)
def w_L_parts_0 (cf : CF) : SM := (sCons (sIf (mTest (mBin opGt (mVar 5) (mC (.int 0)))) (sCons (sAsg (mBin opAdd (mC (.int 1)) (mCall 2 (cf .L_random) (mCons (mVar 0) (mCons (mApp fMin2 (mCons (mVar 5) (mCons (mC (.int 5)) mNil))) mNil)))) (gSet 7))
      (sCons (sIf (mTAnd (mTest (mBin (opEqB false) (mVar 3) (mC (.str "par")))) (mTAnd (mTest (mBin opGt (mVar 7) (mC (.int 1)))) (mTest (mBin (opEqB false) (mCall 2 (cf .L_random) (mCons (mVar 0) (mCons (mC (.int 3)) mNil))) (mC (.int 0)))))) (sCons (sExpr (mMeth "list" fAppend (mVar 4) (mCons (mTup (mCons (mC (.str "split")) (mCons (mCall 3 (cf .L_plan) (mCons (mVar 0) (mCons (mBin opSub (mVar 7) (mC (.int 1))) (mCons (mBin opSub (mVar 2) (mC (.int 2))) mNil)))) mNil))) mNil)))
        sNil) (sCons (sExpr (mMeth "list" fAppend (mVar 4) (mCons (mCall 3 (cf .L_plan) (mCons (mVar 0) (mCons (mVar 7) (mCons (mBin opSub (mVar 2) (mC (.int 1))) mNil)))) mNil)))
        sNil))
      (sCons (sAsg (mBin opSub (mVar 5) (mVar 7)) (gSet 5))
      sNil))) sNil)
    sNil)
def b_L_parts (cf : CF) : SM := (sCons (sPar 4 5 (mCons (mLstS mNil) (mCons (mVar 1) mNil)))
  (sCons (sFor (mRng itRng1 (mCons (mBin opAdd (mC (.int 1)) (mCall 2 (cf .L_random) (mCons (mVar 0) (mCons (mC (.int 4)) mNil)))) mNil)) (gSet 6) (w_L_parts_0 cf))
  (sCons (sRet (mVar 4))
  sNil)))
def b_L_plan (cf : CF) : SM := (sCons (sAsg (mCall 2 (cf .L_random) (mCons (mVar 0) (mCons (mC (.int 10)) mNil))) (gSet 3))
  (sCons (sIf (mTOr (mTest (mBin opLt (mVar 2) (mC (.int 4)))) (mTOr (mTAnd (mTest (mBin opLt (mVar 1) (mC (.int 2)))) (mTest (mBin opGt (mVar 3) (mC (.int 1))))) (mTest (mBin (opEqB false) (mVar 3) (mC (.int 0)))))) (sCons (sRet (mTup (mCons (mC (.str "draw")) (mCons (mCall 2 (cf .L_choice) (mCons (mVar 0) (mCons (mLst (mCons (mC (.int 1)) (mCons (mC (.int 1)) (mCons (mC (.int 2)) (mCons (mC (.int 1)) (mCons (mC (.int 3)) (mCons (mC (.int 0)) mNil))))))) mNil))) mNil))))
    sNil) sNil)
  (sCons (sIf (mTest (mBin (opEqB false) (mVar 3) (mC (.int 1)))) (sCons (sRet (mTup (mCons (mC (.str "named")) (mCons (mCall 2 (cf .L_random) (mCons (mVar 0) (mCons (mC (.int 3)) mNil))) (mCons (mCall 3 (cf .L_plan) (mCons (mVar 0) (mCons (mVar 1) (mCons (mBin opSub (mVar 2) (mC (.int 1))) mNil)))) mNil)))))
    sNil) sNil)
  (sCons (sIf (mTest (mBin (opEqB false) (mVar 3) (mC (.int 2)))) (sCons (sRet (mTup (mCons (mC (.str "retry")) (mCons (mCall 3 (cf .L_plan) (mCons (mVar 0) (mCons (mVar 1) (mCons (mBin opSub (mVar 2) (mC (.int 1))) mNil)))) mNil))))
    sNil) sNil)
  (sCons (sAsg (mIte (mTest (mBin opGt (mVar 3) (mC (.int 5)))) (mC (.str "par")) (mC (.str "seq"))) (gSet 4))
  (sCons (sRet (mBin opAdd (mTup (mCons (mVar 4) mNil)) (mApp fTuple (mCons (mCall 4 (cf .L_parts) (mCons (mVar 0) (mCons (mVar 1) (mCons (mVar 2) (mCons (mVar 4) mNil))))) mNil))))
  sNil))))))
def b_L_is_whole (cf : CF) : SM := (sCons (sRet (mAnd (mApp fIsiS (mCons (mVar 0) (mCons (mC (.ty "int")) mNil))) (mAnd (mNot (mApp fIsiS (mCons (mVar 0) (mCons (mC (.ty "bool")) mNil)))) (mChain opLe opLe (mVar 1) (mVar 0) (mVar 2)))))
  sNil)
def w_L_sizes_0 (cf : CF) : SM := (sCons (sAsg (mCall 1 (cf .L_sizes) (mCons (mVar 3) mNil)) (gSet 4))
    (sCons (sIf (mTOr (mTest (mBin (opIs false) (mVar 4) (mC .non))) (mTAnd (mTest (mBin (opEqB false) (mBin opIx (mVar 3) (mC (.int 0))) (mC (.str "split")))) (mTest (mBin (opEqB true) (mBin opIx (mVar 0) (mC (.int 0))) (mC (.str "par")))))) (sCons (sRet (mC .non))
      sNil) sNil)
    (sCons (sAsg (mLst (mCons (mBin opAdd (mBin opIx (mVar 2) (mC (.int 0))) (mBin opIx (mVar 4) (mC (.int 0)))) (mCons (mBin opAdd (mBin opIx (mVar 2) (mC (.int 1))) (mBin opIx (mVar 4) (mC (.int 1)))) (mCons (mBin opAdd (mBin opIx (mVar 2) (mC (.int 2))) (mBin opIx (mVar 4) (mC (.int 2)))) (mCons (mApp fMax2 (mCons (mBin opIx (mVar 2) (mC (.int 3))) (mCons (mBin opAdd (mBin opIx (mVar 4) (mC (.int 3))) (mC (.int 1))) mNil))) mNil))))) (gSet 2))
    sNil)))
def b_L_sizes_6 (cf : CF) : SM := (sCons (sAsg (mLst (mCons (mApp fInt (mCons (mBin (opEqB false) (mBin opIx (mVar 0) (mC (.int 0))) (mC (.str "split"))) mNil)) (mCons (mApp fInt (mCons (mBin (opEqB false) (mBin opIx (mVar 0) (mC (.int 0))) (mC (.str "retry"))) mNil)) (mCons (mC (.int 1)) (mCons (mC (.int 1)) mNil))))) (gSet 2))
  (sCons (sFor (mIt (mVar 1)) (gSet 3) (w_L_sizes_0 cf))
  (sCons (sRet (mVar 2))
  sNil)))
def b_L_sizes_4 (cf : CF) : SM := (sCons (sIf (mTest (mBin (opEqB false) (mBin opIx (mVar 0) (mC (.int 0))) (mC (.str "named")))) (sCons (sIf (mTOr (mTest (mBin (opEqB true) (mApp fLen (mCons (mVar 0) mNil)) (mC (.int 3)))) (mTNot (mTest (mCall 3 (cf .L_is_whole) (mCons (mBin opIx (mVar 0) (mC (.int 1))) (mCons (mC (.int 0)) (mCons (mC (.int 9)) mNil))))))) (sCons (sRet (mC .non))
      sNil) sNil)
    (sCons (sAsg (mSl (mVar 0) (mPart (mC (.int 2))) mNoPart) (gSet 1))
    sNil)) sNil)
  (sCons (sIf (mTOr (mTAnd (mTest (mBin (opInB false) (mBin opIx (mVar 0) (mC (.int 0))) (mTup (mCons (mC (.str "retry")) (mCons (mC (.str "split")) mNil))))) (mTest (mBin (opEqB true) (mApp fLen (mCons (mVar 0) mNil)) (mC (.int 2))))) (mTest (mBin opGt (mApp fLen (mCons (mVar 1) mNil)) (mC (.int 12))))) (sCons (sRet (mC .non))
    sNil) sNil)
  (b_L_sizes_6 cf)))
def b_L_sizes_3 (cf : CF) : SM := (sCons (sAsg (mSl (mVar 0) (mPart (mC (.int 1))) mNoPart) (gSet 1))
  (b_L_sizes_4 cf))
def b_L_sizes (cf : CF) : SM := (sCons (sIf (mTOr (mTNot (mTest (mApp fIsiS (mCons (mVar 0) (mCons (mC (.ty "tuple")) mNil))))) (mTOr (mTest (mBin opEqE (mVar 0) (mTup mNil))) (mTNot (mTest (mApp fIsiS (mCons (mBin opIx (mVar 0) (mC (.int 0))) (mCons (mC (.ty "str")) mNil))))))) (sCons (sRet (mC .non))
    sNil) sNil)
  (sCons (sIf (mTest (mBin (opEqB false) (mBin opIx (mVar 0) (mC (.int 0))) (mC (.str "draw")))) (sCons (sRet (mIte (mTAnd (mTest (mBin (opEqB false) (mApp fLen (mCons (mVar 0) mNil)) (mC (.int 2)))) (mTest (mCall 3 (cf .L_is_whole) (mCons (mBin opIx (mVar 0) (mC (.int 1))) (mCons (mC (.int 0)) (mCons (mC (.int 9)) mNil)))))) (mLst (mCons (mC (.int 1)) (mCons (mC (.int 0)) (mCons (mC (.int 1)) (mCons (mC (.int 1)) mNil))))) (mC .non)))
    sNil) sNil)
  (sCons (sIf (mTest (mBin (opInB true) (mBin opIx (mVar 0) (mC (.int 0))) (mTup (mCons (mC (.str "seq")) (mCons (mC (.str "par")) (mCons (mC (.str "named")) (mCons (mC (.str "retry")) (mCons (mC (.str "split")) mNil)))))))) (sCons (sRet (mC .non))
    sNil) sNil)
  (b_L_sizes_3 cf))))
def b_L_is_plan (cf : CF) : SM := (sCons (sAsg (mCall 1 (cf .L_sizes) (mCons (mVar 0) mNil)) (gSet 1))
  (sCons (sIf (mTOr (mTest (mBin (opIs false) (mVar 1) (mC .non))) (mTest (mBin (opEqB false) (mBin opIx (mVar 0) (mC (.int 0))) (mC (.str "split"))))) (sCons (sRet (mC (.bl false)))
    sNil) sNil)
  (sCons (sRet (mAnd (mBin opLe (mBin opIx (mVar 1) (mC (.int 0))) (mC (.int 24))) (mAnd (mBin opLe (mBin opIx (mVar 1) (mC (.int 1))) (mC (.int 8))) (mAnd (mBin opLe (mBin opIx (mVar 1) (mC (.int 2))) (mC (.int 60))) (mBin opLe (mBin opIx (mVar 1) (mC (.int 3))) (mC (.int 10)))))))
  sNil)))
def b_L_odds (cf : CF) : SM := (sCons (sAsg (mLstS (mCons (mC .non) (mCons (mC (.bl true)) (mCons (mC (.bl false)) (mCons (mC (.int 0)) (mCons (mC (.int 1)) (mCons (mUn opNeg (mC (.int 1))) (mCons (mBin opPow (mC (.int 10)) (mC (.int 12))) (mCons (mC (.str "")) (mCons (mC (.str "draw")) (mCons (mC (.str "seq")) (mCons (mTup mNil) (mCons (mLst mNil) (mCons mDict0 (mCons (mLst (mCons (mC (.int 0)) mNil)) (mCons (mTup (mCons (mC (.int 0)) mNil)) (mCons (mTup (mCons (mC .non) mNil)) mNil))))))))))))))))) (gSet 0))
  (sCons (sAsg (mBin opAddS (mVar 0) (mLst (mCons (mTup (mCons (mC (.str "draw")) mNil)) (mCons (mTup (mCons (mC (.str "draw")) (mCons (mC (.int 0)) mNil))) (mCons (mTup (mCons (mC (.str "draw")) (mCons (mC (.int 9)) mNil))) (mCons (mTup (mCons (mC (.str "draw")) (mCons (mC (.int 10)) mNil))) (mCons (mTup (mCons (mC (.str "draw")) (mCons (mUn opNeg (mC (.int 1))) mNil))) (mCons (mTup (mCons (mC (.str "draw")) (mCons (mC (.bl true)) mNil))) mNil)))))))) (gSet 0))
  (sCons (sExpr (mMeth "list" fAppend (mVar 0) (mCons (mTup (mCons (mC (.str "draw")) (mCons (mC (.str "1")) mNil))) mNil)))
  (sCons (sAsg (mBin opAddS (mVar 0) (mLst (mCons (mLst (mCons (mC (.str "draw")) (mCons (mC (.int 1)) mNil))) (mCons (mTup (mCons (mC (.str "draw")) (mCons (mC (.int 1)) (mCons (mC (.int 1)) mNil)))) (mCons (mTup (mCons (mC (.str "Draw")) (mCons (mC (.int 1)) mNil))) (mCons (mTup (mCons (mC (.int 1)) (mCons (mC (.str "draw")) mNil))) (mCons (mTup (mCons (mC (.str "draw")) (mCons (mTup (mCons (mC (.int 1)) mNil)) mNil))) (mCons (mTup (mCons (mC (.str "seq")) mNil)) (mCons (mTup (mCons (mC (.str "par")) mNil)) mNil))))))))) (gSet 0))
  (sCons (sAsg (mBin opAddS (mVar 0) (mLst (mCons (mTup (mCons (mC (.str "seq")) (mCons (mTup mNil) mNil))) (mCons (mTup (mCons (mC (.str "seq")) (mCons (mTup (mCons (mC (.str "draw")) mNil)) mNil))) (mCons (mTup (mCons (mC (.str "seq")) (mCons (mLst (mCons (mC (.str "draw")) (mCons (mC (.int 1)) mNil))) mNil))) (mCons (mTup (mCons (mC (.str "par")) (mCons (mTup (mCons (mC (.str "split")) mNil)) mNil))) mNil)))))) (gSet 0))
  (sCons (sExpr (mMeth "list" fAppend (mVar 0) (mCons (mTup (mCons (mC (.str "par")) (mCons (mTup (mCons (mC (.str "split")) (mCons (mC (.int 1)) mNil))) mNil))) mNil)))
  (sCons (sAsg (mBin opAddS (mVar 0) (mLst (mCons (mTup (mCons (mC (.str "split")) (mCons (mTup (mCons (mC (.str "draw")) (mCons (mC (.int 1)) mNil))) mNil))) (mCons (mTup (mCons (mC (.str "par")) (mCons (mTup (mCons (mC (.str "split")) (mCons (mTup (mCons (mC (.str "draw")) (mCons (mC (.int 1)) mNil))) mNil))) mNil))) (mCons (mTup (mCons (mC (.str "seq")) (mCons (mTup (mCons (mC (.str "split")) (mCons (mTup (mCons (mC (.str "draw")) (mCons (mC (.int 1)) mNil))) mNil))) mNil))) mNil))))) (gSet 0))
  (sCons (sAsg (mBin opAddS (mVar 0) (mLst (mCons (mTup (mCons (mC (.str "par")) (mCons (mTup (mCons (mC (.str "split")) (mCons (mTup (mCons (mC (.str "split")) (mCons (mTup (mCons (mC (.str "draw")) (mCons (mC (.int 1)) mNil))) mNil))) mNil))) mNil))) (mCons (mTup (mCons (mC (.str "named")) (mCons (mC (.int 0)) (mCons (mTup (mCons (mC (.str "draw")) (mCons (mC (.int 1)) mNil))) mNil)))) (mCons (mTup (mCons (mC (.str "named")) (mCons (mC (.int 10)) (mCons (mTup (mCons (mC (.str "draw")) (mCons (mC (.int 1)) mNil))) mNil)))) mNil))))) (gSet 0))
  (sCons (sAsg (mBin opAddS (mVar 0) (mLst (mCons (mTup (mCons (mC (.str "named")) (mCons (mC (.bl false)) (mCons (mTup (mCons (mC (.str "draw")) (mCons (mC (.int 1)) mNil))) mNil)))) (mCons (mTup (mCons (mC (.str "named")) (mCons (mTup (mCons (mC (.str "draw")) (mCons (mC (.int 1)) mNil))) mNil))) (mCons (mTup (mCons (mC (.str "named")) (mCons (mC (.int 0)) mNil))) mNil))))) (gSet 0))
  (sCons (sAsg (mBin opAddS (mVar 0) (mLst (mCons (mTup (mCons (mC (.str "retry")) mNil)) (mCons (mTup (mCons (mC (.str "retry")) (mCons (mTup (mCons (mC (.str "draw")) (mCons (mC (.int 1)) mNil))) mNil))) mNil)))) (gSet 0))
  (sCons (sAsg (mBin opAddS (mVar 0) (mLst (mCons (mTup (mCons (mC (.str "retry")) (mCons (mTup (mCons (mC (.str "draw")) (mCons (mC (.int 1)) mNil))) (mCons (mTup (mCons (mC (.str "draw")) (mCons (mC (.int 2)) mNil))) mNil)))) (mCons (mTup (mCons (mC (.str "retry")) (mCons (mTup (mCons (mC (.str "split")) (mCons (mTup (mCons (mC (.str "draw")) (mCons (mC (.int 1)) mNil))) mNil))) mNil))) mNil)))) (gSet 0))
  (sCons (sExpr (mMeth "list" fAppend (mVar 0) (mCons (mTup (mCons (mC (.str "named")) (mCons (mC (.int 0)) (mCons (mTup (mCons (mC (.str "split")) (mCons (mTup (mCons (mC (.str "draw")) (mCons (mC (.int 1)) mNil))) mNil))) mNil)))) mNil)))
  (sCons (sRet (mBin opAdd (mVar 0) (mLst (mCons (mDictC [.inr "draw"] [T.int 1]) (mCons (mTup (mCons (mTup (mCons (mC (.str "draw")) (mCons (mC (.int 1)) mNil))) mNil)) (mCons (mTup (mCons (mC (.str "seq")) (mCons (mC .non) mNil))) (mCons (mTup (mCons (mC (.str "par")) (mCons (mC (.str "draw")) mNil))) (mCons (mTup (mCons (mTup mNil) mNil)) (mCons (mTup (mCons (mC (.str "retry")) (mCons (mTup mNil) mNil))) mNil)))))))))
  sNil)))))))))))))
def b_L_put (cf : CF) : SM := (sCons (sAsg (mIte (mTest (mBin (opEqB false) (mVar 0) (mC (.str "seq")))) (mAdr 200) (mAdr 201)) (gSet 2))
  (sCons (sIf (mTest (mBin (opEqB false) (mApp fLen (mCons (mVar 1) mNil)) (mC (.int 0)))) (sCons (sRet (mCallV 2 200 201 (cf .seq) (cf .par) mNil))
    sNil) sNil)
  (sCons (sIf (mTest (mBin (opEqB false) (mApp fLen (mCons (mVar 1) mNil)) (mC (.int 1)))) (sCons (sRet (mCallV 2 200 201 (cf .seq) (cf .par) (mCons (mBin opIx (mVar 1) (mC (.int 0))) mNil)))
    sNil) sNil)
  (sCons (sIf (mTest (mBin (opEqB false) (mApp fLen (mCons (mVar 1) mNil)) (mC (.int 2)))) (sCons (sRet (mCallV 2 200 201 (cf .seq) (cf .par) (mCons (mBin opIx (mVar 1) (mC (.int 0))) (mCons (mBin opIx (mVar 1) (mC (.int 1))) mNil))))
    sNil) sNil)
  (sCons (sIf (mTest (mBin (opEqB false) (mApp fLen (mCons (mVar 1) mNil)) (mC (.int 3)))) (sCons (sRet (mCallV 2 200 201 (cf .seq) (cf .par) (mCons (mBin opIx (mVar 1) (mC (.int 0))) (mCons (mBin opIx (mVar 1) (mC (.int 1))) (mCons (mBin opIx (mVar 1) (mC (.int 2))) mNil)))))
    sNil) sNil)
  (sCons (sIf (mTest (mBin (opEqB false) (mApp fLen (mCons (mVar 1) mNil)) (mC (.int 4)))) (sCons (sRet (mCallV 2 200 201 (cf .seq) (cf .par) (mCons (mBin opIx (mVar 1) (mC (.int 0))) (mCons (mBin opIx (mVar 1) (mC (.int 1))) (mCons (mBin opIx (mVar 1) (mC (.int 2))) (mCons (mBin opIx (mVar 1) (mC (.int 3))) mNil))))))
    sNil) sNil)
  (sCons (sIf (mTest (mBin (opEqB false) (mApp fLen (mCons (mVar 1) mNil)) (mC (.int 5)))) (sCons (sRet (mCallV 2 200 201 (cf .seq) (cf .par) (mCons (mBin opIx (mVar 1) (mC (.int 0))) (mCons (mBin opIx (mVar 1) (mC (.int 1))) (mCons (mBin opIx (mVar 1) (mC (.int 2))) (mCons (mBin opIx (mVar 1) (mC (.int 3))) (mCons (mBin opIx (mVar 1) (mC (.int 4))) mNil)))))))
    sNil) sNil)
  (sCons (sRet (mCallV 2 200 201 (cf .seq) (cf .par) (mCons (mBin opIx (mVar 1) (mC (.int 0))) (mCons (mBin opIx (mVar 1) (mC (.int 1))) (mCons (mBin opIx (mVar 1) (mC (.int 2))) (mCons (mBin opIx (mVar 1) (mC (.int 3))) (mCons (mBin opIx (mVar 1) (mC (.int 4))) (mCons (mBin opIx (mVar 1) (mC (.int 5))) mNil))))))))
  sNil))))))))
def w_L_got_0 (cf : CF) : SM := (sCons (sIf (mTest (mBin (opEqB true) (mSaid wordT fRepr (mCall 2 (cf .L_put) (mCons (mVar 0) (mCons (mVar 1) mNil)))) (mVar 3))) (sCons (sRet (mC (.bl false)))
      sNil) sNil)
    sNil)
def b_L_got (cf : CF) : SM := (sCons (sPar 2 3 (mCons (mApp fRepr (mCons (mVar 1) mNil)) (mCons (mC (.str "! InvalidPlan")) mNil)))
  (sCons (sIf (mTest (mCall 1 (cf .L_is_plan) (mCons (mBin opAdd (mTup (mCons (mVar 0) mNil)) (mApp fTuple (mCons (mVar 1) mNil))) mNil))) (sCons (sAsg (mApp fRepr (mCons (mBin opAdd (mTup (mCons (mVar 0) mNil)) (mApp fTuple (mCons (mVar 1) mNil))) mNil)) (gSet 3))
    sNil) sNil)
  (sCons (sFor (mRng itRng1 (mCons (mC (.int 2)) mNil)) (gSet 4) (w_L_got_0 cf))
  (sCons (sRet (mBin (opEqB false) (mApp fRepr (mCons (mVar 1) mNil)) (mVar 2)))
  sNil))))
def w_law_0 (cf : CF) : SM := (sCons (sIf (mTOr (mTNot (mTest (mCall 2 (cf .L_got) (mCons (mVar 2) (mCons (mLst (mCons (mVar 1) mNil)) mNil))))) (mTNot (mTest (mCall 2 (cf .L_got) (mCons (mVar 2) (mCons (mLst (mCons (mTup (mCons (mC (.str "draw")) (mCons (mC (.int 1)) mNil))) (mCons (mVar 1) mNil))) mNil)))))) (sCons (sRet (mC (.bl false)))
        sNil) sNil)
      sNil)
def w_law_1 (cf : CF) : SM := (sCons (sFor (mIt (mTup (mCons (mC (.str "seq")) (mCons (mC (.str "par")) mNil)))) (gSet 2) (w_law_0 cf))
    sNil)
def w_law_2 (cf : CF) : SM := (sCons (sIf (mTOr (mTNot (mTest (mCall 2 (cf .L_got) (mCons (mC (.str "seq")) (mCons (mVar 11) mNil))))) (mTNot (mTest (mCall 2 (cf .L_got) (mCons (mC (.str "par")) (mCons (mVar 11) mNil)))))) (sCons (sRet (mC (.bl false)))
          sNil) sNil)
        sNil)
def w_law_3 (cf : CF) : SM := (sCons (sAsg (mLc (mRng itRng1 (mCons (mCall 2 (cf .L_random) (mCons (mVar 4) (mCons (mC (.int 6)) mNil))) mNil)) (tgN 7) mYes (mCall 3 (cf .L_plan) (mCons (mVar 4) (mCons (mC (.int 6)) (mCons (mC (.int 9)) mNil)))) [7]) (gSet 6))
      (sCons (sAsg (mLc (mIt (mVar 6)) (tgN 9) mYes (mIte (mTest (mBin (opEqB false) (mCall 2 (cf .L_random) (mCons (mVar 4) (mCons (mC (.int 2)) mNil))) (mC (.int 0)))) (mTup (mCons (mC (.str "split")) (mCons (mVar 9) mNil))) (mVar 9)) [9]) (gSet 8))
      (sCons (sAsg (mBin opAdd (mVar 8) (mLst (mCons (mCall 2 (cf .L_choice) (mCons (mVar 4) (mCons (mCall 0 (cf .L_odds) mNil) mNil))) mNil))) (gSet 10))
      (sCons (sFor (mIt (mTup (mCons (mVar 6) (mCons (mVar 8) (mCons (mVar 10) (mCons (mUn opRev (mVar 10)) mNil)))))) (gSet 11) (w_law_2 cf))
      sNil))))
def w_law_4 (cf : CF) : SM := (sCons (sAsg (mCall 1 (cf .L_source) (mCons (mCall 2 (cf .L_cell) (mCons (mVar 0) (mCons (mVar 3) mNil))) mNil)) (gSet 4))
    (sCons (sFor (mRng itRng1 (mCons (mC (.int 8)) mNil)) (gSet 5) (w_law_3 cf))
    sNil))
def b_law (cf : CF) : SM := (sCons (sFor (mIt (mCall 0 (cf .L_odds) mNil)) (gSet 1) (w_law_1 cf))
  (sCons (sFor (mRng itRng1 (mCons (mApp fMax2 (mCons (mC (.int 1)) (mCons (mApp fMin2 (mCons (mApp fLen (mCons (mVar 0) mNil)) (mCons (mC (.int 3)) mNil))) mNil))) mNil)) (gSet 3) (w_law_4 cf))
  (sCons (sRet (mC (.bl true)))
  sNil)))
def stepF (cf : CF) : CF
  | .is_between => runF 3 (b_is_between cf)
  | .is_formed => runF 5 (b_is_formed cf)
  | .is_split => runF 1 (b_is_split cf)
  | .is_formed_part => runF 2 (b_is_formed_part cf)
  | .parts_of => runF 1 (b_parts_of cf)
  | .counts_of => runF 5 (b_counts_of cf)
  | .is_plan => runF 4 (b_is_plan cf)
  | .check_plan => runF 1 (b_check_plan cf)
  | .seq => runF 2 (b_seq cf)
  | .par => runF 2 (b_par cf)
  | .L_cell => runF 2 (b_L_cell cf)
  | .L_source => runF 1 (b_L_source cf)
  | .L_random => runF 4 (b_L_random cf)
  | .L_choice => runF 2 (b_L_choice cf)
  | .L_parts => runF 8 (b_L_parts cf)
  | .L_plan => runF 5 (b_L_plan cf)
  | .L_is_whole => runF 3 (b_L_is_whole cf)
  | .L_sizes => runF 5 (b_L_sizes cf)
  | .L_is_plan => runF 2 (b_L_is_plan cf)
  | .L_odds => runF 1 (b_L_odds cf)
  | .L_word => fun _ _ => .bad
  | .L_said => fun _ _ => .bad
  | .L_put => runF 3 (b_L_put cf)
  | .L_got => runF 5 (b_L_got cf)
  | .law => runF 12 (b_law cf)
def callF : Nat → CF
  | 0 => fun _ _ _ => .bad
  | k + 1 => stepF (callF k)
theorem run_is_between (k : Nat) : callF (k + 1) .is_between = runF 3 (b_is_between (callF k)) := rfl
theorem run_is_formed (k : Nat) : callF (k + 1) .is_formed = runF 5 (b_is_formed (callF k)) := rfl
theorem run_is_split (k : Nat) : callF (k + 1) .is_split = runF 1 (b_is_split (callF k)) := rfl
theorem run_is_formed_part (k : Nat) : callF (k + 1) .is_formed_part = runF 2 (b_is_formed_part (callF k)) := rfl
theorem run_parts_of (k : Nat) : callF (k + 1) .parts_of = runF 1 (b_parts_of (callF k)) := rfl
theorem run_counts_of (k : Nat) : callF (k + 1) .counts_of = runF 5 (b_counts_of (callF k)) := rfl
theorem run_is_plan (k : Nat) : callF (k + 1) .is_plan = runF 4 (b_is_plan (callF k)) := rfl
theorem run_check_plan (k : Nat) : callF (k + 1) .check_plan = runF 1 (b_check_plan (callF k)) := rfl
theorem run_seq (k : Nat) : callF (k + 1) .seq = runF 2 (b_seq (callF k)) := rfl
theorem run_par (k : Nat) : callF (k + 1) .par = runF 2 (b_par (callF k)) := rfl
theorem run_L_cell (k : Nat) : callF (k + 1) .L_cell = runF 2 (b_L_cell (callF k)) := rfl
theorem run_L_source (k : Nat) : callF (k + 1) .L_source = runF 1 (b_L_source (callF k)) := rfl
theorem run_L_choice (k : Nat) : callF (k + 1) .L_choice = runF 2 (b_L_choice (callF k)) := rfl
theorem run_L_parts (k : Nat) : callF (k + 1) .L_parts = runF 8 (b_L_parts (callF k)) := rfl
theorem run_L_plan (k : Nat) : callF (k + 1) .L_plan = runF 5 (b_L_plan (callF k)) := rfl
theorem run_L_is_whole (k : Nat) : callF (k + 1) .L_is_whole = runF 3 (b_L_is_whole (callF k)) := rfl
theorem run_L_sizes (k : Nat) : callF (k + 1) .L_sizes = runF 5 (b_L_sizes (callF k)) := rfl
theorem run_L_is_plan (k : Nat) : callF (k + 1) .L_is_plan = runF 2 (b_L_is_plan (callF k)) := rfl
theorem run_L_odds (k : Nat) : callF (k + 1) .L_odds = runF 1 (b_L_odds (callF k)) := rfl
theorem run_L_put (k : Nat) : callF (k + 1) .L_put = runF 3 (b_L_put (callF k)) := rfl
theorem run_L_got (k : Nat) : callF (k + 1) .L_got = runF 5 (b_L_got (callF k)) := rfl
theorem run_law (k : Nat) : callF (k + 1) .law = runF 12 (b_law (callF k)) := rfl
end Ga
namespace Ga
open PySem L2 Mi
theorem r_random {k i m : Nat} {n : Int} {st : Sto} (h : Src st i m) (hn : 0 < n) (hn2 : n ≤ 1000000) (hm : m < 2 ^ 62) :
    Ok (callF (k + 1) .L_random [.ref i, .int n] st) (fun t st' => (∃ r, t = .int r ∧ 0 ≤ r ∧ r < n) ∧ Src st' i (m + 1) ∧ Frm i st st') noE := rand_ok h hn hn2 hm
theorem r_choice {k i m : Nat} {ts : List T} {st : Sto} (h : Src st i m) (h0 : ts ≠ []) (hl : ts.length ≤ 1000) (hm : m < 2 ^ 62) :
    Ok (callF (k + 2) .L_choice [.ref i, .lst ts] st) (fun t st' => t ∈ ts ∧ Src st' i (m + 1) ∧ Frm i st st') noE := by
  have hp : 0 < ts.length := List.length_pos_iff.mpr h0
  rw [run_L_choice, Ok_runF]
  unfold b_L_choice
  simp [fLen, seqR, lstR]
  refine Ok.imp (r_random h (n := (ts.length : Int)) (by omega) (by omega) hm) ?_ (fun _ _ h => h)
  rintro t st' ⟨⟨r, rfl, r0, r1⟩, s1, f1⟩
  obtain ⟨j, rfl⟩ : ∃ j : Nat, r = (j : Int) := ⟨r.toNat, by omega⟩
  have hj : j < ts.length := by omega
  rw [Ok_ixL _ (ts := ts) rfl]
  exact ⟨ts[j], atI_nat (by simp [hj]), List.getElem_mem hj, s1, f1⟩
theorem r_cell {k j : Nat} {ns : List Int} {st : Sto} (hl : ns.length ≤ 63) : ∃ v, callF (k + 1) .L_cell [.frz (ns.map T.int), .int (j : Nat)] st = .ok (.int v) st := by
  by_cases hj : j < ns.length
  · refine ⟨ns[j], ?_⟩
    apply Ok.eq
    rw [run_L_cell, Ok_runF]
    unfold b_L_cell
    simp [fLen, seqR, lstR, hj]
    rw [Ok_ixL _ (ts := ns.map T.int) rfl]
    exact ⟨.int ns[j], atI_nat (by simp [hj]), rfl, rfl⟩
  · refine ⟨0, ?_⟩
    apply Ok.eq
    rw [run_L_cell, Ok_runF]
    unfold b_L_cell
    simp [fLen, seqR, lstR, hj]
theorem r_source {k : Nat} {v : Int} {st : Sto} : Ok (callF (k + 1) .L_source [.int v] st) (fun t st' => t = .ref st.length ∧ Src st' st.length 0) noE := by
  rw [run_L_source, Ok_runF]
  unfold b_L_source
  simp [fMax2, sizeLine_eq]
  exact ⟨_, _, _, by simp; exact ⟨rfl, rfl, rfl⟩, by omega, by omega, by omega, by omega⟩
end Ga
namespace Ga
open PySem L2 Mi
def isPlan (t : T) : Bool := match sz 10 t with
  | some s => !spl t && decide (s.o ≤ 24) && decide (s.r ≤ 8) && decide (s.n ≤ 60)
  | none => false
end Ga
namespace Ga
open PySem L2 Mi
theorem r_is_between {k : Nat} {t : T} {lo hi : Int} {st : Sto} (h : t.tr = true) : callF (k + 1) .is_between [t, .int lo, .int hi] st = .ok (.bl (btw t lo hi)) st := by
  apply Ok.eq
  cases t <;> simp [T.tr] at h <;> simp [run_is_between, Ok_runF, b_is_between, fIsiS, tyName, isTy, btw]
  omega
end Ga
namespace Ga
open PySem L2 Mi
theorem r_is_split {k : Nat} {w : Str} {ps : List T} {st : Sto} : callF (k + 1) .is_split [.tup (.str w :: ps)] st = .ok (.bl (decide (w = "split"))) st := by
  apply Ok.eq
  simp [run_is_split, Ok_runF, b_is_split, atI_0, beqS]
theorem r_formed : ∀ (d : Nat), (∀ k, 2 * d + 2 ≤ k → ∀ t st, Gd t → callF k .is_formed [t, .int (d : Nat)] st = .ok (.bl (isF d t)) st) ∧
    (∀ k, 2 * d + 3 ≤ k → ∀ t st, Gd t → callF k .is_formed_part [t, .int (d : Nat)] st = .ok (.bl (isP d t)) st)
  | 0 => by
    have F : ∀ k, 2 * 0 + 2 ≤ k → ∀ t st, Gd t → callF k .is_formed [t, .int 0] st = .ok (.bl (isF 0 t)) st := fun k hk t st g => by
      obtain ⟨i, rfl⟩ : ∃ i, k = i + 1 := ⟨k - 1, by omega⟩
      apply Ok.eq
      rw [run_is_formed, Ok_runF]
      unfold b_is_formed
      simp [isF0]
    refine ⟨F, fun k hk t st g => ?_⟩
    obtain ⟨i, rfl⟩ : ∃ i, k = i + 1 := ⟨k - 1, by omega⟩
    apply Ok.eq
    rw [run_is_formed_part, Ok_runF]
    unfold b_is_formed_part
    simp [F i (by omega) t st g, isF0, isP0]
  | d + 1 => by
    obtain ⟨IF, IP⟩ := r_formed d
    have hd0 : ¬ ((d : Int) + 1 = 0) := by omega
    have F : ∀ k, 2 * (d + 1) + 2 ≤ k → ∀ t st, Gd t → callF k .is_formed [t, .int ((d : Int) + 1)] st = .ok (.bl (isF (d + 1) t)) st := fun k hk t st g => by
      obtain ⟨i, rfl⟩ : ∃ i, k = i + 1 + 1 := ⟨k - 2, by omega⟩
      apply Ok.eq
      rw [run_is_formed, Ok_runF]
      unfold b_is_formed
      by_cases hsh : ∃ w ps, t = .tup (.str w :: ps)
      · obtain ⟨w, ps, rfl⟩ := hsh
        have gps := g.tail
        have gl : ps.length ≤ 500000 := by
          have h1 := g.wt
          have h2 := T.wts_len (ts := ps)
          simp only [T.wt, T.wts] at h1
          omega
        have e1 : ps.length ≤ 12 → lcW (tgN 4) mYes (mCall 2 (callF (i + 1)  .is_formed) (mCons (mVar 4) (mCons (mBin opSub (mVar 1) (mC (.int 1))) mNil)))
            (wipeT [some (.tup (.str w :: ps)), some (.int ((d : Int) + 1)), some (.str w), some (.tup ps), none] [4]) (.seq ps) st = .ok (ps.map fun t => .bl (isF d t)) st := fun h => by
          refine lc_map _ ps (len_le 12 h) fun t ht => ⟨_, rfl, rfl, ?_⟩
          apply Ok.eq
          simp [wipeT, IF (i + 1) (by omega) t st (gps t ht)]
        have e2 : ps.length ≤ 12 → lcW (tgN 4) mYes (mCall 2 (callF (i + 1)  .is_formed_part) (mCons (mVar 4) (mCons (mBin opSub (mVar 1) (mC (.int 1))) mNil)))
            (wipeT [some (.tup (.str w :: ps)), some (.int ((d : Int) + 1)), some (.str w), some (.tup ps), none] [4]) (.seq ps) st = .ok (ps.map fun t => .bl (isP d t)) st := fun h => by
          refine lc_map _ ps (len_le 12 h) fun t ht => ⟨_, rfl, rfl, ?_⟩
          apply Ok.eq
          simp [wipeT, IP (i + 1) (by omega) t st (gps t ht)]
        show OkS _ _ (fun b s => b = T.bl (stepFm (isF d) (isP d) (.tup (.str w :: ps))) ∧ s = st) _ _ _
        have hl : ∀ n : Nat, (ps.length : Int) = n ↔ ps.length = n := fun n => by omega
        have g0 : ¬ ((ps.length : Int) + 1 = 0) := by omega
        by_cases h1 : w = "draw"
        · subst h1
          simp [hd0, g0, fIsiS, tyName, isTy, fLen, seqR, atI_0, cut1, beqS, stepFm]
          match ps, gps with
          | [], _ => simp
          | [a], gps => simp [atI_0, r_is_between (gps a (by simp)).tr]
          | _ :: _ :: _, _ => simp; omega
        by_cases h2 : w = "seq"
        · subst h2
          simp [hd0, g0, fIsiS, tyName, isTy, fLen, seqR, atI_0, cut1, beqS, stepFm, -List.all_eq_true, -List.all_eq_false]
          by_cases h : ps.length ≤ 12
          · have h' : (ps.length : Int) ≤ 12 := by omega
            simp [h, h', Ok_lc, e1 h, -List.all_eq_true, -List.all_eq_false]
          · have h' : ¬ (ps.length : Int) ≤ 12 := by omega
            simp [h, h']; omega
        by_cases h3 : w = "par"
        · subst h3
          simp [hd0, g0, fIsiS, tyName, isTy, fLen, seqR, atI_0, cut1, beqS, stepFm, -List.all_eq_true, -List.all_eq_false]
          by_cases h : ps.length ≤ 12
          · have h' : (ps.length : Int) ≤ 12 := by omega
            simp [h, h', Ok_lc, e2 h, -List.all_eq_true, -List.all_eq_false]
          · have h' : ¬ (ps.length : Int) ≤ 12 := by omega
            simp [h, h']; omega
        by_cases h4 : w = "named"
        · subst h4
          simp [hd0, g0, fIsiS, tyName, isTy, fLen, seqR, atI_0, cut1, beqS, stepFm]
          match ps, gps with
          | [], _ => simp
          | [_], _ => simp
          | [a, b], gps =>
            simp [atI_0, atI_1, r_is_between (gps a (by simp)).tr, IF (i + 1) (by omega) b st (gps b (by simp))]
            cases btw a 0 9 <;> simp
          | _ :: _ :: _ :: _, _ => simp; omega
        by_cases h5 : w = "retry"
        · subst h5
          simp [hd0, g0, fIsiS, tyName, isTy, fLen, seqR, atI_0, cut1, beqS, stepFm]
          match ps, gps with
          | [], _ => simp
          | [a], gps => simp [atI_0, IF (i + 1) (by omega) a st (gps a (by simp))]
          | _ :: _ :: _, _ => simp; omega
        simp [hd0, g0, fIsiS, tyName, isTy, fLen, seqR, atI_0, cut1, beqS, stepFm, h1, h2, h3, h4, h5]
      · rw [fm_nt fun w ps e => hsh ⟨w, ps, e⟩]
        have gg := g.tr
        cases t <;> simp [T.tr] at gg <;> simp [hd0, fIsiS, tyName, isTy]
        rename_i ts
        cases ts with
        | nil => simp [fLen, seqR]
        | cons u ts =>
          have gu := g.mem (t := u) (by simp)
          have g0 : ¬ ((ts.length : Int) + 1 = 0) := by omega
          simp [fLen, seqR, g0, atI_0]
          have gt := gu.tr
          cases u <;> simp [T.tr] at gt <;> simp [tyName, isTy]
          exact absurd ⟨_, _, rfl⟩ hsh
    refine ⟨F, fun k hk t st g => ?_⟩
    obtain ⟨i, rfl⟩ : ∃ i, k = i + 1 + 1 := ⟨k - 2, by omega⟩
    have FF := F (i + 1) (by omega) t st g
    apply Ok.eq
    rw [run_is_formed_part, Ok_runF]
    unfold b_is_formed_part
    have hd1 : (0 : Int) < (d : Int) + 1 := by omega
    show OkS _ _ (fun b s => b = T.bl (partFm (isF d) (isF (d + 1)) t) ∧ s = st) _ _ _
    by_cases hsh : ∃ w q, t = .tup [.str w, q]
    · obtain ⟨w, q, rfl⟩ := hsh
      simp [hd1, fIsiS, tyName, isTy, fLen, seqR, atI_0, atI_1, r_is_split, partFm]
      by_cases hw : w = "split"
      · simp [hw, IF (i + 1) (by omega) q st (g.mem (by simp))]
      · simp [hw, FF]
    · have e : partFm (isF d) (isF (d + 1)) t = isF (d + 1) t := by
        unfold partFm
        split
        · exact absurd ⟨_, _, rfl⟩ hsh
        · rfl
      rw [e]
      have gg := g.tr
      cases t <;> simp [T.tr] at gg <;> simp [hd1, FF, fIsiS, tyName, isTy]
      rename_i ts
      match ts, g with
      | [], _ => simp [fLen, seqR, FF]
      | [_], _ => simp [fLen, seqR, FF]
      | _ :: _ :: _ :: l, _ =>
        have n2 : ¬ ((l.length : Int) + 1 + 1 + 1 = 2) := by omega
        simp [fLen, seqR, FF, n2]
      | [u, q], g =>
        have gt := (g.mem (t := u) (by simp)).tr
        cases u <;> simp [T.tr] at gt <;> first | exact absurd ⟨_, _, rfl⟩ hsh | simp [fLen, seqR, atI_0, tyName, isTy, FF]
theorem r_parts {k : Nat} {w : Str} {ps : List T} {st : Sto} {par : Bool} {inner : List T} {a : Sz} (h : headP w ps = some (par, inner, a)) : callF (k + 1) .parts_of [.tup (.str w :: ps)] st = .ok (.tup inner) st := by
  have s0 : PyData.strOk ("seq" : Str) = true := by decide +kernel
  have s1 : PyData.strOk ("par" : Str) = true := by decide +kernel
  have s2 : PyData.strOk ("named" : Str) = true := by decide +kernel
  have s3 : PyData.strOk ("retry" : Str) = true := by decide +kernel
  have s4 : PyData.strOk ("split" : Str) = true := by decide +kernel
  apply Ok.eq
  rw [run_parts_of, Ok_runF]
  unfold b_parts_of
  rcases headP_wrd h with ⟨rfl, _, rfl, _⟩ | ⟨rfl, _, rfl, _⟩ | ⟨rfl, _, _, x, y, rfl, _, rfl⟩ | ⟨rfl, _, _, y, rfl, rfl⟩ | ⟨rfl, _, _, y, rfl, rfl⟩
  · simp [atI_0, beqS, sizeLine_eq, sh_w2, inD_cons, inD_nil, eqv_str, cut1, s0]
  · simp [atI_0, beqS, sizeLine_eq, sh_w2, inD_cons, inD_nil, eqv_str, cut1, s1]
  · simpa [atI_0, beqS, sizeLine_eq, sh_w2, inD_cons, inD_nil, eqv_str, s2] using cut_m1 (l := [.str "named", x]) (x := y)
  · simpa [atI_0, beqS, sizeLine_eq, sh_w2, inD_cons, inD_nil, eqv_str, s3] using cut_m1 (l := [.str "retry"]) (x := y)
  · simpa [atI_0, beqS, sizeLine_eq, sh_w2, inD_cons, inD_nil, eqv_str, s4] using cut_m1 (l := [.str "split"]) (x := y)
abbrev szT (s : Sz) : T := .lst [.int s.o, .int s.r, .int s.n]
theorem r_parts0 {k : Nat} {ps : List T} {st : Sto} : callF (k + 1) .parts_of [.tup (.str "draw" :: ps)] st = .ok (.tup []) st := by
  apply Ok.eq
  rw [run_parts_of, Ok_runF]
  unfold b_parts_of
  simp [atI_0, beqS, sizeLine_eq]
theorem counts_loop {d i : Nat} {t0 : T} {par : Bool} (IH : ∀ t s st, sz d t = some s → callF i .counts_of [t] st = .ok (szT s) st) {inner : List T} {a s : Sz} {x2 : Option T} {st : Sto} (h : szL (sz d) par inner a = some s)
    {N : Sl → Sto → Prop} {Rt : T → Sto → Prop} {B C : Sl → Sto → Prop} {E : Exn → Sl → Sto → Prop} (hN : ∀ x2, N [some t0, some (szT s), x2, none, none] st) :
    OkS (forL (gSet 2) (w_counts_of_0 (callF i)) inner [some t0, some (szT a), x2, none, none] st) N Rt B C E := by
  refine for_rec (fun rest ρ st' => st' = st ∧ ∃ b x2, ρ = [some t0, some (szT b), x2, none, none] ∧ szL (sz d) par rest b = some s) ⟨rfl, a, x2, rfl, h⟩ ?_ ?_
  · rintro t rest ρ st' ⟨rfl, b, y2, rfl, h⟩
    simp only [szL] at h
    split at h
    · cases h
    · rename_i u hu
      split at h
      · cases h
      · have e := IH t u st' hu
        simp only [Ok_gSet, List.set_cons_succ, List.set_cons_zero]
        unfold w_counts_of_0
        have e2 : ∀ ρ, (ρ = [some t0, some (szT b), some t, none, none]) → lcW (tg2 3 4) mYes (mBin opAdd (mVar 3) (mVar 4)) (wipeT ρ [3, 4])
            (.seq [.tup [.int b.o, .int u.o], .tup [.int b.r, .int u.r], .tup [.int b.n, .int u.n]]) st' = .ok [.int ((b.o : Int) + u.o), .int ((b.r : Int) + u.r), .int ((b.n : Int) + u.n)] st' := by
          rintro _ rfl
          have := lc_map (g := tg2 3 4) (tt := mYes) (elt := mBin opAdd (mVar 3) (mVar 4)) (ρ := wipeT [some t0, some (szT b), some t, none, none] [3, 4]) (st := st')
            (fun t => match t with | .tup [.int x, .int y] => .int (x + y) | _ => .non) [.tup [.int b.o, .int u.o], .tup [.int b.r, .int u.r], .tup [.int b.n, .int u.n]] (by simp [sizeLine_eq]) (fun t ht => by
              simp only [List.mem_cons, List.not_mem_nil, or_false] at ht
              rcases ht with rfl | rfl | rfl <;> exact ⟨_, rfl, rfl, rfl⟩)
          simpa using this
        simp [e, Ok_lc, itZip, seqF, zipT, e2]
        exact ⟨b.add u, by simp [Sz.add], h⟩
  · rintro ρ st' ⟨rfl, b, y2, rfl, h⟩
    simp only [szL, Option.some.injEq] at h
    subst h
    exact hN _
theorem r_counts : ∀ (d k : Nat), d + 1 ≤ k → ∀ t s st, sz d t = some s → callF k .counts_of [t] st = .ok (szT s) st
  | 0, k, hk, t, s, st, h => by simp [sz] at h
  | d + 1, k, hk, t, s, st, h => by
    obtain ⟨i, rfl⟩ : ∃ i, k = i + 1 + 1 := ⟨k - 2, by omega⟩
    have s0 : PyData.strOk ("seq" : Str) = true := by decide +kernel
    have s1 : PyData.strOk ("par" : Str) = true := by decide +kernel
    have s2 : PyData.strOk ("named" : Str) = true := by decide +kernel
    have s3 : PyData.strOk ("retry" : Str) = true := by decide +kernel
    have s4 : PyData.strOk ("split" : Str) = true := by decide +kernel
    have s5 : PyData.strOk ("draw" : Str) = true := by decide +kernel
    have hs := sz_shape h
    clear h
    obtain ⟨w, ps, rfl, h⟩ := hs
    apply Ok.eq
    rw [run_counts_of, Ok_runF]
    unfold b_counts_of
    rcases h with ⟨rfl, a, rfl, hb, rfl⟩ | ⟨hw, par, inner, a, e, he, hh, h⟩
    · simp [atI_0, beqS, sizeLine_eq, sh_ds, inD_cons, inD_nil, eqv_str, s5, r_parts0, forL]
    · obtain rfl : d = e := by omega
      rcases headP_wrd hh with ⟨rfl, _, _, rfl, _⟩ | ⟨rfl, _, _, rfl, _⟩ | ⟨rfl, _, rfl, _⟩ | ⟨rfl, _, rfl, _⟩ | ⟨rfl, _, rfl, _⟩
      all_goals
        simp [-OkS_cons, atI_0, beqS, sizeLine_eq, sh_ds, inD_cons, inD_nil, eqv_str, s0, s1, s2, s3, s4]
        rw [OkS_cons]
        simp [-OkS_cons, atI_0, beqS, sizeLine_eq, sh_ds, inD_cons, inD_nil, eqv_str, s0, s1, s2, s3, s4, r_parts hh]
        rw [OkS_cons]
        simp [-OkS_cons, atI_0, beqS, sizeLine_eq, sh_ds, inD_cons, inD_nil, eqv_str, s0, s1, s2, s3, s4, r_parts hh]
        exact counts_loop (r_counts d (i + 1) (by omega)) h (fun x2 => by simp)
theorem r_is_plan {k : Nat} (hk : 24 ≤ k) {t : T} {st : Sto} (g : Gd t) : callF k .is_plan [t] st = .ok (.bl (isPlan t)) st := by
  obtain ⟨i, rfl⟩ : ∃ i, k = i + 1 := ⟨k - 1, by omega⟩
  have e1 := (r_formed 10).1 i (by omega) t st g
  have e0 : isF 10 t = ((sz 10 t).isSome && !spl t) := (fmd_sz 10 t).1
  apply Ok.eq
  rw [run_is_plan, Ok_runF]
  unfold b_is_plan
  have e1' : callF i Fn.is_formed [t, T.int 10] st = R.ok (T.bl (isF 10 t)) st := e1
  simp [e1', e0, isPlan]
  cases hs : sz 10 t with
  | none => simp
  | some s =>
    have e2 := r_counts 10 i (by omega) t s st hs
    cases hp : spl t
    · simp [e2]
      by_cases h1 : s.o ≤ 24
      · by_cases h2 : s.r ≤ 8
        · have h1' : (s.o : Int) ≤ 24 := by omega
          have h2' : (s.r : Int) ≤ 8 := by omega
          by_cases h3 : s.n ≤ 60
          · have h3' : (s.n : Int) ≤ 60 := by omega
            simp [h1, h2, h1', h2', h3, h3']
          · have h3' : ¬ (s.n : Int) ≤ 60 := by omega
            simp [h1, h2, h1', h2', h3, h3']
        · have h1' : (s.o : Int) ≤ 24 := by omega
          have h2' : ¬ (s.r : Int) ≤ 8 := by omega
          simp [h1, h2, h1', h2']; omega
      · have h1' : ¬ (s.o : Int) ≤ 24 := by omega
        simp [h1, h1']; omega
    · simp
end Ga
namespace Ga
open PySem L2 Mi
theorem parts_turn {d i p m k left : Nat} {w : Str} {st : Sto} {es : List T} {x1 x6 x7 : Option T} {N : Sl → Sto → Prop} {Rt : T → Sto → Prop} {B C : Sl → Sto → Prop}
    (IH : ∀ e, e < d + 4 → 2 ≤ e → ∀ room, 1 ≤ room → room ≤ 100 → ∀ i m st, Src st i m → m + 12 * (room * e) < 2 ^ 50 → Ok (callF (k + 2) .L_plan [.ref i, .int (room : Nat), .int (e : Nat)] st) (fun t st' => (∃ s, GenOk room e t s) ∧ Src st' i (m + 12 * (room * e)) ∧ Frm i st st') noE)
    (hd : d ≤ 40) (hip : i < p) (hp : st[p]? = some (.lst es)) (hl : es.length ≤ 10) (hs : Src st i m) (hleft : left ≤ 100) (hm : m + left * (12 * (d + 3) + 2) < 2 ^ 50)
    (h0 : left = 0 → N [some (.ref i), x1, some (.int ((d + 4 : Nat) : Int)), some (.str w), some (.ref p), some (.int (0 : Nat)), x6, x7] st)
    (hN : ∀ size t s st' , 1 ≤ size → size ≤ left → PartOk (decide (w = "par")) size (d + 4) t s → st'[p]? = some (.lst (es ++ [t])) → Src st' i (m + size * (12 * (d + 3) + 2)) → Fr2 i p st st' →
      N [some (.ref i), x1, some (.int ((d + 4 : Nat) : Int)), some (.str w), some (.ref p), some (.int ((left - size : Nat) : Int)), x6, some (.int (size : Nat))] st') :
    OkS (w_L_parts_0 (callF (k + 2)) [some (.ref i), x1, some (.int ((d + 4 : Nat) : Int)), some (.str w), some (.ref p), some (.int (left : Nat)), x6, x7] st) N Rt B C (fun _ _ _ => False) := by
  have e50 : (2 : Nat) ^ 50 = 1125899906842624 := by decide
  have e49 : (2 : Nat) ^ 49 = 562949953421312 := by decide
  have e62 : (2 : Nat) ^ 62 = 4611686018427387904 := by decide
  unfold w_L_parts_0
  by_cases hz : left = 0
  · subst hz
    simp
    exact h0 rfl
  · have hpos : (0 : Int) < left := by omega
    rw [OkS_cons]
    simp [-OkS_cons]
    refine .inr ⟨by omega, ?_⟩
    rw [OkS_cons]
    simp [-OkS_cons, fMin2]
    refine Ok.imp (r_random hs (n := if (5 : Int) < left then 5 else left) (by split <;> omega) (by split <;> omega) (by omega)) ?_ (fun _ _ h => h)
    rintro _ st1 ⟨⟨r, rfl, r0, r1⟩, s1, f1⟩
    obtain ⟨r, rfl⟩ : ∃ q : Nat, r = q := ⟨r.toNat, by omega⟩
    have hr : r + 1 ≤ left := by split at r1 <;> omega
    have h1 : st1[p]? = some (.lst es) := f1.at (by omega) hp
    have hc1 : (r + 1) * (12 * (d + 3) + 2) ≤ left * (12 * (d + 3) + 2) := Nat.mul_le_mul_right _ hr
    have hc2 : (r + 1) * (12 * (d + 3) + 2) = 12 * ((r + 1) * (d + 3)) + 2 * (r + 1) := by rw [Nat.mul_add, Nat.mul_left_comm, Nat.mul_comm (r + 1) 2]
    have tail : ∀ u st2, st2[p]? = some (.lst (es ++ [u])) → (∃ s, PartOk (decide (w = "par")) (r + 1) (d + 4) u s) → Src st2 i (m + (r + 1) * (12 * (d + 3) + 2)) → Fr2 i p st st2 →
        OkS (sCons (sAsg (mBin opSub (mVar 5) (mVar 7)) (gSet 5)) sNil [some (.ref i), x1, some (.int ((d : Int) + 4)), some (.str w), some (.ref p), some (.int (left : Nat)), x6, some (.int (1 + (r : Int)))] st2) N Rt B C (fun _ _ _ => False) := by
      rintro u st2 q1 ⟨s, q2⟩ q3 q4
      have := hN (r + 1) u s st2 (by omega) hr q2 q1 q3 q4
      have e1 : ((left - (r + 1) : Nat) : Int) = (left : Int) - (1 + (r : Int)) := by omega
      have e2 : ((r + 1 : Nat) : Int) = 1 + (r : Int) := by omega
      have e3 : ((d + 4 : Nat) : Int) = (d : Int) + 4 := by omega
      rw [e1, e2, e3] at this
      simpa using this
    have plain : ∀ st2 m2, Src st2 i m2 → m2 ≤ m + 2 → st2[p]? = some (.lst es) → Fr2 i p st st2 →
        OkS (sCons (sExpr (mMeth "list" fAppend (mVar 4) (mCons (mCall 3 (callF (k + 2) .L_plan) (mCons (mVar 0) (mCons (mVar 7) (mCons (mBin opSub (mVar 2) (mC (.int 1))) mNil)))) mNil))) sNil
          [some (.ref i), x1, some (.int ((d : Int) + 4)), some (.str w), some (.ref p), some (.int (left : Nat)), x6, some (.int (1 + (r : Int)))] st2)
          (fun ρ1 st1 => OkS (sCons (sAsg (mBin opSub (mVar 5) (mVar 7)) (gSet 5)) sNil ρ1 st1) N Rt B C (fun _ _ _ => False)) Rt B C (fun _ _ _ => False) := by
      intro st2 m2 s2 hm2 h2 f2
      have e1 : (1 + (r : Int)) = ((r + 1 : Nat) : Int) := by omega
      have e2 : (d : Int) + 4 - 1 = ((d + 3 : Nat) : Int) := by omega
      rw [OkS_cons]
      simp [-OkS_cons, tyM, lstR, h2, e2]
      rw [e1]
      refine Ok.imp (IH (d + 3) (by omega) (by omega) (r + 1) (by omega) (by omega) i m2 st2 s2 (by omega)) ?_ (fun _ _ h => h)
      rintro u st3 ⟨⟨s, g⟩, s3, f3⟩
      have h3 : st3[p]? = some (.lst es) := f3.at (by omega) h2
      have hpl : p < st3.length := (List.getElem?_eq_some_iff.mp h3).1
      simp [-OkS_cons, fAppend, atS, h3, sizeLine_eq]
      refine ⟨by omega, ?_⟩
      have := tail u (st3.set p (.lst (es ++ [u]))) (by simp [hpl]) ⟨s, g.part⟩ ((s3.set (by omega)).mono (by omega)) (f2.trans (f3.fr2.trans (Fr2.set _)))
      rw [show (1 + (r : Int)) = r + 1 by omega] at this
      exact this
    simp [-OkS_cons]
    rw [OkS_cons]
    simp [-OkS_cons]
    by_cases hw : w = "par"
    · by_cases hr1 : r = 0
      · have hr2 : ¬ (1 : Int) < 1 + r := by omega
        simp [-OkS_cons, beqS, hw, hr2]
        refine ⟨by omega, ?_⟩
        subst hw
        exact plain st1 _ s1 (by omega) h1 f1.fr2
      · have hr2 : (1 : Int) < 1 + r := by omega
        simp [-OkS_cons, beqS, hw, hr2]
        refine .inr ?_
        refine Ok.imp (r_random s1 (n := 3) (by omega) (by omega) (by omega)) ?_ (fun _ _ h => h)
        rintro _ st2 ⟨⟨q, rfl, q0, q1⟩, s2, f2⟩
        have h2 : st2[p]? = some (.lst es) := f2.at (by omega) h1
        by_cases hq : q = 0
        · subst hq
          simp [-OkS_cons]
          rw [OkS_cons]
          have e1 : (1 + (r : Int)) - 1 = ((r : Nat) : Int) := by omega
          have e2 : (d : Int) + 4 - 2 = ((d + 2 : Nat) : Int) := by omega
          simp [-OkS_cons, tyM, lstR, h2, e1, e2]
          have hc3 : r * (d + 2) ≤ (r + 1) * (d + 3) := Nat.mul_le_mul (by omega) (by omega)
          refine Ok.imp (IH (d + 2) (by omega) (by omega) r (by omega) (by omega) i _ st2 s2 (by omega)) ?_ (fun _ _ h => h)
          rintro u st3 ⟨⟨s, g⟩, s3, f3⟩
          have h3 : st3[p]? = some (.lst es) := f3.at (by omega) h2
          have hpl : p < st3.length := (List.getElem?_eq_some_iff.mp h3).1
          simp [-OkS_cons, fAppend, atS, h3, sizeLine_eq]
          refine ⟨by omega, ?_⟩
          subst hw
          exact tail (.tup [.str "split", u]) (st3.set p (.lst (es ++ [.tup [.str "split", u]]))) (by simp [hpl]) ⟨_, by simpa using g.split hd⟩ ((s3.set (by omega)).mono (by omega)) (f1.fr2.trans (f2.fr2.trans (f3.fr2.trans (Fr2.set _))))
        · simp [-OkS_cons, hq]
          subst hw
          exact plain st2 _ s2 (by omega) h2 (f1.fr2.trans f2.fr2)
    · simp [-OkS_cons, beqS, hw]
      exact plain st1 _ s1 (by omega) h1 f1.fr2
theorem parts_gen {d i m k room : Nat} {w : Str} {st : Sto}
    (IH : ∀ e, e < d + 4 → 2 ≤ e → ∀ room, 1 ≤ room → room ≤ 100 → ∀ i m st, Src st i m → m + 12 * (room * e) < 2 ^ 50 → Ok (callF (k + 2) .L_plan [.ref i, .int (room : Nat), .int (e : Nat)] st) (fun t st' => (∃ s, GenOk room e t s) ∧ Src st' i (m + 12 * (room * e)) ∧ Frm i st st') noE)
    (hd : d ≤ 40) (hroom1 : 1 ≤ room) (hroom : room ≤ 100) (hs : Src st i m) (hm : m + 1 + room * (12 * (d + 3) + 2) < 2 ^ 50) :
    Ok (callF (k + 3) .L_parts [.ref i, .int (room : Nat), .int ((d + 4 : Nat) : Int), .str w] st) (fun t st' => ∃ es a, t = .ref st.length ∧ st'[st.length]? = some (.lst es) ∧ es ≠ [] ∧ es.length ≤ 4 ∧ AccOk (decide (w = "par")) room (d + 4) es a ∧ 1 ≤ a.o ∧ Src st' i (m + 1 + room * (12 * (d + 3) + 2)) ∧ Frm i st st') noE := by
  have e50 : (2 : Nat) ^ 50 = 1125899906842624 := by decide
  have e49 : (2 : Nat) ^ 49 = 562949953421312 := by decide
  have e48 : (2 : Nat) ^ 48 = 281474976710656 := by decide
  have e62 : (2 : Nat) ^ 62 = 4611686018427387904 := by decide
  have il : i < st.length := by
    obtain ⟨_, _, _, h, _⟩ := hs
    exact (List.getElem?_eq_some_iff.mp h).1
  have hc : room * (12 * (d + 3) + 2) ≤ 100 * 600 := Nat.mul_le_mul hroom (by omega)
  rw [run_L_parts, Ok_runF]
  unfold b_L_parts
  simp [sizeLine_eq]
  refine Ok.imp (r_random (hs.app [.lst []]) (n := 4) (by omega) (by omega) (by omega)) ?_ (fun _ _ h => h)
  rintro _ st1 ⟨⟨r, rfl, r0, r1⟩, s1, f1⟩
  have h1 : st1[st.length]? = some (.lst []) := f1.at (by omega) (by simp)
  have g1 : Fr2 i st.length st st1 := (Frm.app [.lst []]).fr2.trans f1.fr2
  simp
  refine ⟨by omega, ?_⟩
  refine for_inv (fun j ρ st' => ∃ es a left x6 x7, ρ = [some (.ref i), some (.int (room : Nat)), some (.int ((d + 4 : Nat) : Int)), some (.str w), some (.ref st.length), some (.int (left : Nat)), x6, x7] ∧ left ≤ room ∧ st'[st.length]? = some (.lst es) ∧ es.length ≤ j ∧ ((j = 0 ∧ left = room) ∨ (es ≠ [] ∧ 1 ≤ a.o)) ∧
    AccOk (decide (w = "par")) (room - left) (d + 4) es a ∧ Src st' i (m + 1 + (room - left) * (12 * (d + 3) + 2)) ∧ Fr2 i st.length st st')
    ⟨[], ⟨0, 0, 1, 1⟩, room, none, none, by simp, Nat.le_refl _, h1, by simp, .inl ⟨rfl, rfl⟩, by rw [Nat.sub_self]; exact AccOk.nil (by omega), by simpa using s1, g1⟩ ?_ ?_
  · rintro j t ρ st' ht ⟨es, a, left, x6, x7, rfl, hl, hp, hle, hj, acc, s2, f2⟩
    have hj3 : j < 4 := by
      have := (List.getElem?_eq_some_iff.mp ht).1
      simp [rgT] at this
      omega
    simp only [Ok_gSet, List.set_cons_succ, List.set_cons_zero]
    have hc2 : (room - left) * (12 * (d + 3) + 2) ≤ room * (12 * (d + 3) + 2) := Nat.mul_le_mul_right _ (by omega)
    have hc3 : (room - left) * (12 * (d + 3) + 2) + left * (12 * (d + 3) + 2) = room * (12 * (d + 3) + 2) := by rw [← Nat.add_mul]; congr 1; omega
    refine parts_turn IH hd il hp (by omega) s2 (by omega) (by omega) (fun h => ?_) (fun size u s st3 q1 q2 q3 q4 q5 q6 => ?_)
    · subst h
      refine ⟨es, a, 0, _, _, rfl, by omega, hp, by omega, ?_, acc, s2, f2⟩
      rcases hj with ⟨_, hj⟩ | hj
      · omega
      · exact .inr hj
    · have e1 : room - (left - size) = (room - left) + size := by omega
      refine ⟨es ++ [u], a.add s, left - size, _, _, rfl, by omega, q4, by simp; omega, .inr ⟨by simp, by have := q3.o1; simp only [Sz.add]; omega⟩, by rw [e1]; exact acc.snoc q3, q5.mono ?_, f2.trans q6⟩
      rw [e1, Nat.add_mul]; omega
  · rintro ρ st' ⟨es, a, left, x6, x7, rfl, hl, hp, hle, hj, acc, s2, f2⟩
    have hlen : (rgT 0 (1 + r).toNat).length = (1 + r).toNat := by simp [rgT]
    rw [hlen] at hle hj
    have hc2 : (room - left) * (12 * (d + 3) + 2) ≤ room * (12 * (d + 3) + 2) := Nat.mul_le_mul_right _ (by omega)
    have hc3 : (room - left) * (d + 3) ≤ room * (d + 3) := Nat.mul_le_mul_right _ (by omega)
    rcases hj with ⟨hj, _⟩ | ⟨hj1, hj2⟩
    · omega
    simp
    refine ⟨es, hp, hj1, by omega, a, ⟨acc.sz, by have := acc.o2; omega, acc.k2, ?_⟩, hj2, s2.mono (by omega), f2.frm (Nat.le_refl _)⟩
    have := acc.n2
    have e3 : d + 4 - 1 = d + 3 := by omega
    rw [e3] at this ⊢
    omega
theorem draw_mem {t : T} (h : t ∈ ([.int 1, .int 1, .int 2, .int 1, .int 3, .int 0] : List T)) : btw t 0 9 = true := by
  simp only [List.mem_cons, List.not_mem_nil, or_false] at h
  rcases h with rfl | rfl | rfl | rfl | rfl | rfl <;> rfl
theorem gen_draw {t : T} {room deep : Nat} (h : btw t 0 9 = true) (hr : 1 ≤ room) (hd : 2 ≤ deep) : GenOk room deep (.tup [.str "draw", t]) ⟨1, 0, 1, 1⟩ := by
  have : 1 ≤ room * deep := Nat.mul_le_mul hr (show 1 ≤ deep by omega)
  exact ⟨by simp [sz, h], by simp [spl], by simp, by simpa using hr, by simpa using hd, by simp; omega⟩
theorem gen_named {t : T} {s : Sz} {v : Int} {room d : Nat} (g : GenOk room (d + 3) t s) (hd : d ≤ 40) (hr : 1 ≤ room) (h0 : 0 ≤ v) (h9 : v ≤ 9) : GenOk room (d + 4) (.tup [.str "named", .int v, t]) (Sz.add ⟨0, 0, 1, 1⟩ s) := by
  have hk := g.k2
  have hn := g.n2
  have hb : btw (.int v) 0 9 = true := by simp [btw, h0, h9]
  have e2 : room * (d + 4) = room * (d + 3) + room := by simp only [Nat.mul_add]; omega
  refine ⟨?_, by simp [spl], by have := g.o1; simp only [Sz.add]; omega, by have := g.o2; simp only [Sz.add]; omega, by simp only [Sz.add]; omega, by simp only [Sz.add]; omega⟩
  have hh : headP "named" [.int v, t] = some (false, [t], ⟨0, 0, 1, 1⟩) := by simp [headP, hb]
  simp only [sz]
  rw [if_neg (by simp), hh]
  simp only [szL]
  rw [sz_at g.sz 63 (by omega)]
  simp [g.sp]
theorem gen_retry {t : T} {s : Sz} {room d : Nat} (g : GenOk room (d + 3) t s) (hd : d ≤ 40) (hr : 1 ≤ room) : GenOk room (d + 4) (.tup [.str "retry", t]) (Sz.add ⟨0, 1, 1, 1⟩ s) := by
  have hk := g.k2
  have hn := g.n2
  have e2 : room * (d + 4) = room * (d + 3) + room := by simp only [Nat.mul_add]; omega
  refine ⟨?_, by simp [spl], by have := g.o1; simp only [Sz.add]; omega, by have := g.o2; simp only [Sz.add]; omega, by simp only [Sz.add]; omega, by simp only [Sz.add]; omega⟩
  have hh : headP "retry" [t] = some (false, [t], ⟨0, 1, 1, 1⟩) := by simp [headP]
  simp only [sz]
  rw [if_neg (by simp), hh]
  simp only [szL]
  rw [sz_at g.sz 63 (by omega)]
  simp [g.sp]
theorem gen_parts {w : Str} {es : List T} {a : Sz} {room d : Nat} (hw : w = "par" ∨ w = "seq") (h : AccOk (decide (w = "par")) room (d + 4) es a) (ho : 1 ≤ a.o) (hl : es.length ≤ 4) (hd : d ≤ 40) (hr : 1 ≤ room) : GenOk room (d + 4) (.tup (.str w :: es)) a := by
  have hk := h.k2
  have hn := h.n2
  have e3 : d + 4 - 1 = d + 3 := by omega
  rw [e3] at hn
  have e2 : room * (d + 4) = room * (d + 3) + room := by simp only [Nat.mul_add]; omega
  refine ⟨?_, by rcases hw with rfl | rfl <;> simp [spl], ho, h.o2, by omega, by omega⟩
  have hz := szL_mono (f := sz 64) (g := sz 63) (d := 62) (fun t s q hk => sz_at q 63 (by omega)) h.sz (by omega)
  have hh : headP w es = some (decide (w = "par"), es, ⟨0, 0, 1, 1⟩) := by
    rcases hw with rfl | rfl <;> simp [headP] <;> omega
  simp only [sz]
  rw [if_neg (by rcases hw with rfl | rfl <;> simp), hh]
  exact hz.1
theorem r_plan : ∀ (deep : Nat), deep ≤ 40 → 2 ≤ deep → ∀ k, 2 * deep + 3 ≤ k → ∀ room, 1 ≤ room → room ≤ 100 → ∀ i m st, Src st i m → m + 12 * (room * deep) < 2 ^ 50 →
    Ok (callF k .L_plan [.ref i, .int (room : Nat), .int (deep : Nat)] st) (fun t st' => (∃ s, GenOk room deep t s) ∧ Src st' i (m + 12 * (room * deep)) ∧ Frm i st st') noE := by
  intro deep
  induction deep using Nat.strongRecOn with
  | _ deep IH =>
    intro hd hd2 k hk room hr1 hr i m st hs hm
    obtain ⟨k, rfl⟩ : ∃ j, k = j + 2 + 2 := ⟨k - 4, by omega⟩
    have e47 : (2 : Nat) ^ 47 = 140737488355328 := by decide
    have e48 : (2 : Nat) ^ 48 = 281474976710656 := by decide
    have e50 : (2 : Nat) ^ 50 = 1125899906842624 := by decide
    have e62 : (2 : Nat) ^ 62 = 4611686018427387904 := by decide
    have h1rd : 1 * 2 ≤ room * deep := Nat.mul_le_mul hr1 hd2
    rw [run_L_plan, Ok_runF]
    unfold b_L_plan
    show OkS (sCons _ _ [some (.ref i), some (.int (room : Nat)), some (.int (deep : Nat)), none, none] st) _ _ _ _ _
    rw [OkS_cons]
    simp [-OkS_cons]
    refine Ok.imp (r_random hs (n := 10) (by omega) (by omega) (by omega)) ?_ (fun _ _ h => h)
    rintro _ st1 ⟨⟨r, rfl, r0, r1⟩, s1, f1⟩
    rw [OkS_cons]
    have draw : Ok (callF (k + 2 + 1) .L_choice [.ref i, .lst [.int 1, .int 1, .int 2, .int 1, .int 3, .int 0]] st1) (fun t st' => (∃ s, GenOk room deep (.tup [.str "draw", t]) s) ∧ Src st' i (m + 12 * (room * deep)) ∧ Frm i st st') noE := by
      refine Ok.imp (r_choice s1 (by simp) (by simp) (by omega)) ?_ (fun _ _ h => h)
      rintro t st2 ⟨ht, s2, f2⟩
      exact ⟨⟨_, gen_draw (draw_mem ht) hr1 hd2⟩, s2.mono (by omega), f1.trans f2⟩
    have cond : ∀ {Q : Bool → Sto → Prop} {E : Exn → Sto → Prop}, Ok ((mTOr (mTest (mBin opLt (mVar 2) (mC (.int 4)))) (mTOr (mTAnd (mTest (mBin opLt (mVar 1) (mC (.int 2)))) (mTest (mBin opGt (mVar 3) (mC (.int 1))))) (mTest (mBin (opEqB false) (mVar 3) (mC (.int 0))))))
        [some (.ref i), some (.int (room : Nat)), some (.int (deep : Nat)), some (.int r), none] st1) Q E ↔ Q (decide ((deep : Int) < 4) || (decide ((room : Int) < 2) && decide ((1 : Int) < r)) || decide (r = 0)) st1 := by
      intro Q E
      by_cases c1 : (deep : Int) < 4 <;> by_cases c2 : (room : Int) < 2 <;> by_cases c3 : (1 : Int) < r <;> by_cases c4 : r = 0 <;> first | omega | simp [c1, c2, c3, c4]
    rw [OkS_if, cond]
    by_cases hsm : (decide ((deep : Int) < 4) || (decide ((room : Int) < 2) && decide ((1 : Int) < r)) || decide (r = 0)) = true
    · rw [if_pos hsm]
      simp [sizeLine_eq]
      exact draw
    · rw [if_neg hsm]
      simp only [Bool.or_eq_true, Bool.and_eq_true, decide_eq_true_eq, not_or, not_and] at hsm
      obtain ⟨⟨h4, h5⟩, h6⟩ := hsm
      obtain ⟨d, rfl⟩ : ∃ d, deep = d + 4 := ⟨deep - 4, by omega⟩
      have e2 : room * (d + 4) = room * (d + 3) + room := by simp only [Nat.mul_add]; omega
      have ed : ((d + 4 : Nat) : Int) - 1 = ((d + 3 : Nat) : Int) := by omega
      have rec1 := fun m2 st2 (s2 : Src st2 i m2) (hm2 : m2 ≤ m + 2) => IH (d + 3) (by omega) (by omega) (by omega) (k + 3) (by omega) room hr1 hr i m2 st2 s2 (by omega)
      rw [OkS_nil, OkS_cons]
      have e5 : room * (12 * (d + 3) + 2) = 12 * (room * (d + 3)) + 2 * room := by rw [Nat.mul_add, Nat.mul_left_comm, Nat.mul_comm room 2]
      have ed' : (d : Int) + 4 - 1 = ((d + 3 : Nat) : Int) := by omega
      by_cases h7 : r = 1
      · subst h7
        simp [-OkS_cons]
        rw [OkS_cons]
        simp [-OkS_cons]
        refine Ok.imp (r_random s1 (n := 3) (by omega) (by omega) (by omega)) ?_ (fun _ _ h => h)
        rintro _ st2 ⟨⟨v, rfl, v0, v1⟩, s2, f2⟩
        simp [-OkS_cons, ed', sizeLine_eq]
        refine Ok.imp (rec1 _ st2 s2 (by omega)) ?_ (fun _ _ h => h)
        rintro t st3 ⟨⟨s, g⟩, s3, f3⟩
        exact ⟨⟨_, gen_named g (by omega) hr1 v0 (by omega)⟩, s3.mono (by omega), (f1.trans f2).trans f3⟩
      · simp [-OkS_cons, h7]
        rw [OkS_cons]
        by_cases h8 : r = 2
        · subst h8
          simp [-OkS_cons]
          rw [OkS_cons]
          simp [-OkS_cons, ed', sizeLine_eq]
          refine Ok.imp (rec1 _ st1 s1 (by omega)) ?_ (fun _ _ h => h)
          rintro t st3 ⟨⟨s, g⟩, s3, f3⟩
          exact ⟨⟨_, gen_retry g (by omega) hr1⟩, s3.mono (by omega), f1.trans f3⟩
        · simp [-OkS_cons, h8]
          rw [OkS_cons]
          obtain ⟨w, hw, ew⟩ : ∃ w : Str, (w = "par" ∨ w = "seq") ∧ (∀ {Q : T → Sto → Prop} {E : Exn → Sto → Prop}, Ok (mIte (mTest (mBin opGt (mVar 3) (mC (.int 5)))) (mC (.str "par")) (mC (.str "seq")) [some (.ref i), some (.int (room : Nat)), some (.int ((d : Int) + 4)), some (.int r), none] st1) Q E ↔ Q (.str w) st1) := by
            by_cases h9 : (5 : Int) < r
            · exact ⟨"par", .inl rfl, by intro Q E; simp [h9]⟩
            · exact ⟨"seq", .inr rfl, by intro Q E; simp [h9]⟩
          rw [OkS_asg, ew]
          simp [-OkS_cons]
          rw [OkS_cons]
          simp [-OkS_cons, sizeLine_eq]
          refine Ok.imp (parts_gen (d := d) (k := k) (fun e he he2 room h1 h2 i m st hs hm => IH e he (by omega) he2 (k + 2) (by omega) room h1 h2 i m st hs hm) (by omega) hr1 hr s1 (by omega)) ?_ (fun _ _ h => h)
          rintro _ st2 ⟨es, a, rfl, hp, hne, hl, acc, ho, s2, f2⟩
          simp [fTuple, lstR, hp, sizeLine_eq]
          refine ⟨by omega, ⟨_, gen_parts hw acc ho hl (by omega) hr1⟩, s2.mono (by omega), f1.trans f2⟩
end Ga
namespace Ga
open PySem L2 Mi
theorem r_whole {k : Nat} {t : T} {lo hi : Int} {st : Sto} (h : t.tr = true) : callF (k + 1) .L_is_whole [t, .int lo, .int hi] st = .ok (.bl (btw t lo hi)) st := by
  apply Ok.eq
  cases t <;> simp [T.tr] at h <;> simp [run_L_is_whole, Ok_runF, b_L_is_whole, fIsiS, tyName, isTy, btw]
  omega
def szO : Option Sz → T
  | none => .non
  | some s => .lst [.int s.o, .int s.r, .int s.n, .int s.k]
theorem sizes_loop {d i : Nat} {w0 : Str} {ps : List T} {x1 : Option T} {par : Bool} (hpar : par = decide (w0 = "par")) (hwo : PyData.strOk w0 = true)
    (IH : ∀ t st, Gd t → t.dep ≤ d → callF i .L_sizes [t] st = .ok (szO (sz d t)) st) {inner : List T} (gi : ∀ t ∈ inner, Gd t ∧ t.dep ≤ d) {a : Sz} {x3 x4 : Option T} {st : Sto} :
    OkS (forL (gSet 3) (w_L_sizes_0 (callF i)) inner [some (.tup (.str w0 :: ps)), x1, some (szO (some a)), x3, x4] st) (fun ρ st' => ∃ s x3 x4, szL (sz d) par inner a = some s ∧ ρ = [some (.tup (.str w0 :: ps)), x1, some (szO (some s)), x3, x4] ∧ st' = st)
      (fun t st' => szL (sz d) par inner a = none ∧ t = .non ∧ st' = st) (fun _ _ => False) (fun _ _ => False) (fun _ _ _ => False) := by
  refine for_rec (fun rest ρ st' => st' = st ∧ (∀ t ∈ rest, Gd t ∧ t.dep ≤ d) ∧ ∃ b x3 x4, ρ = [some (.tup (.str w0 :: ps)), x1, some (szO (some b)), x3, x4] ∧ szL (sz d) par rest b = szL (sz d) par inner a) ⟨rfl, gi, a, x3, x4, rfl, rfl⟩ ?_ ?_
  · rintro t rest ρ st' ⟨rfl, gr, b, y3, y4, rfl, h⟩
    obtain ⟨gt, dt⟩ := gr t (List.mem_cons_self ..)
    have e := IH t st' gt dt
    have grest : ∀ t ∈ rest, Gd t ∧ t.dep ≤ d := fun u hu => gr u (List.mem_cons_of_mem _ hu)
    simp only [szL] at h
    simp only [Ok_gSet, List.set_cons_succ, List.set_cons_zero]
    unfold w_L_sizes_0
    cases hs : sz d t with
    | none =>
      rw [hs] at h e
      simp only at h
      simp [e, szO, Mi.isNon, h.symm]
    | some u =>
      rw [hs] at h e
      simp only at h
      obtain ⟨w, qs, rfl, _⟩ := sz_shape hs
      simp only [spl] at h
      have fin : szL (sz d) par rest (b.add u) = szL (sz d) par inner a → ∃ b_1 : Sz, ((b.o : Int) + u.o = b_1.o ∧ (b.r : Int) + u.r = b_1.r ∧ (b.n : Int) + u.n = b_1.n ∧ (if (b.k : Int) < u.k + 1 then (u.k : Int) + 1 else b.k) = b_1.k) ∧ szL (sz d) par rest b_1 = szL (sz d) par inner a := fun q =>
        ⟨b.add u, by simp only [Sz.add]; refine ⟨by omega, by omega, by omega, ?_⟩; split <;> omega, q⟩
      have sp0 : PyData.strOk ("split" : Str) = true := by decide +kernel
      simp [e, szO, Mi.isNon, atI_0, atI_1, atI_2, atI_3, beqS, hwo, fMax2, sizeLine_eq]
      by_cases hw : w = "split"
      · subst hw
        by_cases hp : w0 = "par"
        · rw [hpar] at h
          simp [hp] at h
          simp [hp, beqS]
          exact ⟨grest, fin (by rw [hpar]; simpa [hp] using h)⟩
        · rw [hpar] at h
          simp [hp] at h
          simp [hp, hpar, h.symm, beqS]
      · simp [hw] at h
        simp [hw]
        exact ⟨grest, fin h⟩
  · rintro ρ st' ⟨rfl, _, b, y3, y4, rfl, h⟩
    exact ⟨b, y3, y4, by rw [← h]; rfl, rfl, rfl⟩
theorem sz_nt {d : Nat} {t : T} (h : ∀ w ps, t ≠ .tup (.str w :: ps)) : sz d t = none := by
  cases hs : sz d t with
  | none => rfl
  | some s =>
    obtain ⟨w, ps, rfl, _⟩ := sz_shape hs
    exact absurd rfl (h _ _)
theorem r_sizes : ∀ (d k : Nat), d + 1 < k → ∀ t st, Gd t → t.dep ≤ d → callF k .L_sizes [t] st = .ok (szO (sz d t)) st
  | d, k, hk, t, st, g, hd => by
    obtain ⟨i, rfl⟩ : ∃ i, k = i + 1 + 1 := ⟨k - 2, by omega⟩
    have gg := g.tr
    by_cases hsh : ∃ w ps, t = .tup (.str w :: ps)
    · obtain ⟨w, ps, rfl⟩ := hsh
      have hw : PyData.strOk w = true := strOk_tr (g.mem (t := .str w) (by simp)).tr
      simp only [T.dep] at hd
      obtain ⟨d, rfl⟩ : ∃ e, d = e + 1 := ⟨d - 1, by omega⟩
      have gps : ∀ t ∈ ps, Gd t ∧ t.dep ≤ d := fun u hu => ⟨g.tail u hu, T.deps_le.mp (show T.deps (.str w :: ps) ≤ d by omega) u (List.mem_cons_of_mem _ hu)⟩
      have IH := fun t st => r_sizes d (i + 1) (by omega) t st
      have K6 : ∀ {par inner a x2} (hh : headP w ps = some (par, inner, a)), OkS (b_L_sizes_6 (callF (i + 1)) [some (.tup (.str w :: ps)), some (.tup inner), x2, none, none] st) (fun _ st' => T.non = szO (sz (d + 1) (.tup (.str w :: ps))) ∧ st' = st) (fun b st' => b = szO (sz (d + 1) (.tup (.str w :: ps))) ∧ st' = st) (fun _ _ => False) (fun _ _ => False) (fun e x st => noE e st) := by
        intro par inner a x2 hh
        have hdw : ¬ w = "draw" := by rcases headP_wrd hh with ⟨rfl, _⟩ | ⟨rfl, _⟩ | ⟨rfl, _⟩ | ⟨rfl, _⟩ | ⟨rfl, _⟩ <;> simp
        have hpar : par = decide (w = "par") := by rcases headP_wrd hh with ⟨rfl, rfl, _⟩ | ⟨rfl, rfl, _⟩ | ⟨rfl, rfl, _⟩ | ⟨rfl, rfl, _⟩ | ⟨rfl, rfl, _⟩ <;> simp
        have hin : ∀ t ∈ inner, Gd t ∧ t.dep ≤ d := by
          rcases headP_wrd hh with ⟨_, _, rfl, _⟩ | ⟨_, _, rfl, _⟩ | ⟨_, _, _, x, y, rfl, _, rfl⟩ | ⟨_, _, _, y, rfl, rfl⟩ | ⟨_, _, _, y, rfl, rfl⟩
          · exact gps
          · exact gps
          · intro t ht; exact gps t (by simp at ht; simp [ht])
          · exact gps
          · exact gps
        have e0 : sz (d + 1) (.tup (.str w :: ps)) = szL (sz d) par inner a := by simp only [sz]; rw [if_neg hdw, hh]
        have ea : a = ⟨if w = "split" then 1 else 0, if w = "retry" then 1 else 0, 1, 1⟩ := by rcases headP_wrd hh with ⟨rfl, _, _, rfl, _⟩ | ⟨rfl, _, _, rfl, _⟩ | ⟨rfl, _, rfl, _⟩ | ⟨rfl, _, rfl, _⟩ | ⟨rfl, _, rfl, _⟩ <;> simp
        have ea2 : (T.lst [.int (if w = "split" then 1 else 0), .int (if w = "retry" then 1 else 0), .int 1, .int 1]) = szO (some a) := by
          rw [ea]; simp only [szO]; split <;> split <;> rfl
        unfold b_L_sizes_6
        rw [OkS_cons]
        simp [-OkS_cons, atI_0, beqS, sizeLine_eq]
        rw [ea2, OkS_cons]
        simp [-OkS_cons]
        refine OkS.imp (sizes_loop hpar hw IH hin) ?_ ?_ (fun _ _ h => h) (fun _ _ h => h) (fun _ _ _ h => h)
        · rintro ρ st' ⟨s, x3, x4, hs, rfl, rfl⟩
          simp [e0, hs]
        · rintro t st' ⟨hs, rfl, rfl⟩
          simp [e0, hs, szO]
      apply Ok.eq
      rw [run_L_sizes, Ok_runF]
      unfold b_L_sizes
      have gl : (ps.length : Int) ≤ 500000 := by
        have h1 := g.wt
        have h2 := T.wts_len (ts := ps)
        simp only [T.wt, T.wts] at h1
        omega
      have ne : T.eqv (.tup (.str w :: ps)) (.tup []) = false := by simp [T.eqv, T.eqvs]
      have s0 : PyData.strOk ("seq" : Str) = true := by decide +kernel
      have s1 : PyData.strOk ("par" : Str) = true := by decide +kernel
      have s2 : PyData.strOk ("named" : Str) = true := by decide +kernel
      have s3 : PyData.strOk ("retry" : Str) = true := by decide +kernel
      have s4 : PyData.strOk ("split" : Str) = true := by decide +kernel
      have K4 : ∀ {inner x2}, (∃ par a, headP w ps = some (par, inner, a)) → OkS (b_L_sizes_4 (callF (i + 1)) [some (.tup (.str w :: ps)), some (.tup ps), x2, none, none] st) (fun _ st' => T.non = szO (sz (d + 1) (.tup (.str w :: ps))) ∧ st' = st) (fun b st' => b = szO (sz (d + 1) (.tup (.str w :: ps))) ∧ st' = st) (fun _ _ => False) (fun _ _ => False) (fun e x st => noE e st) := by
        rintro inner x2 ⟨par, a, hh⟩
        unfold b_L_sizes_4
        rw [OkS_cons]
        rcases headP_wrd hh with ⟨rfl, _, rfl, _, h12⟩ | ⟨rfl, _, rfl, _, h12⟩ | ⟨rfl, _, _, x, y, rfl, hb, rfl⟩ | ⟨rfl, _, _, y, rfl, rfl⟩ | ⟨rfl, _, _, y, rfl, rfl⟩
        · have : ¬ (12 : Int) < inner.length := by omega
          simp [-OkS_cons, atI_0, beqS]
          rw [OkS_cons]
          simp [-OkS_cons, atI_0, beqS, sizeLine_eq, sh_rs, s0, inD_cons, inD_nil, eqv_str, fLen, seqR, this]
          exact K6 hh
        · have : ¬ (12 : Int) < inner.length := by omega
          simp [-OkS_cons, atI_0, beqS]
          rw [OkS_cons]
          simp [-OkS_cons, atI_0, beqS, sizeLine_eq, sh_rs, s1, inD_cons, inD_nil, eqv_str, fLen, seqR, this]
          exact K6 hh
        · have c2 := cut_from (ts := [.str "named", x, y]) (j := 2)
          have c2' : cutT [.str "named", x, y] (some 2) none = [y] := by simpa using c2
          simp [atI_0, atI_1, beqS, fLen, seqR, r_whole (gps x (by simp)).1.tr, hb, c2', sizeLine_eq, sh_rs, s2, inD_cons, inD_nil, eqv_str]
          exact K6 hh
        · simp [-OkS_cons, atI_0, beqS]
          rw [OkS_cons]
          simp [-OkS_cons, atI_0, beqS, sizeLine_eq, sh_rs, s3, inD_cons, inD_nil, eqv_str, fLen, seqR]
          exact K6 hh
        · simp [-OkS_cons, atI_0, beqS]
          rw [OkS_cons]
          simp [-OkS_cons, atI_0, beqS, sizeLine_eq, sh_rs, s4, inD_cons, inD_nil, eqv_str, fLen, seqR]
          exact K6 hh
      have K4n : ∀ {x2}, headP w ps = none → (w = "seq" ∨ w = "par" ∨ w = "named" ∨ w = "retry" ∨ w = "split") → OkS (b_L_sizes_4 (callF (i + 1)) [some (.tup (.str w :: ps)), some (.tup ps), x2, none, none] st) (fun _ st' => T.non = szO (sz (d + 1) (.tup (.str w :: ps))) ∧ st' = st) (fun b st' => b = szO (sz (d + 1) (.tup (.str w :: ps))) ∧ st' = st) (fun _ _ => False) (fun _ _ => False) (fun e x st => noE e st) := by
        intro x2 hn hww
        have e0 : sz (d + 1) (.tup (.str w :: ps)) = none := by
          simp only [sz]
          rw [if_neg (by rcases hww with rfl | rfl | rfl | rfl | rfl <;> simp), hn]
        rw [e0]
        unfold b_L_sizes_4
        rw [OkS_cons]
        rcases hww with rfl | rfl | rfl | rfl | rfl <;> simp [headP] at hn
        · have : (12 : Int) < ps.length := by omega
          simp [-OkS_cons, atI_0, beqS]
          simp [atI_0, beqS, sizeLine_eq, sh_rs, s0, inD_cons, inD_nil, eqv_str, fLen, seqR, this, szO]
        · have : (12 : Int) < ps.length := by omega
          simp [-OkS_cons, atI_0, beqS]
          simp [atI_0, beqS, sizeLine_eq, sh_rs, s1, inD_cons, inD_nil, eqv_str, fLen, seqR, this, szO]
        · rcases ps with _ | ⟨x, _ | ⟨y, _ | ⟨z, l⟩⟩⟩
          · simp [atI_0, beqS, fLen, seqR, szO]
          · simp [atI_0, beqS, fLen, seqR, szO]
          · simp at hn
            simp [atI_0, atI_1, beqS, fLen, seqR, szO, r_whole (gps x (by simp)).1.tr, hn]
          · simp [atI_0, beqS, fLen, seqR, szO]
            omega
        · rcases ps with _ | ⟨x, _ | ⟨y, l⟩⟩
          · simp [atI_0, beqS, sizeLine_eq, sh_rs, s3, inD_cons, inD_nil, eqv_str, fLen, seqR, szO]
          · simp at hn
          · simp [atI_0, beqS, sizeLine_eq, sh_rs, s3, inD_cons, inD_nil, eqv_str, fLen, seqR, szO]
            omega
        · rcases ps with _ | ⟨x, _ | ⟨y, l⟩⟩
          · simp [atI_0, beqS, sizeLine_eq, sh_rs, s4, inD_cons, inD_nil, eqv_str, fLen, seqR, szO]
          · simp at hn
          · simp [atI_0, beqS, sizeLine_eq, sh_rs, s4, inD_cons, inD_nil, eqv_str, fLen, seqR, szO]
            omega
      have K3 : (w = "seq" ∨ w = "par" ∨ w = "named" ∨ w = "retry" ∨ w = "split") → OkS (b_L_sizes_3 (callF (i + 1)) [some (.tup (.str w :: ps)), none, none, none, none] st) (fun _ st' => T.non = szO (sz (d + 1) (.tup (.str w :: ps))) ∧ st' = st) (fun b st' => b = szO (sz (d + 1) (.tup (.str w :: ps))) ∧ st' = st) (fun _ _ => False) (fun _ _ => False) (fun e x st => noE e st) := by
        intro hww
        unfold b_L_sizes_3
        rw [OkS_cons]
        simp [-OkS_cons, cut1]
        cases hh : headP w ps with
        | none => exact K4n hh hww
        | some q =>
          obtain ⟨par, inner, a⟩ := q
          exact K4 ⟨par, a, hh⟩
      show OkS (sCons _ _ [some (.tup (.str w :: ps)), none, none, none, none] st) _ _ _ _ _
      rw [OkS_cons]
      simp [-OkS_cons, fIsiS, tyName, isTy, g.sh, sh_nil, ne, atI_0]
      rw [OkS_cons]
      by_cases h1 : w = "draw"
      · subst h1
        simp [-OkS_cons, atI_0, beqS]
        rcases ps with _ | ⟨x, _ | ⟨y, l⟩⟩
        · simp [fLen, seqR, sz, szO]
        · simp [fLen, seqR, sz, szO, atI_1, r_whole (gps x (by simp)).1.tr]
          cases btw x 0 9 <;> simp [szO, sizeLine_eq]
        · simp [fLen, seqR, sz, szO]
          omega
      · by_cases hww : w = "seq" ∨ w = "par" ∨ w = "named" ∨ w = "retry" ∨ w = "split"
        · simp [-OkS_cons, atI_0, beqS, h1]
          rw [OkS_cons]
          have e5 : inD (.str w) [.str "seq", .str "par", .str "named", .str "retry", .str "split"] = true := by
            simp only [inD_cons, inD_nil, eqv_str, beqS]
            rcases hww with rfl | rfl | rfl | rfl | rfl <;> simp
          simp [-OkS_cons, atI_0, beqS, sizeLine_eq, sh_w5, hw, e5]
          exact K3 hww
        · have e5 : inD (.str w) [.str "seq", .str "par", .str "named", .str "retry", .str "split"] = false := by
            simp only [inD_cons, inD_nil, eqv_str, beqS]
            simp only [not_or] at hww
            obtain ⟨a1, a2, a3, a4, a5⟩ := hww
            simp
            exact ⟨Ne.symm a1, Ne.symm a2, Ne.symm a3, Ne.symm a4, Ne.symm a5⟩
          have hn : headP w ps = none := by
            simp only [not_or] at hww
            obtain ⟨a1, a2, a3, a4, a5⟩ := hww
            simp [headP, a1, a2, a3, a4, a5]
          simp [atI_0, beqS, h1, sizeLine_eq, sh_w5, hw, e5, sz, hn, szO]
    · rw [sz_nt fun w ps e => hsh ⟨w, ps, e⟩]
      apply Ok.eq
      rw [run_L_sizes, Ok_runF]
      unfold b_L_sizes
      cases t <;> simp [T.tr] at gg <;> simp [fIsiS, tyName, isTy, szO]
      rename_i ts
      cases ts with
      | nil => simp [sh_nil, T.eqv, T.eqvs]
      | cons u us =>
        have gu := (g.mem (t := u) (by simp)).tr
        simp [g.sh, sh_nil, T.eqv, T.eqvs, atI_0]
        cases u <;> simp [T.tr] at gu <;> first | exact absurd ⟨_, _, rfl⟩ hsh | simp [tyName, isTy]
end Ga
namespace Ga
open PySem L2 Mi
theorem r_lis {k : Nat} (hk : 27 ≤ k) {t : T} {st : Sto} (g : Gd t) (hd : t.dep ≤ 24) : callF k .L_is_plan [t] st = .ok (.bl (isPlan t)) st := by
  obtain ⟨i, rfl⟩ : ∃ i, k = i + 1 := ⟨k - 1, by omega⟩
  have e1 := r_sizes 24 i (by omega) t st g hd
  apply Ok.eq
  rw [run_L_is_plan, Ok_runF]
  unfold b_L_is_plan
  cases hs : sz 24 t with
  | none =>
    have h10 : sz 10 t = none := by
      cases h : sz 10 t with
      | none => rfl
      | some s => rw [sz_at h 24 (by have := sz_k h; omega)] at hs; cases hs
    rw [hs] at e1
    simp [e1, szO, Mi.isNon, isPlan, h10]
  | some s =>
    rw [hs] at e1
    obtain ⟨w, ps, rfl, _⟩ := sz_shape hs
    simp [e1, szO, Mi.isNon, atI_0, atI_1, atI_2, atI_3, beqS]
    by_cases hw : w = "split"
    · have : isPlan (.tup (.str w :: ps)) = false := by
        unfold isPlan
        split
        · simp [spl, hw]
        · rfl
      simp [hw] at this ⊢
      exact this
    · have sp : spl (.tup (.str w :: ps)) = false := by simp [spl, hw]
      simp [hw]
      unfold isPlan
      rw [sp]
      by_cases h4 : s.k ≤ 10
      · rw [sz_at hs 10 h4]
        have h4' : (s.k : Int) ≤ 10 := by omega
        simp [h4']
        by_cases h1 : s.o ≤ 24 <;> by_cases h2 : s.r ≤ 8 <;> by_cases h3 : s.n ≤ 60 <;> simp [h1, h2, h3] <;> omega
      · have h10 : sz 10 (.tup (.str w :: ps)) = none := by
          cases h : sz 10 (.tup (.str w :: ps)) with
          | none => rfl
          | some u =>
            rw [sz_at h 24 (by have := sz_k h; omega)] at hs
            cases hs
            exact absurd (sz_k h) h4
        rw [h10]
        have h4' : ¬ (s.k : Int) ≤ 10 := by omega
        by_cases h1 : s.o ≤ 24 <;> by_cases h2 : s.r ≤ 8 <;> by_cases h3 : s.n ≤ 60 <;> simp [h1, h2, h3] <;> omega
def plainT (t : T) : Bool := match t with
  | .ref _ | .adr _ | .frz _ | .byt _ | .ty _ | .ptp _ => false
  | _ => true
end Ga
namespace Ga
open PySem L2 Mi
structure El (w : Nat) (t : T) : Prop where
  pl : plainT t = true
  rp : ∃ d, t.pd = some d ∧ d.showable = true ∧ d.shown.length ≤ w ∧ d.depth ≤ 20
  k : BT 20 w t ∨ notTup t = true
theorem tr_plain {t : T} (h : t.tr = true) : plainT t = true := by cases t <;> simp [T.tr] at h <;> rfl
theorem BT.el {n w v : Nat} {t : T} (h : BT n w t) (hn : n ≤ 20) (hw : w ≤ v) : El v t := by
  obtain ⟨d, h1, h2, h3, h4, _⟩ := T.tr_pd h.tr
  have := h.wt
  have := h.dp
  exact ⟨tr_plain h.tr, ⟨d, h1, h2, by omega, by omega⟩, .inl (h.mono hn hw)⟩
def okEl (t : T) : Bool := plainT t && (match t.pd with | some d => d.showable && decide (d.shown.length ≤ 500) && decide (d.depth ≤ 20) | none => false) && ((t.tr && t.nd && decide (t.dep ≤ 18) && decide (t.wt ≤ 500)) || notTup t)
theorem okEl_el {t : T} (h : okEl t = true) : El 500 t := by
  unfold okEl at h
  simp only [Bool.and_eq_true, Bool.or_eq_true, decide_eq_true_eq] at h
  obtain ⟨⟨h1, h2⟩, h3⟩ := h
  refine ⟨h1, ?_, ?_⟩
  · split at h2
    · rename_i d e
      simp only [Bool.and_eq_true, decide_eq_true_eq] at h2
      exact ⟨d, e, h2.1.1, h2.1.2, h2.2⟩
    · cases h2
  · rcases h3 with ⟨⟨⟨g1, g2⟩, g3⟩, g4⟩ | h
    · exact .inl ⟨g1, g2, by omega, g4⟩
    · exact .inr h
theorem els_pd {w : Nat} : ∀ {ts : List T}, (∀ t ∈ ts, El w t) → ∃ ds, T.pds ts = some ds ∧ PyData.showableAll ds = true ∧ piled (PyData.shownAll ds) ≤ ts.length * (w + 2) ∧ PyData.depthAll ds ≤ 20
  | [], _ => ⟨[], rfl, rfl, (show piled [] ≤ _ from Nat.zero_le _), by simp [PyData.depthAll]⟩
  | t :: ts, h => by
    obtain ⟨d, h1, h2, h3, h4⟩ := (h t List.mem_cons_self).rp
    obtain ⟨ds, g1, g2, g3, g4⟩ := els_pd (ts := ts) fun u hu => h u (List.mem_cons_of_mem _ hu)
    refine ⟨d :: ds, by simp [T.pds, h1, g1], by simp [PyData.showableAll, h2, g2], ?_, by simp [PyData.depthAll]; omega⟩
    show piled (d.shown :: PyData.shownAll ds) ≤ _
    rw [piled_cons, List.length_cons, Nat.add_mul]
    omega
theorem els_lst {w : Nat} {ts : List T} {st : Sto} (h : ∀ t ∈ ts, El w t) (hl : ts.length ≤ 20) (hw : w ≤ 40000) : ∃ z, reprOf st (.lst ts) = some z := by
  obtain ⟨ds, h1, h2, h3, h4⟩ := els_pd h
  have a := listText_le (PyData.shownAll ds)
  have b : ts.length * (w + 2) ≤ 20 * 40002 := Nat.mul_le_mul hl (by omega)
  refine ⟨(PyData.list ds).shown, ?_⟩
  unfold reprOf
  show (match (T.lst ts).pd with | some d => _ | none => _) = _
  simp only [T.pd, h1, Option.map_some]
  have e1 : (PyData.list ds).showable = true := h2
  have e2 : (PyData.list ds).shown.length ≤ sizeLine := by
    show (listText (PyData.shownAll ds)).length ≤ _
    rw [sizeLine_eq]; omega
  have e3 : (PyData.list ds).depth ≤ 64 := by simp [PyData.depth]; omega
  rw [e1, decide_eq_true e2, decide_eq_true e3]
  rfl
theorem els_tup {w : Nat} {x : Str} {ts : List T} {st : Sto} (h : ∀ t ∈ ts, El w t) (hl : ts.length ≤ 20) (hw : w ≤ 40000) (hx : El w (.str x)) : ∃ z, reprOf st (.tup (.str x :: ts)) = some z := by
  obtain ⟨ds, h1, h2, h3, h4⟩ := els_pd (ts := .str x :: ts) (w := w) (fun t ht => by
    rcases List.mem_cons.mp ht with rfl | ht
    · exact hx
    · exact h t ht)
  have a := tupleText_le (PyData.shownAll ds)
  have b : (T.str x :: ts).length * (w + 2) ≤ 21 * 40002 := Nat.mul_le_mul (by simp; omega) (by omega)
  refine ⟨(PyData.tuple ds).shown, ?_⟩
  unfold reprOf
  show (match (T.tup (.str x :: ts)).pd with | some d => _ | none => _) = _
  simp only [T.pd, h1, Option.map_some]
  have e1 : (PyData.tuple ds).showable = true := h2
  have e2 : (PyData.tuple ds).shown.length ≤ sizeLine := by
    show (tupleText (PyData.shownAll ds)).length ≤ _
    rw [sizeLine_eq]; omega
  have e3 : (PyData.tuple ds).depth ≤ 64 := by simp [PyData.depth]; omega
  rw [e1, decide_eq_true e2, decide_eq_true e3]
  rfl
theorem els_split {w : Nat} {ts : List T} (h : ∀ t ∈ ts, El w t) : (∀ t ∈ ts, BT 20 w t) ∨ ∃ t ∈ ts, notTup t = true := by
  by_cases hb : ∃ t ∈ ts, notTup t = true
  · exact .inr hb
  · exact .inl fun t ht => (h t ht).k.elim id fun hn => absurd ⟨t, ht, hn⟩ hb
theorem nt_fm {d : Nat} {t : T} (h : notTup t = true) : isF d t = false := fm_nt fun w ps e => by subst e; simp [notTup] at h
theorem bts_gd {w : Nat} {x : Str} (hx : x = "seq" ∨ x = "par") {ts : List T} (h : ∀ t ∈ ts, BT 20 w t) (hl : ts.length ≤ 20) (hw : w ≤ 40000) : Gd (.tup (.str x :: ts)) ∧ (T.tup (.str x :: ts)).dep ≤ 24 := by
  have hw' : ∀ {ts : List T}, (∀ t ∈ ts, BT 20 w t) → T.wts ts ≤ ts.length * (w + 2) := by
    intro ts
    induction ts with
    | nil => intro _; simp [T.wts]
    | cons t ts ih =>
      intro h
      have a := ih fun u hu => h u (List.mem_cons_of_mem _ hu)
      have b := (h t List.mem_cons_self).wt
      simp only [T.wts, List.length_cons]
      rw [Nat.add_mul]
      omega
  have bs : BT 0 62 (.str x) := by rcases hx with rfl | rfl <;> exact ⟨by decide +kernel, by decide +kernel, by decide +kernel, by decide +kernel⟩
  have l : LS 20 (ts.length * (w + 2)) ts := ⟨T.trs_all.mpr fun t ht => (h t ht).tr, T.nds_all.mpr fun t ht => (h t ht).nd, T.deps_le.mpr fun t ht => (h t ht).dp, hw' h⟩
  have b : ts.length * (w + 2) ≤ 20 * 40002 := Nat.mul_le_mul hl (by omega)
  have q := (LS.cons (bs.mono (n' := 20) (by omega) (Nat.le_refl _)) l (Nat.le_refl _)).tup
  exact ⟨q.gd (by omega) (by omega), Nat.le_trans q.dp (by omega)⟩
end Ga
namespace Ga
open PySem L2 Mi
theorem nt_fp {t : T} (h : notTup t = true) : isP 9 t = false := by
  show partFm (isF 8) (isF 9) t = false
  unfold partFm
  split
  · simp [notTup] at h
  · exact nt_fm h
theorem el_formed {k : Nat} (hk : 20 ≤ k) {w : Nat} {t : T} {st : Sto} (h : El w t) (hw : w ≤ 40000) : callF k .is_formed [t, .int 9] st = .ok (.bl (isF 9 t)) st := by
  rcases h.k with b | hn
  · exact (r_formed 9).1 k (by omega) t st (b.gd (by omega) (by omega))
  · rw [nt_fm hn]
    obtain ⟨i, rfl⟩ : ∃ i, k = i + 1 := ⟨k - 1, by omega⟩
    apply Ok.eq
    rw [run_is_formed, Ok_runF]
    unfold b_is_formed
    have hp := h.pl
    cases t <;> simp [plainT, notTup] at hp hn <;> simp [fIsiS, tyName, isTy]
theorem el_part {k : Nat} (hk : 21 ≤ k) {w : Nat} {t : T} {st : Sto} (h : El w t) (hw : w ≤ 40000) : callF k .is_formed_part [t, .int 9] st = .ok (.bl (isP 9 t)) st := by
  rcases h.k with b | hn
  · exact (r_formed 9).2 k (by omega) t st (b.gd (by omega) (by omega))
  · obtain ⟨i, rfl⟩ : ∃ i, k = i + 1 := ⟨k - 1, by omega⟩
    have e := el_formed (k := i) (by omega) (st := st) h hw
    rw [nt_fm hn] at e
    rw [nt_fp hn]
    apply Ok.eq
    rw [run_is_formed_part, Ok_runF]
    unfold b_is_formed_part
    have hp := h.pl
    cases t <;> simp [plainT, notTup] at hp hn <;> simp [fIsiS, tyName, isTy, e]
theorem el_formed10 {k : Nat} (hk : 22 ≤ k) {w : Nat} {x : Str} (hx : x = "seq" ∨ x = "par") {ps : List T} {st : Sto} (h : ∀ t ∈ ps, El w t) (hw : w ≤ 40000) (hl : ps.length ≤ 12) :
    callF k .is_formed [.tup (.str x :: ps), .int 10] st = .ok (.bl (isF 10 (.tup (.str x :: ps)))) st := by
  obtain ⟨i, rfl⟩ : ∃ i, k = i + 1 := ⟨k - 1, by omega⟩
  have e1 : lcW (tgN 4) mYes (mCall 2 (callF i .is_formed) (mCons (mVar 4) (mCons (mBin opSub (mVar 1) (mC (.int 1))) mNil)))
      (wipeT [some (.tup (.str x :: ps)), some (.int 10), some (.str x), some (.tup ps), none] [4]) (.seq ps) st = .ok (ps.map fun t => .bl (isF 9 t)) st := by
    refine lc_map _ ps (len_le 12 hl) fun t ht => ⟨_, rfl, rfl, ?_⟩
    apply Ok.eq
    simp [wipeT, el_formed (k := i) (by omega) (st := st) (h t ht) hw]
  have e2 : lcW (tgN 4) mYes (mCall 2 (callF i .is_formed_part) (mCons (mVar 4) (mCons (mBin opSub (mVar 1) (mC (.int 1))) mNil)))
      (wipeT [some (.tup (.str x :: ps)), some (.int 10), some (.str x), some (.tup ps), none] [4]) (.seq ps) st = .ok (ps.map fun t => .bl (isP 9 t)) st := by
    refine lc_map _ ps (len_le 12 hl) fun t ht => ⟨_, rfl, rfl, ?_⟩
    apply Ok.eq
    simp [wipeT, el_part (k := i) (by omega) (st := st) (h t ht) hw]
  have h' : (ps.length : Int) ≤ 12 := by omega
  have g0 : ¬ ((ps.length : Int) + 1 = 0) := by omega
  apply Ok.eq
  rw [run_is_formed, Ok_runF]
  unfold b_is_formed
  show OkS _ _ (fun b s => b = T.bl (stepFm (isF 9) (isP 9) (.tup (.str x :: ps))) ∧ s = st) _ _ _
  rcases hx with rfl | rfl
  · simp [g0, fIsiS, tyName, isTy, fLen, seqR, atI_0, cut1, beqS, stepFm, hl, h', Ok_lc, e1, -List.all_eq_true, -List.all_eq_false]
  · simp [g0, fIsiS, tyName, isTy, fLen, seqR, atI_0, cut1, beqS, stepFm, hl, h', Ok_lc, e2, -List.all_eq_true, -List.all_eq_false]
theorem bad_fm {x : Str} (hx : x = "seq" ∨ x = "par") {ps : List T} (hb : ∃ t ∈ ps, notTup t = true) : isF 10 (.tup (.str x :: ps)) = false := by
  obtain ⟨t, ht, hn⟩ := hb
  show stepFm (isF 9) (isP 9) (.tup (.str x :: ps)) = false
  have a1 : ps.all (isF 9) = false := List.all_eq_false.mpr ⟨t, ht, by rw [nt_fm hn]; simp⟩
  have a2 : ps.all (isP 9) = false := List.all_eq_false.mpr ⟨t, ht, by rw [nt_fp hn]; simp⟩
  rcases hx with rfl | rfl
  · simp [stepFm, a1, -List.all_eq_true, -List.all_eq_false]
  · simp [stepFm, a2, -List.all_eq_true, -List.all_eq_false]
theorem fm_isPlan {t : T} (h : isF 10 t = false) : isPlan t = false := by
  have e0 : isF 10 t = ((sz 10 t).isSome && !spl t) := (fmd_sz 10 t).1
  rw [h] at e0
  unfold isPlan
  split
  · rename_i s hs
    rw [hs] at e0
    simp at e0
    simp [e0]
  · rfl
theorem r_plan_el {k : Nat} (hk : 24 ≤ k) {w : Nat} {x : Str} (hx : x = "seq" ∨ x = "par") {ps : List T} {st : Sto} (h : ∀ t ∈ ps, El w t) (hw : w ≤ 40000) (hl : ps.length ≤ 12) :
    callF k .is_plan [.tup (.str x :: ps)] st = .ok (.bl (isPlan (.tup (.str x :: ps)))) st := by
  rcases els_split h with hg | hb
  · exact r_is_plan hk (bts_gd hx hg (by omega) hw).1
  · obtain ⟨i, rfl⟩ : ∃ i, k = i + 1 := ⟨k - 1, by omega⟩
    have e := el_formed10 (k := i) (by omega) hx (st := st) h hw hl
    rw [bad_fm hx hb] at e
    rw [fm_isPlan (bad_fm hx hb)]
    apply Ok.eq
    rw [run_is_plan, Ok_runF]
    unfold b_is_plan
    simp [e]
theorem nt_sizes {k : Nat} {t : T} {st : Sto} (h : plainT t = true) (hn : notTup t = true) : callF (k + 1) .L_sizes [t] st = .ok .non st := by
  apply Ok.eq
  rw [run_L_sizes, Ok_runF]
  unfold b_L_sizes
  cases t <;> simp [plainT, notTup] at h hn <;> simp [fIsiS, tyName, isTy]
theorem loop_bad {i w : Nat} {w0 : Str} {ps : List T} {x1 : Option T} (hw : w ≤ 40000) (hwo : PyData.strOk w0 = true) (hi : 30 ≤ i) {inner : List T} (gi : ∀ t ∈ inner, El w t) (hb : ∃ t ∈ inner, notTup t = true) {a : Sz} {x3 x4 : Option T} {st : Sto} :
    OkS (forL (gSet 3) (w_L_sizes_0 (callF i)) inner [some (.tup (.str w0 :: ps)), x1, some (szO (some a)), x3, x4] st) (fun _ _ => False)
      (fun t st' => t = .non ∧ st' = st) (fun _ _ => False) (fun _ _ => False) (fun _ _ _ => False) := by
  refine for_rec (fun rest ρ st' => st' = st ∧ (∀ t ∈ rest, El w t) ∧ (∃ t ∈ rest, notTup t = true) ∧ ∃ b x3 x4, ρ = [some (.tup (.str w0 :: ps)), x1, some (szO (some b)), x3, x4]) ⟨rfl, gi, hb, a, x3, x4, rfl⟩ ?_ ?_
  · rintro t rest ρ st' ⟨rfl, gr, hbad, b, y3, y4, rfl⟩
    have ht := gr t (List.mem_cons_self ..)
    have grest : ∀ t ∈ rest, El w t := fun u hu => gr u (List.mem_cons_of_mem _ hu)
    simp only [Ok_gSet, List.set_cons_succ, List.set_cons_zero]
    unfold w_L_sizes_0
    by_cases hn : notTup t = true
    · obtain ⟨j, rfl⟩ : ∃ j, i = j + 1 := ⟨i - 1, by omega⟩
      have e := nt_sizes (k := j) (st := st') ht.pl hn
      simp [e, Mi.isNon]
    · have hbr : ∃ u ∈ rest, notTup u = true := by
        obtain ⟨u, hu, hnu⟩ := hbad
        rcases List.mem_cons.mp hu with rfl | hu
        · exact absurd hnu hn
        · exact ⟨u, hu, hnu⟩
      have bt : BT 20 w t := ht.k.elim id fun h => absurd h hn
      have e := r_sizes 23 i (by omega) t st' (bt.gd (by omega) (by omega)) (by have := bt.dp; omega)
      cases hs : sz 23 t with
      | none =>
        rw [hs] at e
        simp [e, szO, Mi.isNon]
      | some u =>
        rw [hs] at e
        obtain ⟨w', qs, rfl, _⟩ := sz_shape hs
        have fin : ∃ b_1 : Sz, ((b.o : Int) + u.o = b_1.o ∧ (b.r : Int) + u.r = b_1.r ∧ (b.n : Int) + u.n = b_1.n ∧ (if (b.k : Int) < u.k + 1 then (u.k : Int) + 1 else b.k) = b_1.k) :=
          ⟨b.add u, by simp only [Sz.add]; refine ⟨by omega, by omega, by omega, ?_⟩; split <;> omega⟩
        have sp0 : PyData.strOk ("split" : Str) = true := by decide +kernel
        simp [e, szO, Mi.isNon, atI_0, atI_1, atI_2, atI_3, beqS, hwo, fMax2, sizeLine_eq]
        by_cases hw' : w' = "split"
        · subst hw'
          by_cases hp : w0 = "par"
          · simp [hp, beqS]
            exact ⟨grest, hbr, fin⟩
          · simp [hp, beqS]
        · simp [hw']
          exact ⟨grest, hbr, fin⟩
  · rintro ρ st' ⟨rfl, _, ⟨u, hu, _⟩, _⟩
    cases hu
theorem r_lis_el {k : Nat} (hk : 33 ≤ k) {w : Nat} {x : Str} (hx : x = "seq" ∨ x = "par") {ps : List T} {st : Sto} (h : ∀ t ∈ ps, El w t) (hw : w ≤ 40000) (hl : ps.length ≤ 12) :
    callF k .L_is_plan [.tup (.str x :: ps)] st = .ok (.bl (isPlan (.tup (.str x :: ps)))) st := by
  rcases els_split h with hg | hb
  · obtain ⟨g1, g2⟩ := bts_gd hx hg (by omega) hw
    exact r_lis (by omega) g1 g2
  · rw [fm_isPlan (bad_fm hx hb)]
    obtain ⟨i, rfl⟩ : ∃ i, k = i + 2 := ⟨k - 2, by omega⟩
    have hw0 : PyData.strOk x = true := by rcases hx with rfl | rfl <;> decide +kernel
    have ht : ¬ (12 : Int) < ps.length := by omega
    have s0 : PyData.strOk ("seq" : Str) = true := by decide +kernel
    have s1 : PyData.strOk ("par" : Str) = true := by decide +kernel
    have e5 : inD (.str x) [.str "seq", .str "par", .str "named", .str "retry", .str "split"] = true := by
      simp only [inD_cons, inD_nil, eqv_str, beqS]
      rcases hx with rfl | rfl <;> simp
    have hd : ¬ x = "draw" := by rcases hx with rfl | rfl <;> simp
    have ea2 : (T.lst [.int 0, .int 0, .int 1, .int 1]) = szO (some ⟨0, 0, 1, 1⟩) := rfl
    have es : callF (i + 1) .L_sizes [.tup (.str x :: ps)] st = .ok .non st := by
      apply Ok.eq
      rw [run_L_sizes, Ok_runF]
      unfold b_L_sizes
      show OkS (sCons _ _ [some (.tup (.str x :: ps)), none, none, none, none] st) _ _ _ _ _
      rw [OkS_cons]
      simp [-OkS_cons, fIsiS, tyName, isTy, atI_0]
      rw [OkS_cons]
      simp [-OkS_cons, atI_0, beqS, hd]
      rw [OkS_cons]
      simp [-OkS_cons, atI_0, beqS, sizeLine_eq, sh_w5, hw0, e5]
      unfold b_L_sizes_3
      rw [OkS_cons]
      simp [-OkS_cons, cut1]
      have K6 : OkS (b_L_sizes_6 (callF i) [some (.tup (.str x :: ps)), some (.tup ps), none, none, none] st) (fun _ st' => st' = st) (fun b st' => b = .non ∧ st' = st) (fun _ _ => False) (fun _ _ => False) (fun e x st => noE e st) := by
        unfold b_L_sizes_6
        rw [OkS_cons]
        have n1 : ¬ x = "split" := by rcases hx with rfl | rfl <;> simp
        have n2 : ¬ x = "retry" := by rcases hx with rfl | rfl <;> simp
        simp [-OkS_cons, atI_0, beqS, sizeLine_eq, n1, n2]
        rw [ea2, OkS_cons]
        simp [-OkS_cons]
        refine OkS.imp (loop_bad hw hw0 (by omega) h hb) ?_ ?_ (fun _ _ h => h) (fun _ _ h => h) (fun _ _ _ h => h)
        · rintro ρ st' h
          exact h.elim
        · rintro t st' ⟨rfl, rfl⟩
          exact ⟨rfl, rfl⟩
      unfold b_L_sizes_4
      rw [OkS_cons]
      rcases hx with rfl | rfl
      · simp [-OkS_cons, atI_0, beqS]
        rw [OkS_cons]
        simp [-OkS_cons, atI_0, beqS, sizeLine_eq, sh_rs, s0, inD_cons, inD_nil, eqv_str, fLen, seqR, ht]
        exact K6
      · simp [-OkS_cons, atI_0, beqS]
        rw [OkS_cons]
        simp [-OkS_cons, atI_0, beqS, sizeLine_eq, sh_rs, s1, inD_cons, inD_nil, eqv_str, fLen, seqR, ht]
        exact K6
    apply Ok.eq
    rw [run_L_is_plan, Ok_runF]
    unfold b_L_is_plan
    simp [es, Mi.isNon]
end Ga
namespace Ga
open PySem L2 Mi
theorem exq {r : R T} {x : Exn} {st : Sto} (h : Ok r (fun _ _ => False) (fun e s => e = x ∧ s = st)) : r = .exc x st := by
  cases r with
  | ok b s => exact h.elim
  | exc e s => obtain ⟨h1, h2⟩ := h; rw [h1, h2]
  | bad => exact h.elim
theorem w101 : ∃ z, wordT 101 = some z ∧ ("! " : Str) ++ z = "! InvalidPlan" ∧ z.length ≤ 1000 := ⟨_, rfl, by decide +kernel, by decide +kernel⟩
def resP (x : Str) (ps : List T) (st : Sto) : R T := if isPlan (.tup (.str x :: ps)) then .ok (.tup (.str x :: ps)) st else .exc ⟨101, []⟩ st
theorem r_check_b {k : Nat} {t : T} {st : Sto} {b : Bool} (e : callF k .is_plan [t] st = .ok (.bl b) st) : callF (k + 1) .check_plan [t] st = if b then .ok .non st else .exc ⟨101, []⟩ st := by
  cases b with
  | true =>
    apply Ok.eq
    rw [run_check_plan, Ok_runF]
    unfold b_check_plan
    simp [e]
  | false =>
    apply exq
    rw [run_check_plan, Ok_runF]
    unfold b_check_plan
    simp [e]
theorem r_seq {k : Nat} (hk : 26 ≤ k) {w : Nat} {ps : List T} {st : Sto} (h : ∀ t ∈ ps, El w t) (hw : w ≤ 40000) (hl : ps.length ≤ 12) : callF k .seq [.tup ps] st = resP "seq" ps st := by
  obtain ⟨i, rfl⟩ : ∃ i, k = i + 2 := ⟨k - 2, by omega⟩
  have e := r_check_b (r_plan_el (k := i) (by omega) (.inl rfl) (st := st) h hw hl)
  unfold resP
  cases hb : isPlan (.tup (.str "seq" :: ps)) with
  | true =>
    rw [hb] at e
    apply Ok.eq
    rw [run_seq, Ok_runF]
    unfold b_seq
    simp [seqR, sizeLine_eq, e]
    omega
  | false =>
    rw [hb] at e
    apply exq
    rw [run_seq, Ok_runF]
    unfold b_seq
    simp [seqR, sizeLine_eq, e]
    omega
theorem r_par {k : Nat} (hk : 26 ≤ k) {w : Nat} {ps : List T} {st : Sto} (h : ∀ t ∈ ps, El w t) (hw : w ≤ 40000) (hl : ps.length ≤ 12) : callF k .par [.tup ps] st = resP "par" ps st := by
  obtain ⟨i, rfl⟩ : ∃ i, k = i + 2 := ⟨k - 2, by omega⟩
  have e := r_check_b (r_plan_el (k := i) (by omega) (.inr rfl) (st := st) h hw hl)
  unfold resP
  cases hb : isPlan (.tup (.str "par" :: ps)) with
  | true =>
    rw [hb] at e
    apply Ok.eq
    rw [run_par, Ok_runF]
    unfold b_par
    simp [seqR, sizeLine_eq, e]
    omega
  | false =>
    rw [hb] at e
    apply exq
    rw [run_par, Ok_runF]
    unfold b_par
    simp [seqR, sizeLine_eq, e]
    omega
@[simp] theorem Ok_callV2 {n1 n2 j : Nat} {F1 F2 : List T → Sto → R T} {ma : M (List T)} {x0 x1 : Option T} {ρ : Sl} {st : Sto} {Q : T → Sto → Prop} {E : Exn → Sto → Prop} : Ok (mCallV 2 n1 n2 F1 F2 ma (x0 :: x1 :: some (.adr j) :: ρ) st) Q E ↔ Ok (if j = n1 then (ma (x0 :: x1 :: some (.adr j) :: ρ) st).bind (starF 0 F1) else if j = n2 then (ma (x0 :: x1 :: some (.adr j) :: ρ) st).bind (starF 0 F2) else .bad) Q E := Iff.rfl
@[simp] theorem Ok_star0 {F : List T → Sto → R T} {ts : List T} {st : Sto} {Q : T → Sto → Prop} {E : Exn → Sto → Prop} : Ok (starF 0 F ts st) Q E ↔ ts.length ≤ sizeLine ∧ Ok (F [.tup ts] st) Q E := by
  unfold starF
  by_cases h : ts.length ≤ sizeLine
  · rw [if_pos ⟨Nat.zero_le _, h⟩]
    simp [h]
  · rw [if_neg fun g => h g.2]
    simp [h]
theorem atI_4 {a b c d e : T} {l : List T} : atI (a :: b :: c :: d :: e :: l) 4 = some e := by
  have : (4 : Int) < ((l.length : Int) + 1 + 1 + 1 + 1 + 1) := by omega
  simp [atI, ixN, this]
theorem atI_5 {a b c d e f : T} {l : List T} : atI (a :: b :: c :: d :: e :: f :: l) 5 = some f := by
  have : (5 : Int) < ((l.length : Int) + 1 + 1 + 1 + 1 + 1 + 1) := by omega
  simp [atI, ixN, this]
theorem put_seq {k : Nat} {ps : List T} {st : Sto} {Q : T → Sto → Prop} {E : Exn → Sto → Prop} (hl : ps.length ≤ 6) (h : Ok (callF k .seq [.tup ps] st) Q E) : Ok (callF (k + 1) .L_put [.str "seq", .lst ps] st) Q E := by
  rw [run_L_put, Ok_runF]
  unfold b_L_put
  match ps, hl, h with
  | [], _, h => simpa [fLen, seqR, lstR, beqS, sizeLine_eq] using h
  | [_], _, h => simpa [fLen, seqR, lstR, beqS, sizeLine_eq, atI_0] using h
  | [_, _], _, h => simpa [fLen, seqR, lstR, beqS, sizeLine_eq, atI_0, atI_1] using h
  | [_, _, _], _, h => simpa [fLen, seqR, lstR, beqS, sizeLine_eq, atI_0, atI_1, atI_2] using h
  | [_, _, _, _], _, h => simpa [fLen, seqR, lstR, beqS, sizeLine_eq, atI_0, atI_1, atI_2, atI_3] using h
  | [_, _, _, _, _], _, h => simpa [fLen, seqR, lstR, beqS, sizeLine_eq, atI_0, atI_1, atI_2, atI_3, atI_4] using h
  | [_, _, _, _, _, _], _, h => simpa [fLen, seqR, lstR, beqS, sizeLine_eq, atI_0, atI_1, atI_2, atI_3, atI_4, atI_5] using h
  | _ :: _ :: _ :: _ :: _ :: _ :: _ :: _, h, _ => exact absurd h (by simp)
theorem put_par {k : Nat} {ps : List T} {st : Sto} {Q : T → Sto → Prop} {E : Exn → Sto → Prop} (hl : ps.length ≤ 6) (h : Ok (callF k .par [.tup ps] st) Q E) : Ok (callF (k + 1) .L_put [.str "par", .lst ps] st) Q E := by
  rw [run_L_put, Ok_runF]
  unfold b_L_put
  match ps, hl, h with
  | [], _, h => simpa [fLen, seqR, lstR, beqS, sizeLine_eq] using h
  | [_], _, h => simpa [fLen, seqR, lstR, beqS, sizeLine_eq, atI_0] using h
  | [_, _], _, h => simpa [fLen, seqR, lstR, beqS, sizeLine_eq, atI_0, atI_1] using h
  | [_, _, _], _, h => simpa [fLen, seqR, lstR, beqS, sizeLine_eq, atI_0, atI_1, atI_2] using h
  | [_, _, _, _], _, h => simpa [fLen, seqR, lstR, beqS, sizeLine_eq, atI_0, atI_1, atI_2, atI_3] using h
  | [_, _, _, _, _], _, h => simpa [fLen, seqR, lstR, beqS, sizeLine_eq, atI_0, atI_1, atI_2, atI_3, atI_4] using h
  | [_, _, _, _, _, _], _, h => simpa [fLen, seqR, lstR, beqS, sizeLine_eq, atI_0, atI_1, atI_2, atI_3, atI_4, atI_5] using h
  | _ :: _ :: _ :: _ :: _ :: _ :: _ :: _, h, _ => exact absurd h (by simp)
theorem resP_eq {r : R T} {x : Str} {ps : List T} {st : Sto} (h : Ok r (fun t s => isPlan (.tup (.str x :: ps)) = true ∧ t = .tup (.str x :: ps) ∧ s = st) (fun e s => isPlan (.tup (.str x :: ps)) = false ∧ e = ⟨101, []⟩ ∧ s = st)) : r = resP x ps st := by
  unfold resP
  cases r with
  | ok b s => obtain ⟨h1, h2, h3⟩ := h; rw [h1, h2, h3]; rfl
  | exc e s => obtain ⟨h1, h2, h3⟩ := h; rw [h1, h2, h3]; rfl
  | bad => exact h.elim
theorem resP_ok {x : Str} {ps : List T} {st : Sto} : Ok (resP x ps st) (fun t s => isPlan (.tup (.str x :: ps)) = true ∧ t = .tup (.str x :: ps) ∧ s = st) (fun e s => isPlan (.tup (.str x :: ps)) = false ∧ e = ⟨101, []⟩ ∧ s = st) := by
  unfold resP
  cases hb : isPlan (.tup (.str x :: ps)) with
  | true => exact ⟨rfl, rfl, rfl⟩
  | false => exact ⟨rfl, rfl, rfl⟩
theorem r_put {k : Nat} (hk : 27 ≤ k) {w : Nat} {x : Str} (hx : x = "seq" ∨ x = "par") {ps : List T} {st : Sto} (h : ∀ t ∈ ps, El w t) (hw : w ≤ 40000) (hl : ps.length ≤ 6) : callF k .L_put [.str x, .lst ps] st = resP x ps st := by
  obtain ⟨i, rfl⟩ : ∃ i, k = i + 1 := ⟨k - 1, by omega⟩
  rcases hx with rfl | rfl
  · exact resP_eq (put_seq hl (by rw [r_seq (by omega) h hw (by omega)]; exact resP_ok))
  · exact resP_eq (put_par hl (by rw [r_par (by omega) h hw (by omega)]; exact resP_ok))
theorem el_word {x : Str} (hx : x = "seq" ∨ x = "par") : El 500 (.str x) := by
  rcases hx with rfl | rfl <;> exact okEl_el (by decide +kernel)
theorem El.mono {v w : Nat} {t : T} (h : El v t) (hw : v ≤ w) : El w t := by
  obtain ⟨d, h1, h2, h3, h4⟩ := h.rp
  exact ⟨h.pl, ⟨d, h1, h2, by omega, h4⟩, h.k.imp (fun b => b.mono (Nat.le_refl _) hw) id⟩
def dueP (x : Str) (ps : List T) (z : Str) : Str := if isPlan (.tup (.str x :: ps)) then z else "! InvalidPlan"
theorem said_put {k : Nat} (hk : 27 ≤ k) {w : Nat} {x : Str} (hx : x = "seq" ∨ x = "par") {ps : List T} {st : Sto} {ρ : Sl} (h : ∀ t ∈ ps, El w t) (hw : w ≤ 40000) (hl : ps.length ≤ 6) {z : Str} (hz : reprOf st (.tup (.str x :: ps)) = some z) :
    mSaid wordT fRepr (mCall 2 (callF k .L_put) (mCons (mVar 0) (mCons (mVar 1) mNil))) (some (.str x) :: some (.lst ps) :: ρ) st = .ok (.str (dueP x ps z)) st := by
  have e : mCall 2 (callF k .L_put) (mCons (mVar 0) (mCons (mVar 1) mNil)) (some (.str x) :: some (.lst ps) :: ρ) st = resP x ps st := r_put hk hx h hw hl
  unfold mSaid dueP
  rw [e]
  unfold resP
  cases hb : isPlan (.tup (.str x :: ps)) with
  | true =>
    simp only [if_true, fRepr, hz]
    rfl
  | false =>
    obtain ⟨y, h1, h2, h3⟩ := w101
    simp only [Bool.false_eq_true, if_false, h1]
    have e1 : ("! " : Str).length = 2 := rfl
    rw [if_pos ⟨by rw [e1, sizeLine_eq]; omega, trivial⟩, h2]
theorem r_got {k : Nat} (hk : 37 ≤ k) {w : Nat} {x : Str} (hx : x = "seq" ∨ x = "par") {ps : List T} {st : Sto} (h : ∀ t ∈ ps, El w t) (hw : 500 ≤ w) (hw2 : w ≤ 40000) (hl : ps.length ≤ 6) : callF k .L_got [.str x, .lst ps] st = .ok (.bl true) st := by
  obtain ⟨i, rfl⟩ : ∃ i, k = i + 1 := ⟨k - 1, by omega⟩
  obtain ⟨z0, hz0⟩ := els_lst (st := st) h (by omega) hw2
  obtain ⟨z, hz⟩ := els_tup (st := st) h (by omega) hw2 ((el_word hx).mono hw)
  have e1 := r_lis_el (k := i) (by omega) hx (st := st) h hw2 (by omega)
  have es := fun ρ => said_put (k := i) (by omega) hx (ρ := ρ) h hw2 hl hz
  have rb0 : ∀ {Q : T → Sto → Prop} {E : Exn → Sto → Prop}, Ok (fRepr [.lst ps] st) Q E ↔ Q (.str z0) st := fun {Q E} => by simp only [fRepr, hz0, Ok_ok]
  have rb : ∀ {Q : T → Sto → Prop} {E : Exn → Sto → Prop}, Ok (fRepr [.tup (.str x :: ps)] st) Q E ↔ Q (.str z) st := fun {Q E} => by simp only [fRepr, hz, Ok_ok]
  have lp : ∀ {y4 : Option T}, OkS (sCons (sFor (mRng itRng1 (mCons (mC (.int 2)) mNil)) (gSet 4) (w_L_got_0 (callF i)))
      (sCons (sRet (mBin (opEqB false) (mApp fRepr (mCons (mVar 1) mNil)) (mVar 2))) sNil) [some (.str x), some (.lst ps), some (.str z0), some (.str (dueP x ps z)), y4] st) (fun _ st' => T.non = .bl true ∧ st' = st) (fun b s => b = .bl true ∧ s = st) (fun _ _ => False) (fun _ _ => False) (fun e x st => noE e st) := by
    intro y4
    rw [OkS_cons]
    simp only [OkS_for, Ok_rng1, Ok_cons, Ok_C, Ok_nil, List.cons.injEq, T.int.injEq, and_true, exists_eq_left']
    refine ⟨by decide, ?_⟩
    refine for_rec (fun rest ρ st' => st' = st ∧ ∃ y4, ρ = [some (.str x), some (.lst ps), some (.str z0), some (.str (dueP x ps z)), y4]) ⟨rfl, _, rfl⟩ ?_ ?_
    · rintro t rest ρ st' ⟨rfl, y4, rfl⟩
      simp only [Ok_gSet, List.set_cons_succ, List.set_cons_zero]
      unfold w_L_got_0
      simp [es, beqS]
    · rintro ρ st' ⟨rfl, y4, rfl⟩
      simp [rb0, beqS]
  apply Ok.eq
  rw [run_L_got, Ok_runF]
  unfold b_L_got
  show OkS (sCons _ _ [some (.str x), some (.lst ps), none, none, none] st) _ _ _ _ _
  have hsz : ps.length ≤ sizeLine := by rw [sizeLine_eq]; omega
  rw [OkS_cons]
  simp [-OkS_cons, rb0]
  rw [OkS_cons]
  simp [-OkS_cons, fTuple, lstR, opAdd, sizeLine_eq, e1]
  refine ⟨by omega, ?_⟩
  cases hb : isPlan (.tup (.str x :: ps)) with
  | true =>
    simp [-OkS_cons]
    rw [OkS_cons]
    simp [-OkS_cons, fTuple, lstR, opAdd, sizeLine_eq, rb]
    refine ⟨by omega, ?_⟩
    have := lp (y4 := none)
    unfold dueP at this
    rw [hb] at this
    simpa [-OkS_cons] using this
  | false =>
    have := lp (y4 := none)
    unfold dueP at this
    rw [hb] at this
    simpa [-OkS_cons] using this
end Ga
namespace Ga
open PySem L2 Mi
theorem Ok_get {α : Type} {r : R α} {Q : α → Sto → Prop} (h : Ok r Q noE) : ∃ a st, r = .ok a st ∧ Q a st := by
  cases r with
  | ok a st => exact ⟨a, st, rfl, h⟩
  | exc e st => exact h.elim
  | bad => exact h.elim
end Ga
namespace Ga
open PySem L2 Mi
theorem lcL_rel {g : T → Sl → Option Sl} {tt : M Bool} {elt : M T} {ρ : Sl} (P : T → Prop) (Inv : Nat → Sto → Prop) {M : Nat} : ∀ {ts : List T} {n : Nat} {st : Sto}, n + ts.length ≤ M → Inv n st →
    (∀ t ∈ ts, ∀ n st, n < M → Inv n st → ∃ ρ1, g t ρ = some ρ1 ∧ tt ρ1 st = .ok true st ∧ Ok (elt ρ1 st) (fun u st' => P u ∧ Inv (n + 1) st') noE) →
    Ok (lcL g tt elt ρ ts st) (fun us st' => us.length = ts.length ∧ (∀ u ∈ us, P u) ∧ Inv (n + ts.length) st') noE
  | [], n, st, _, h, _ => ⟨rfl, (fun u hu => by cases hu), h⟩
  | t :: ts, n, st, hM, h, step => by
    rw [List.length_cons] at hM
    obtain ⟨ρ1, h1, h2, h3⟩ := step t List.mem_cons_self n st (by omega) h
    obtain ⟨u, st1, e, hu, hI⟩ := Ok_get h3
    obtain ⟨us, st2, e2, hl, hus, hI2⟩ := Ok_get (lcL_rel P Inv (by omega) hI fun v hv => step v (List.mem_cons_of_mem _ hv))
    have : lcL g tt elt ρ (t :: ts) st = .ok (u :: us) st2 := by
      unfold lcL
      rw [h1]
      simp only [h2]
      show (noExc (elt ρ1 st)).bind _ = _
      rw [e]
      show (lcL g tt elt ρ ts st1).bind _ = _
      rw [e2]
      rfl
    rw [this]
    refine ⟨by simp [hl], fun v hv => ?_, ?_⟩
    · rcases List.mem_cons.mp hv with rfl | hv
      · exact hu
      · exact hus v hv
    · rw [List.length_cons, show n + (ts.length + 1) = n + 1 + ts.length by omega]
      exact hI2
def OdI (st : Sto) (n : Nat) (ρ : Sl) (st' : Sto) : Prop := ∃ r g a, ρ = [some (.ref r)] ∧ st' = st ++ g ∧ st'[r]? = some (.lst a) ∧ st.length ≤ r ∧ (∀ t ∈ a, El 500 t) ∧ a.length ≤ n ∧ a ≠ []
section
variable {st : Sto} {n : Nat} {ρ : Sl} {st' : Sto} {N : Sl → Sto → Prop} {Rt : T → Sto → Prop} {B C : Sl → Sto → Prop} {E : Exn → Sl → Sto → Prop} {rest : SM}
theorem od_all {b : List T} (hb : b.all okEl = true) : ∀ t ∈ b, El 500 t := fun t ht => okEl_el (List.all_eq_true.mp hb t ht)
theorem od_add (h : OdI st n ρ st') {M : M T} {b : List T} (hM : ∀ r st, M [some (.ref r)] st = .ok (.lst b) st) (hb : b.all okEl = true) (hl : n + b.length ≤ 1000)
    (hN : ∀ ρ2 st2, OdI st (n + b.length) ρ2 st2 → OkS (rest ρ2 st2) N Rt B C E) : OkS (sCons (sAsg (mBin opAddS (mVar 0) M) (gSet 0)) rest ρ st') N Rt B C E := by
  obtain ⟨r, g, a, rfl, rfl, h1, h0, h2, h3, h4⟩ := h
  rw [OkS_cons, OkS_asg]
  have e : mBin opAddS (mVar 0) M [some (.ref r)] (st ++ g) = .ok (.ref (st ++ g).length) ((st ++ g) ++ [.lst (a ++ b)]) := by
    show (R.ok (T.ref r) (st ++ g)).bind _ = _
    rw [R.bind_ok, hM, R.bind_ok]
    unfold opAddS
    have e1 : lstD (st ++ g) (.ref r) = some a := by simp [lstD, h1]
    have e2 : lstD (st ++ g) (.lst b) = some b := rfl
    rw [e1, e2]
    simp only
    rw [if_pos (by rw [sizeLine_eq]; omega)]
  rw [e]
  refine hN _ _ ⟨_, g ++ [.lst (a ++ b)], a ++ b, rfl, by simp, by simp, by simp, fun t ht => ?_, by simp; omega, by simp [h4]⟩
  rcases List.mem_append.mp ht with ht | ht
  · exact h2 t ht
  · exact od_all hb t ht
theorem od_app (h : OdI st n ρ st') {M : M T} {b : T} (hM : ∀ r st, M [some (.ref r)] st = .ok b st) (hb : okEl b = true) (hl : n + 1 ≤ 1000)
    (hN : ∀ ρ2 st2, OdI st (n + 1) ρ2 st2 → OkS (rest ρ2 st2) N Rt B C E) : OkS (sCons (sExpr (mMeth "list" fAppend (mVar 0) (mCons M mNil))) rest ρ st') N Rt B C E := by
  obtain ⟨r, g, a, rfl, rfl, h1, h0, h2, h3, h4⟩ := h
  have hr : r < (st ++ g).length := (List.getElem?_eq_some_iff.mp h1).1
  rw [OkS_cons]
  have eM : ∀ {Q : T → Sto → Prop} {E : Exn → Sto → Prop} {st : Sto}, Ok (M [some (.ref r)] st) Q E ↔ Q b st := fun {Q E st} => by rw [hM]; rfl
  simp [-OkS_cons, tyM, lstR, h1, eM, fAppend, atS, sizeLine_eq]
  refine ⟨by omega, hN _ _ ⟨r, g.set (r - st.length) (.lst (a ++ [b])), a ++ [b], rfl, ?_, List.getElem?_set_self hr, h0, fun t ht => ?_, by simp; omega, by simp⟩⟩
  · rw [List.set_append_right _ _ h0]
  · rcases List.mem_append.mp ht with ht | ht
    · exact h2 t ht
    · rw [List.mem_singleton] at ht
      subst ht
      exact okEl_el hb
end
theorem r_odds {k : Nat} {st : Sto} : Ok (callF (k + 1) .L_odds [] st) (fun t st' => ∃ a g, t = .lst a ∧ st' = st ++ g ∧ (∀ t ∈ a, El 500 t) ∧ a ≠ [] ∧ a.length ≤ 900) noE := by
  rw [run_L_odds, Ok_runF]
  unfold b_L_odds
  show OkS (sCons _ _ [none] st) _ _ _ _ _
  rw [OkS_cons, OkS_asg]
  have e0 : ∃ a, (∀ t ∈ a, El 500 t) ∧ a.length ≤ 100 ∧ a ≠ [] ∧ mLstS (mCons (mC .non) (mCons (mC (.bl true)) (mCons (mC (.bl false)) (mCons (mC (.int 0)) (mCons (mC (.int 1)) (mCons (mUn opNeg (mC (.int 1))) (mCons (mBin opPow (mC (.int 10)) (mC (.int 12))) (mCons (mC (.str "")) (mCons (mC (.str "draw")) (mCons (mC (.str "seq")) (mCons (mTup mNil) (mCons (mLst mNil) (mCons mDict0 (mCons (mLst (mCons (mC (.int 0)) mNil)) (mCons (mTup (mCons (mC (.int 0)) mNil)) (mCons (mTup (mCons (mC .non) mNil)) mNil)))))))))))))))) [none] st = .ok (.ref st.length) (st ++ [.lst a]) :=
    ⟨[.non, .bl true, .bl false, .int 0, .int 1, .int (-1), .int (10 ^ 12), .str "", .str "draw", .str "seq", .tup [], .lst [], .dct [] [], .lst [.int 0], .tup [.int 0], .tup [.non]], od_all (by decide +kernel), by decide, by simp, rfl⟩
  obtain ⟨a, h1, h2, h3, e⟩ := e0
  rw [e]
  refine od_add (st := st) (n := 100) ⟨st.length, [.lst a], a, rfl, rfl, by simp, Nat.le_refl _, h1, h2, h3⟩ (fun r st => rfl) (by decide +kernel) (by decide) fun ρ2 st2 i1 => ?_
  refine od_app i1 (fun r st => rfl) (by decide +kernel) (by decide) fun ρ2 st2 i2 => ?_
  refine od_add i2 (fun r st => rfl) (by decide +kernel) (by decide) fun ρ2 st2 i3 => ?_
  refine od_add i3 (fun r st => rfl) (by decide +kernel) (by decide) fun ρ2 st2 i4 => ?_
  refine od_app i4 (fun r st => rfl) (by decide +kernel) (by decide) fun ρ2 st2 i5 => ?_
  refine od_add i5 (fun r st => rfl) (by decide +kernel) (by decide) fun ρ2 st2 i6 => ?_
  refine od_add i6 (fun r st => rfl) (by decide +kernel) (by decide) fun ρ2 st2 i7 => ?_
  refine od_add i7 (fun r st => rfl) (by decide +kernel) (by decide) fun ρ2 st2 i8 => ?_
  refine od_add i8 (fun r st => rfl) (by decide +kernel) (by decide) fun ρ2 st2 i9 => ?_
  refine od_add i9 (fun r st => rfl) (by decide +kernel) (by decide) fun ρ2 st2 i10 => ?_
  refine od_app i10 (fun r st => rfl) (by decide +kernel) (by decide) fun ρ2 st2 i11 => ?_
  obtain ⟨r, g, a, rfl, rfl, g1, g0, g2, g3, g4⟩ := i11
  have fin : ∀ {M : M T} {b : List T} {N : Sl → Sto → Prop} {B C : Sl → Sto → Prop} {E : Exn → Sl → Sto → Prop}, (∀ r st, M [some (.ref r)] st = .ok (.lst b) st) → b.all okEl = true → b.length ≤ 100 → OkS (sCons (sRet (mBin opAdd (mVar 0) M)) sNil [some (.ref r)] (st ++ g)) N (fun t st' => ∃ a g, t = .lst a ∧ st' = st ++ g ∧ (∀ t ∈ a, El 500 t) ∧ a ≠ [] ∧ a.length ≤ 900) B C E := by
    intro M b N B C E hM hb hl
    rw [OkS_cons, OkS_ret]
    have e : mBin opAdd (mVar 0) M [some (.ref r)] (st ++ g) = .ok (.lst (a ++ b)) (st ++ g) := by
      show (R.ok (T.ref r) (st ++ g)).bind _ = _
      rw [R.bind_ok, hM, R.bind_ok]
      show (match lstD (st ++ g) (.ref r), lstD (st ++ g) (.lst b) with | some a, some b => _ | _, _ => _) = _
      have e1 : lstD (st ++ g) (.ref r) = some a := by simp [lstD, g1]
      have e2 : lstD (st ++ g) (.lst b) = some b := rfl
      rw [e1, e2]
      simp only
      rw [if_pos (by rw [sizeLine_eq]; simp at g3; omega)]
    rw [e]
    refine ⟨a ++ b, g, rfl, rfl, fun t ht => ?_, by simp [g4], by simp at g3 ⊢; omega⟩
    rcases List.mem_append.mp ht with ht | ht
    · exact g2 t ht
    · exact od_all hb t ht
  exact fin (fun r st => rfl) (by decide +kernel) (by decide)
end Ga
namespace Ga
open PySem L2 Mi
theorem got_ok {w : Nat} {x : Str} (hx : x = "seq" ∨ x = "par") {ps : List T} {st : Sto} (h : ∀ t ∈ ps, El w t) (hw : 500 ≤ w) (hw2 : w ≤ 40000) (hl : ps.length ≤ 6) : callF 37 .L_got [.str x, .lst ps] st = .ok (.bl true) st := r_got (by decide) hx h hw hw2 hl
theorem el_draw1 : El 500 (.tup [.str "draw", .int 1]) := okEl_el (by decide +kernel)
theorem odds_turn {ns : List Int} {x3 x4 x5 x6 x7 x8 x9 x10 x11 : Option T} {st : Sto} {t : T} (ht : El 500 t) {x2 : Option T} {N : Sl → Sto → Prop} {Rt : T → Sto → Prop} {B C : Sl → Sto → Prop} {E : Exn → Sl → Sto → Prop}
    (hN : ∀ y2, N [some (.frz (ns.map T.int)), some t, y2, x3, x4, x5, x6, x7, x8, x9, x10, x11] st) :
    OkS (w_law_1 (callF 37) [some (.frz (ns.map T.int)), some t, x2, x3, x4, x5, x6, x7, x8, x9, x10, x11] st) N Rt B C E := by
  unfold w_law_1
  rw [OkS_cons]
  simp only [OkS_for, Ok_it, Ok_tup, Ok_cons, Ok_C, Ok_nil]
  refine ⟨by decide, ?_⟩
  show OkS (forL (gSet 2) (w_law_0 (callF 37)) [.str "seq", .str "par"] _ _) _ _ _ _ _
  refine for_rec (fun rest ρ st' => st' = st ∧ (∀ u ∈ rest, ∃ x : Str, u = .str x ∧ (x = "seq" ∨ x = "par")) ∧ ∃ y2, ρ = [some (.frz (ns.map T.int)), some t, y2, x3, x4, x5, x6, x7, x8, x9, x10, x11]) ⟨rfl, ?_, x2, rfl⟩ ?_ ?_
  · intro u hu
    simp only [List.mem_cons, List.not_mem_nil, or_false] at hu
    rcases hu with rfl | rfl
    · exact ⟨_, rfl, .inl rfl⟩
    · exact ⟨_, rfl, .inr rfl⟩
  · rintro u rest ρ st' ⟨rfl, hr, y2, rfl⟩
    obtain ⟨x, rfl, hx⟩ := hr u List.mem_cons_self
    have g1 := got_ok (st := st') hx (ps := [t]) (w := 500) (fun v hv => by rw [List.mem_singleton] at hv; subst hv; exact ht) (by omega) (by omega) (by simp)
    have g2 := got_ok (st := st') hx (ps := [.tup [.str "draw", .int 1], t]) (w := 500) (fun v hv => by
      simp only [List.mem_cons, List.not_mem_nil, or_false] at hv
      rcases hv with rfl | rfl
      · exact el_draw1
      · exact ht) (by omega) (by omega) (by simp)
    simp only [Ok_gSet, List.set_cons_succ, List.set_cons_zero]
    unfold w_law_0
    simp [g1, g2, sizeLine_eq]
    exact fun v hv => hr v (List.mem_cons_of_mem _ hv)
  · rintro ρ st' ⟨rfl, _, y2, rfl⟩
    exact hN y2
theorem some_turn {ns : List Int} {x1 x2 x3 x4 x5 x6 x7 x8 x9 x10 : Option T} {st : Sto} {ps : List T} (h : ∀ t ∈ ps, El 9000 t) (hl : ps.length ≤ 6) {N : Sl → Sto → Prop} {Rt : T → Sto → Prop} {B C : Sl → Sto → Prop} {E : Exn → Sl → Sto → Prop}
    (hN : N [some (.frz (ns.map T.int)), x1, x2, x3, x4, x5, x6, x7, x8, x9, x10, some (.lst ps)] st) :
    OkS (w_law_2 (callF 37) [some (.frz (ns.map T.int)), x1, x2, x3, x4, x5, x6, x7, x8, x9, x10, some (.lst ps)] st) N Rt B C E := by
  have g1 := got_ok (st := st) (.inl rfl) h (by omega) (by omega) hl
  have g2 := got_ok (st := st) (.inr rfl) h (by omega) (by omega) hl
  unfold w_law_2
  simp [g1, g2]
  exact hN
theorem lap_ok {ns : List Int} {i m : Nat} {st : Sto} {x1 x2 x3 x5 x6 x7 x8 x9 x10 x11 : Option T} (hs : Src st i m) (hm : m + 5000 < 2 ^ 50) {N : Sl → Sto → Prop} {Rt : T → Sto → Prop} {B C : Sl → Sto → Prop} {E : Exn → Sl → Sto → Prop}
    (hN : ∀ y6 y7 y8 y9 y10 y11 st', Src st' i (m + 5000) → N [some (.frz (ns.map T.int)), x1, x2, x3, some (.ref i), x5, y6, y7, y8, y9, y10, y11] st') (hE : E = fun _ _ _ => False) :
    OkS (w_law_3 (callF 37) [some (.frz (ns.map T.int)), x1, x2, x3, some (.ref i), x5, x6, x7, x8, x9, x10, x11] st) N Rt B C E := by
  subst hE
  have e50 : (2 : Nat) ^ 50 = 1125899906842624 := by decide
  have e62 : (2 : Nat) ^ 62 = 4611686018427387904 := by decide
  unfold w_law_3
  rw [OkS_cons]
  simp only [OkS_asg, Ok_lc, Ok_rng1, Ok_cons, Ok_nil, Ok_call, Ok_var, Ok_C, List.getElem?_cons_zero, List.getElem?_cons_succ, Option.some.injEq, exists_eq_left', List.length_cons, List.length_nil]
  refine ⟨trivial, Ok.imp (r_random hs (n := 6) (by omega) (by omega) (by omega)) ?_ (fun _ _ h => h)⟩
  rintro _ st1 ⟨⟨r, rfl, r0, r1⟩, s1, f1⟩
  refine ⟨r, rfl, ⟨by omega, by omega⟩, ?_⟩
  have hr : r.toNat ≤ 5 := by omega
  have hrl : (rgT 0 r.toNat).length = r.toNat := by simp [rgT]
  have P1 := lcL_rel (g := tgN 7) (tt := mYes) (elt := mCall 3 (callF 37 .L_plan) (mCons (mVar 4) (mCons (mC (.int 6)) (mCons (mC (.int 9)) mNil)))) (ρ := [some (.frz (ns.map T.int)), x1, x2, x3, some (.ref i), x5, x6, none, x8, x9, x10, x11])
    (BT 9 7560) (fun n st => Src st i (m + 1 + n * 700)) (M := 5) (ts := rgT 0 r.toNat) (n := 0) (st := st1) (by omega) (by simpa using s1) (by
      intro t ht n st2 hn s2
      refine ⟨_, rfl, rfl, ?_⟩
      simp only [List.set_cons_succ, List.set_cons_zero]
      simp
      refine Ok.imp (r_plan 9 (by omega) (by omega) 37 (by omega) 6 (by omega) (by omega) i _ st2 s2 (by omega)) ?_ (fun _ _ h => h)
      rintro u st3 ⟨⟨s, g⟩, s3, f3⟩
      exact ⟨g.bt, s3.mono (by omega)⟩)
  show Ok (if (rgT 0 r.toNat).length ≤ sizeLine then _ else _) _ _
  rw [if_pos (by rw [hrl, sizeLine_eq]; omega)]
  refine Ok.imp P1 ?_ (fun _ _ h => h)
  rintro ps st2 ⟨hl1, hb1, s2⟩
  rw [hrl] at hl1 s2
  simp only [Ok_gSet, List.set_cons_succ, List.set_cons_zero]
  rw [OkS_cons]
  simp only [OkS_asg, Ok_lc, Ok_it, Ok_var, List.getElem?_cons_zero, List.getElem?_cons_succ, Option.some.injEq, exists_eq_left', Ok_itL, wipeT, List.set_cons_succ, List.set_cons_zero]
  have P2 := lcL_rel (g := tgN 9) (tt := mYes) (elt := mIte (mTest (mBin (opEqB false) (mCall 2 (callF 37 .L_random) (mCons (mVar 4) (mCons (mC (.int 2)) mNil))) (mC (.int 0)))) (mTup (mCons (mC (.str "split")) (mCons (mVar 9) mNil))) (mVar 9)) (ρ := [some (.frz (ns.map T.int)), x1, x2, x3, some (.ref i), x5, some (.lst ps), x7, x8, none, x10, x11])
    (BT 10 7700) (fun n st => Src st i (m + 4000 + n)) (M := 5) (ts := ps) (n := 0) (st := st2) (by omega) (s2.mono (by omega)) (by
      intro t ht n st3 hn s3
      refine ⟨_, rfl, rfl, ?_⟩
      have bt := hb1 t ht
      simp only [List.set_cons_succ, List.set_cons_zero]
      simp
      refine Ok.imp (r_random s3 (n := 2) (by omega) (by omega) (by omega)) ?_ (fun _ _ h => h)
      rintro _ st4 ⟨⟨q, rfl, q0, q1⟩, s4, f4⟩
      have bs : BT 0 62 (.str "split") := ⟨by decide +kernel, by decide +kernel, by decide +kernel, by decide +kernel⟩
      have b2 : BT 10 7700 (.tup [.str "split", t]) := ((bs.mono (n' := 9) (by omega) (Nat.le_refl _)).two bt).mono (by omega) (by omega)
      have b1 : BT 10 7700 t := bt.mono (by omega) (by omega)
      have s5 := s4.mono (show m + 4000 + n + 1 ≤ m + 4000 + (n + 1) by omega)
      by_cases hq : q = 0
      · subst hq
        simp [sizeLine_eq]
        exact ⟨b2, s5⟩
      · simp [hq]
        exact ⟨b1, s5⟩)
  show Ok (if ps.length ≤ sizeLine then _ else _) _ _
  rw [if_pos (by rw [sizeLine_eq]; omega)]
  refine Ok.imp P2 ?_ (fun _ _ h => h)
  rintro os st3 ⟨hl2, hb2, s3⟩
  simp only [Ok_gSet, List.set_cons_succ, List.set_cons_zero]
  rw [OkS_cons]
  have E1 : ∀ t ∈ ps, El 9000 t := fun t ht => BT.el (hb1 t ht) (by omega) (by omega)
  have E2 : ∀ t ∈ os, El 9000 t := fun t ht => BT.el (hb2 t ht) (by omega) (by omega)
  simp only [OkS_asg, Ok_bin, Ok_var, Ok_lst, Ok_cons, Ok_nil, Ok_call, Ok_C, List.getElem?_cons_zero, List.getElem?_cons_succ, Option.some.injEq, exists_eq_left', List.length_cons, List.length_nil]
  refine ⟨trivial, Ok.imp (r_odds (k := 36)) ?_ (fun _ _ h => h)⟩
  rintro _ st4 ⟨a, g, rfl, rfl, ha, hne, hal⟩
  refine ⟨trivial, Ok.imp (r_choice (k := 35) (s3.app g) hne (by omega) (by omega)) ?_ (fun _ _ h => h)⟩
  rintro c st5 ⟨hc, s5, f5⟩
  have hc' : El 9000 c := (ha c hc).mono (by omega)
  have E3 : ∀ t ∈ os ++ [c], El 9000 t := fun t ht => by
    rcases List.mem_append.mp ht with ht | ht
    · exact E2 t ht
    · rw [List.mem_singleton] at ht; subst ht; exact hc'
  have E4 : ∀ t ∈ (os ++ [c]).reverse, El 9000 t := fun t ht => E3 t (List.mem_reverse.mp ht)
  refine ⟨by decide, ?_⟩
  have ea : opAdd (.lst os) (.lst [c]) st5 = .ok (.lst (os ++ [c])) st5 := by
    show (if os.length + [c].length ≤ sizeLine then _ else _) = _
    rw [if_pos (by rw [sizeLine_eq]; simp; omega)]
  rw [ea, Ok_ok]
  simp only [Ok_gSet, List.set_cons_succ, List.set_cons_zero]
  rw [OkS_cons]
  have er : opRev (.lst (os ++ [c])) st5 = .ok (.lst (os ++ [c]).reverse) st5 := rfl
  simp only [OkS_for, Ok_it, Ok_tup, Ok_cons, Ok_un, Ok_var, Ok_nil, List.getElem?_cons_zero, List.getElem?_cons_succ, Option.some.injEq, exists_eq_left', er, Ok_ok]
  refine ⟨by rw [sizeLine_eq]; simp, ?_⟩
  show OkS (forL (gSet 11) (w_law_2 (callF 37)) [.lst ps, .lst os, .lst (os ++ [c]), .lst (os ++ [c]).reverse] _ _) _ _ _ _ _
  refine for_rec (fun rest ρ st' => st' = st5 ∧ (∀ u ∈ rest, ∃ qs : List T, u = .lst qs ∧ qs.length ≤ 6 ∧ ∀ t ∈ qs, El 9000 t) ∧ ∃ y11, ρ = [some (.frz (ns.map T.int)), x1, x2, x3, some (.ref i), x5, some (.lst ps), x7, some (.lst os), x9, some (.lst (os ++ [c])), y11]) ⟨rfl, ?_, _, rfl⟩ ?_ ?_
  · intro u hu
    simp only [List.mem_cons, List.not_mem_nil, or_false] at hu
    rcases hu with rfl | rfl | rfl | rfl
    · exact ⟨_, rfl, by omega, E1⟩
    · exact ⟨_, rfl, by omega, E2⟩
    · exact ⟨_, rfl, by simp; omega, E3⟩
    · exact ⟨_, rfl, by simp; omega, E4⟩
  · rintro u rest ρ st' ⟨rfl, hr', y11, rfl⟩
    obtain ⟨qs, rfl, hq, hE⟩ := hr' u List.mem_cons_self
    simp only [Ok_gSet, List.set_cons_succ, List.set_cons_zero]
    exact some_turn hE hq ⟨rfl, fun v hv => hr' v (List.mem_cons_of_mem _ hv), _, rfl⟩
  · rintro ρ st' ⟨rfl, _, y11, rfl⟩
    simp only [OkS_nil]
    exact hN _ _ _ _ _ _ _ (s5.mono (by omega))
theorem law_true : ∀ ns : List Int, ns.length ≤ 63 → ∃ st, callF 38 .law [.frz (ns.map T.int)] [] = .ok (.bl true) st := by
  intro ns hl
  obtain ⟨_, st0, e0, a, g0, rfl, e1, ha, hne, hal⟩ := Ok_get (r_odds (k := 36) (st := []))
  have key : Ok (callF (37 + 1) .law [.frz (ns.map T.int)] []) (fun t st => t = .bl true) noE := by
    rw [run_law, Ok_runF]
    unfold b_law
    show OkS (sCons _ _ [some (T.frz (ns.map T.int)), none, none, none, none, none, none, none, none, none, none, none] []) _ _ _ _ _
    rw [OkS_cons]
    simp [-OkS_cons, e0]
    refine for_rec (fun rest ρ st => (∀ t ∈ rest, El 500 t) ∧ ∃ x1 x2, ρ = [some (.frz (ns.map T.int)), x1, x2, none, none, none, none, none, none, none, none, none]) ⟨ha, none, none, rfl⟩ ?_ ?_
    · rintro t rest ρ st ⟨hr, x1, x2, rfl⟩
      simp only [Ok_gSet, List.set_cons_succ, List.set_cons_zero]
      exact odds_turn (hr t List.mem_cons_self) fun y2 => ⟨fun u hu => hr u (List.mem_cons_of_mem _ hu), _, _, rfl⟩
    · rintro ρ st ⟨-, x1, x2, rfl⟩
      rw [OkS_cons]
      simp [-OkS_cons, fLen, seqR, lstR, fMin2, fMax2]
      refine ⟨by split <;> split <;> omega, ?_⟩
      refine for_rec (fun rest ρ st => (∃ y1 y2 y3 y4 y5 y6 y7 y8 y9 y10 y11, ρ = [some (.frz (ns.map T.int)), y1, y2, y3, y4, y5, y6, y7, y8, y9, y10, y11]) ∧ ∀ t ∈ rest, ∃ j : Nat, t = .int (j : Nat)) ⟨⟨_, _, _, _, _, _, _, _, _, _, _, rfl⟩, ?_⟩ ?_ ?_
      · intro t ht
        unfold rgT at ht
        obtain ⟨j, _, rfl⟩ := List.mem_map.mp ht
        exact ⟨j, by simp⟩
      · rintro t rest ρ st ⟨⟨y1, y2, y3, y4, y5, y6, y7, y8, y9, y10, y11, rfl⟩, hj⟩
        obtain ⟨j, rfl⟩ := hj _ (List.mem_cons_self ..)
        have hrest : ∀ t ∈ rest, ∃ j : Nat, t = .int (j : Nat) := fun t ht => hj t (List.mem_cons_of_mem _ ht)
        obtain ⟨v, ev⟩ := r_cell (k := 36) (j := j) (st := st) hl
        simp only [Ok_gSet, List.set_cons_succ, List.set_cons_zero]
        unfold w_law_4
        rw [OkS_cons]
        simp [-OkS_cons, ev]
        refine Ok.imp (r_source (k := 36)) ?_ (fun _ _ h => h)
        rintro _ st2 ⟨rfl, s2⟩
        rw [OkS_cons]
        simp only [OkS_for, Ok_rng1, Ok_cons, Ok_C, Ok_nil, List.cons.injEq, T.int.injEq, and_true, exists_eq_left']
        refine ⟨by decide, ?_⟩
        show OkS (forL (gSet 5) (w_law_3 (callF 37)) (rgT 0 8) _ _) _ _ _ _ _
        refine for_inv (fun n ρ st' => (∃ y1 y2 y5 y6 y7 y8 y9 y10 y11, ρ = [some (.frz (ns.map T.int)), y1, y2, some (.int (j : Nat)), some (.ref st.length), y5, y6, y7, y8, y9, y10, y11]) ∧ Src st' st.length (n * 5000)) ⟨⟨_, _, _, _, _, _, _, _, _, rfl⟩, by simpa using s2⟩ ?_ ?_
        · rintro n t ρ st3 ht ⟨⟨z1, z2, z5, z6, z7, z8, z9, z10, z11, rfl⟩, s3⟩
          have hn : n < 8 := by
            have := (List.getElem?_eq_some_iff.mp ht).1
            simpa [rgT] using this
          simp only [Ok_gSet, List.set_cons_succ, List.set_cons_zero]
          refine lap_ok s3 (by have e50 : (2 : Nat) ^ 50 = 1125899906842624 := by decide
                               omega) (fun a b c d e f st4 s4 => ⟨⟨_, _, _, _, _, _, _, _, _, rfl⟩, s4.mono (by omega)⟩) rfl
        · rintro ρ st3 ⟨⟨z1, z2, z5, z6, z7, z8, z9, z10, z11, rfl⟩, s3⟩
          simp
          exact hrest
      · rintro ρ st ⟨⟨y1, y2, y3, y4, y5, y6, y7, y8, y9, y10, y11, rfl⟩, -⟩
        simp
  revert key
  show Ok (callF 38 .law [.frz (ns.map T.int)] []) _ _ → _
  cases callF 38 .law [.frz (ns.map T.int)] [] with
  | ok t st => exact fun h => ⟨st, by rw [show t = .bl true from h]⟩
  | exc e st => exact fun h => h.elim
  | bad => exact fun h => h.elim
end Ga
namespace Ga
open PySem L2 Mi
structure Tx (K : PySem.W.Frag) (mg : Str → Option Value) (ad : Ad) (fa : Fn → Addr) (fd : Fn → FuncData) : Prop where
  fu : ∀ f, FunA K (nm f) (qn f) (sf f) (fa f) (fd f)
  mgs : ∀ f, isM f = false → mg (nm f) = some (.ref (fa f))
  bi : ∀ f, isSt f = false → Binds K (fd f) (ps f) []
  bs_seq : ∀ us rest : List Value, us.length = 0 → bindArgs (fd .seq) ⟨us ++ rest, []⟩ = (newTuple rest >>= fun t => pure (([] : List Str).zip us ++ [(("parts" : Str), t)]))
  bs_par : ∀ us rest : List Value, us.length = 0 → bindArgs (fd .par) ⟨us ++ rest, []⟩ = (newTuple rest >>= fun t => pure (([] : List Str).zip us ++ [(("parts" : Str), t)]))
  fv_seq : fa .seq = ad.fn 200
  fv_par : fa .par = ad.fn 201
  z_int : mg "int" = none
  z_isinstance : mg "isinstance" = none
  z_bool : mg "bool" = none
  z_tuple : mg "tuple" = none
  z_len : mg "len" = none
  z_str : mg "str" = none
  z_all : mg "all" = none
  z_zip : mg "zip" = none
  z_max : mg "max" = none
  z_range : mg "range" = none
  z_min : mg "min" = none
  z_repr : mg "repr" = none
  xg_InvalidPlan : mg "InvalidPlan" = some (.ref (ad.fn 101))
  xg_InvalidOperation : mg "InvalidOperation" = some (.ref (ad.fn 102))
  xg_InvalidRecord : mg "InvalidRecord" = some (.ref (ad.fn 103))
  xg_TooComplex : mg "TooComplex" = some (.ref (ad.fn 104))
  xg_InvalidText : mg "InvalidText" = some (.ref (ad.fn 105))
  xg_ForklotsError : mg "ForklotsError" = some (.ref (ad.fn 100))
  xx_InvalidPlan : ExcX K mg "InvalidPlan" (ad.fn 101)
  xc : ∀ p ∈ wordL, ExcC K (ad.fn p.1)
  kx : ∀ p ∈ wordL, ∀ i ∈ wordIs, PySem.W.kitOne K (.ref (ad.fn p.1)) (.ref (ad.fn i)) = some (i == p.1)
  ex : ∀ p ∈ wordL, PySem.W.exmOne K (.ref (ad.fn p.1)) (.ref (ad.fn 100)) = some true
  c_MAX_USE : CstM K mg "MAX_USE" c_MAX_USE
  c_MAX_PARTS : CstM K mg "MAX_PARTS" c_MAX_PARTS
  c_MAX_NAME : CstM K mg "MAX_NAME" c_MAX_NAME
  c_MAX_DEPTH : CstM K mg "MAX_DEPTH" c_MAX_DEPTH
  c_MAX_OPERATIONS : CstM K mg "MAX_OPERATIONS" c_MAX_OPERATIONS
  c_MAX_RETRIES : CstM K mg "MAX_RETRIES" c_MAX_RETRIES
  c_MAX_TUPLES : CstM K mg "MAX_TUPLES" c_MAX_TUPLES
section
variable {P : Program} {w : World} {K : PySem.W.Frag} {mg : Str → Option Value} {base : Heap} {ad : Ad} {fa : Fn → Addr} {fd : Fn → FuncData} {k : Nat} {cf : CF}
abbrev AllG (P : Program) (w : World) (K : PySem.W.Frag) (mg : Str → Option Value) (base : Heap) (ad : Ad) (fa : Fn → Addr) (fd : Fn → FuncData) (k : Nat) (cf : CF) : Prop := ∀ f, GnOk P w K mg base k (fa f) (fd f) (ps f) (spF K ad (ar f) (cf f))
abbrev AllS (P : Program) (w : World) (K : PySem.W.Frag) (mg : Str → Option Value) (base : Heap) (ad : Ad) (fa : Fn → Addr) (k : Nat) (cf : CF) : Prop := ∀ f, isSt f = true → GsOk P w K mg base k (ar f - 1) (fa f) (spF K ad (ar f) (cf f))
structure LamsX (mg : Str → Option Value) (ad : Ad) (fd : Fn → FuncData) (base : Heap) : Prop where
  l_L_got : ∃ c Pt, LamD base mg ad (fd .L_got) (qn .L_got) c Pt
theorem sc_L_word : FnScope ["_law_why", "_law_found"] (ps .L_word) (defScope (sf .L_word)) := ⟨rfl, rfl, rfl, by decide +kernel, rfl, by decide +kernel, by decide +kernel⟩
theorem sc_L_said : FnScope ["_law_ask", "_law_why"] (ps .L_said) (defScope (sf .L_said)) := ⟨rfl, rfl, rfl, by decide +kernel, rfl, by decide +kernel, by decide +kernel⟩
set_option maxHeartbeats 4000000 in
theorem L_word_W (T : Tx K mg ad fa fd) : WordOk P w K mg base 1 (fa .L_word) (fd .L_word) "_law_why" ad wordT :=
  word_ok (T.fu .L_word) sc_L_word fun c z hz cdv A outer s H E p hc hdi hf => have hm : (c, z) ∈ wordL := lookup_mem hz; ⟨b_L_word (subT wordIs c), (pms_cons (pms_set (i := 1) sc_L_word.nd rfl (by first | exact Or.inl rfl | exact Or.inr rfl) (pm_lstS pma_nil))
  (pms_cons (pms_if (ptM_val (pm_callBA (cm_isiW (T.xc (c, z) hm) List.mem_cons_self hc hdi hf (T.kx (c, z) hm)) rfl T.z_isinstance PyProof.Rows.boot_isinstance (pma_cons (pm_var (pv 0)) (pma_cons (pm_adr rfl (T.xg_InvalidPlan)) pma_nil)))) (pms_cons (pms_expr (pm_meth mm_append PySem.F.plainAttrs_list PySem.F.slot_list_append PySem.F.type_list_append (pm_var (pv 1)) (pma_cons pm_str pma_nil))) pms_nil) pms_nil)
  (pms_cons (pms_if (ptM_val (pm_callBA (cm_isiW (T.xc (c, z) hm) List.mem_cons_self hc hdi hf (T.kx (c, z) hm)) rfl T.z_isinstance PyProof.Rows.boot_isinstance (pma_cons (pm_var (pv 0)) (pma_cons (pm_adr rfl (T.xg_InvalidOperation)) pma_nil)))) (pms_cons (pms_expr (pm_meth mm_append PySem.F.plainAttrs_list PySem.F.slot_list_append PySem.F.type_list_append (pm_var (pv 1)) (pma_cons pm_str pma_nil))) pms_nil) pms_nil)
  (pms_cons (pms_if (ptM_val (pm_callBA (cm_isiW (T.xc (c, z) hm) List.mem_cons_self hc hdi hf (T.kx (c, z) hm)) rfl T.z_isinstance PyProof.Rows.boot_isinstance (pma_cons (pm_var (pv 0)) (pma_cons (pm_adr rfl (T.xg_InvalidRecord)) pma_nil)))) (pms_cons (pms_expr (pm_meth mm_append PySem.F.plainAttrs_list PySem.F.slot_list_append PySem.F.type_list_append (pm_var (pv 1)) (pma_cons pm_str pma_nil))) pms_nil) pms_nil)
  (pms_cons (pms_if (ptM_val (pm_callBA (cm_isiW (T.xc (c, z) hm) List.mem_cons_self hc hdi hf (T.kx (c, z) hm)) rfl T.z_isinstance PyProof.Rows.boot_isinstance (pma_cons (pm_var (pv 0)) (pma_cons (pm_adr rfl (T.xg_TooComplex)) pma_nil)))) (pms_cons (pms_expr (pm_meth mm_append PySem.F.plainAttrs_list PySem.F.slot_list_append PySem.F.type_list_append (pm_var (pv 1)) (pma_cons pm_str pma_nil))) pms_nil) pms_nil)
  (pms_cons (pms_if (ptM_val (pm_callBA (cm_isiW (T.xc (c, z) hm) List.mem_cons_self hc hdi hf (T.kx (c, z) hm)) rfl T.z_isinstance PyProof.Rows.boot_isinstance (pma_cons (pm_var (pv 0)) (pma_cons (pm_adr rfl (T.xg_InvalidText)) pma_nil)))) (pms_cons (pms_expr (pm_meth mm_append PySem.F.plainAttrs_list PySem.F.slot_list_append PySem.F.type_list_append (pm_var (pv 1)) (pma_cons pm_str pma_nil))) pms_nil) pms_nil)
  (pms_cons (pms_ret (pm_join pm_str (pm_var (pv 1)))) pms_nil))))))),
    by simp only [wordL, List.mem_cons, List.not_mem_nil, or_false, Prod.mk.injEq] at hm; rcases hm with ⟨rfl, rfl⟩ <;> exact ⟨_, by with_unfolding_all rfl⟩⟩
set_option maxHeartbeats 4000000 in
theorem L_said_G (T : Tx K mg ad fa fd) (hsm : ∃ o, base.get? sysModules = some o) : GvOk P w K mg base (k + 1) (k + 2 + 1) (fa .L_said) (fd .L_said) "_law_ask" (TTsaid K ad wordT fRepr) :=
  said_ok (T.fu .L_said) sc_L_said hsm rfl rfl rfl (Or.inl rfl) (Or.inl rfl) rfl rfl rfl rfl rfl T.xg_ForklotsError T.z_repr (T.mgs .L_word rfl) (T.fu .L_word).kp (T.bi .L_word rfl) (L_word_W T) (fun c z h => T.ex (c, z) (lookup_mem h))
    (fun X W e1 e2 e3 e4 e5 S => by exact (cm_repr S).atAd) (by omega) (by omega)
theorem sc_is_between : FnScope ["thing", "low", "high"] (ps .is_between) (defScope (sf .is_between)) := ⟨rfl, rfl, rfl, by decide +kernel, rfl, by decide +kernel, by decide +kernel⟩
set_option maxHeartbeats 4000000 in
theorem ok_is_between (T : Tx K mg ad fa fd) (hsm : ∃ o, base.get? sysModules = some o) (G : AllG P w K mg base ad fa fd k cf) (GS : AllS P w K mg base ad fa k cf) : GnOk P w K mg base (k + 1 + 1) (fa .is_between) (fd .is_between) (ps .is_between) (spF K ad (ar .is_between) (runF 3 (b_is_between cf))) :=
  gn_ok (T.fu .is_between) sc_is_between hsm rfl fun cdv A outer s H E S =>
  (pms_cons (pms_ret (pm_and (pm_callB cm_isiS rfl T.z_isinstance PyProof.Rows.boot_isinstance (pma_cons (pm_var (pv 0)) (pma_cons (pm_ty rfl T.z_int PyProof.Rows.boot_int) pma_nil))) (pm_and (pm_not (pm_callB cm_isiS rfl T.z_isinstance PyProof.Rows.boot_isinstance (pma_cons (pm_var (pv 0)) (pma_cons (pm_ty rfl T.z_bool PyProof.Rows.boot_bool) pma_nil)))) (pm_one (pm_chain om_le om_le (pm_var (pv 1)) (pm_var (pv 0)) (pm_var (pv 2)))))))
  pms_nil)
abbrev n_is_formed : List Str := ["thing", "depth", "word", "parts", "part"]
theorem sc_is_formed : FnScope ["thing", "depth", "word", "parts", "part"] (ps .is_formed) (defScope (sf .is_formed)) := ⟨rfl, rfl, rfl, by decide +kernel, rfl, by decide +kernel, by decide +kernel⟩
set_option maxHeartbeats 4000000 in
theorem ok_is_formed (T : Tx K mg ad fa fd) (hsm : ∃ o, base.get? sysModules = some o) (G : AllG P w K mg base ad fa fd k cf) (GS : AllS P w K mg base ad fa k cf) : GnOk P w K mg base (k + 1 + 1) (fa .is_formed) (fd .is_formed) (ps .is_formed) (spF K ad (ar .is_formed) (runF 5 (b_is_formed cf))) :=
  gn_ok (T.fu .is_formed) sc_is_formed hsm rfl fun cdv A outer s H E S =>
  (pms_cons (pms_if (pmt_bool (pmw_or (ptM_cmp (om_eq S.u64) (pm_var (pv 1)) pm_int (nomark _)) (pmw_or (pmt_not (ptM_val (pm_callB cm_isiS rfl T.z_isinstance PyProof.Rows.boot_isinstance (pma_cons (pm_var (pv 0)) (pma_cons (pm_ty rfl T.z_tuple PyProof.Rows.boot_tuple) pma_nil))))) (pmw_or (ptM_cmp (om_eq S.u64) (pm_callB cm_len rfl T.z_len PySem.boot_len (pma_cons (pm_var (pv 0)) pma_nil)) pm_int (nomark _)) (pmw_or1 (pmt_not (ptM_val (pm_callB cm_isiS rfl T.z_isinstance PyProof.Rows.boot_isinstance (pma_cons (pm_ix (pm_var (pv 0)) pm_int (fun _ _ => rfl)) (pma_cons (pm_ty rfl T.z_str PyProof.Rows.boot_str) pma_nil)))))))))) (pms_cons (pms_ret pm_bl)
    pms_nil) pms_nil)
  (pms_cons (pms_par (pma_cons (pm_ix (pm_var (pv 0)) pm_int (fun _ _ => rfl)) (pma_cons (pm_sl (pm_var (pv 0)) (pmo_some pm_int) pmo_none) pma_nil)) (fun h => ps_par (i := 2) (j := 3) S.calm sc_is_formed.nd rfl rfl (by decide) rfl rfl h (by first | rfl | with_unfolding_all rfl)))
  (pms_cons (pms_if (ptM_cmp (om_eq S.u64) (pm_var (pv 2)) pm_str (nomark _)) (pms_cons (pms_ret (pm_and (pm_cmp (om_eq S.u64) (pm_callB cm_len rfl T.z_len PySem.boot_len (pma_cons (pm_var (pv 3)) pma_nil)) pm_int (nomark _)) (pm_one (pm_call (G .is_between).up S rfl (T.mgs .is_between rfl) (T.fu .is_between).kp (T.bi .is_between rfl) (pma_cons (pm_ix (pm_var (pv 3)) pm_int (fun _ _ => rfl)) (pma_cons pm_int (pma_cons (T.c_MAX_USE.pm rfl) pma_nil)))))))
    pms_nil) pms_nil)
  (pms_cons (pms_if (ptM_cmp (om_eq S.u64) (pm_var (pv 2)) pm_str (nomark _)) (pms_cons (pms_ret (pm_and (pm_cmp om_le (pm_callB cm_len rfl T.z_len PySem.boot_len (pma_cons (pm_var (pv 3)) pma_nil)) (T.c_MAX_PARTS.pm rfl) (nomark _)) (pm_one (pm_callB (cm_all S.calm) rfl T.z_all PyProof.Rows.boot_all (pma_cons (pm_lc (own := [("part", 4)]) S sc_is_formed.nd (tg_name (by decide)) (pmi_seq (pm_var (pv 3))) (blkOk_by (N := n_is_formed) (sc := defScope (sf .is_formed)) (by decide +kernel)) (fun s2 H2 C cl fp => (pg_name (i := 4) sc_is_formed.nd rfl (Or.inl rfl))) (fun s2 H2 C cl fp => pmts_nil) (fun s2 H2 C cl fp => (pm_call (G .is_formed).up (S.blk s2 H2 _ (compEnvC _ cl C _) fp) rfl (T.mgs .is_formed rfl) (T.fu .is_formed).kp (T.bi .is_formed rfl) (pma_cons (pm_var (pv 4)) (pma_cons (pm_bin om_sub (pm_var (pv 1)) pm_int) pma_nil))))) pma_nil)))))
    pms_nil) pms_nil)
  (pms_cons (pms_if (ptM_cmp (om_eq S.u64) (pm_var (pv 2)) pm_str (nomark _)) (pms_cons (pms_ret (pm_and (pm_cmp om_le (pm_callB cm_len rfl T.z_len PySem.boot_len (pma_cons (pm_var (pv 3)) pma_nil)) (T.c_MAX_PARTS.pm rfl) (nomark _)) (pm_one (pm_callB (cm_all S.calm) rfl T.z_all PyProof.Rows.boot_all (pma_cons (pm_lc (own := [("part", 4)]) S sc_is_formed.nd (tg_name (by decide)) (pmi_seq (pm_var (pv 3))) (blkOk_by (N := n_is_formed) (sc := defScope (sf .is_formed)) (by decide +kernel)) (fun s2 H2 C cl fp => (pg_name (i := 4) sc_is_formed.nd rfl (Or.inl rfl))) (fun s2 H2 C cl fp => pmts_nil) (fun s2 H2 C cl fp => (pm_call (G .is_formed_part).up (S.blk s2 H2 _ (compEnvC _ cl C _) fp) rfl (T.mgs .is_formed_part rfl) (T.fu .is_formed_part).kp (T.bi .is_formed_part rfl) (pma_cons (pm_var (pv 4)) (pma_cons (pm_bin om_sub (pm_var (pv 1)) pm_int) pma_nil))))) pma_nil)))))
    pms_nil) pms_nil)
  (pms_cons (pms_if (ptM_cmp (om_eq S.u64) (pm_var (pv 2)) pm_str (nomark _)) (pms_cons (pms_ret (pm_and (pm_cmp (om_eq S.u64) (pm_callB cm_len rfl T.z_len PySem.boot_len (pma_cons (pm_var (pv 3)) pma_nil)) pm_int (nomark _)) (pm_and (pm_call (G .is_between).up S rfl (T.mgs .is_between rfl) (T.fu .is_between).kp (T.bi .is_between rfl) (pma_cons (pm_ix (pm_var (pv 3)) pm_int (fun _ _ => rfl)) (pma_cons pm_int (pma_cons (T.c_MAX_NAME.pm rfl) pma_nil)))) (pm_one (pm_call (G .is_formed).up S rfl (T.mgs .is_formed rfl) (T.fu .is_formed).kp (T.bi .is_formed rfl) (pma_cons (pm_ix (pm_var (pv 3)) pm_int (fun _ _ => rfl)) (pma_cons (pm_bin om_sub (pm_var (pv 1)) pm_int) pma_nil)))))))
    pms_nil) pms_nil)
  (pms_cons (pms_ret (pm_and (pm_cmp (om_eq S.u64) (pm_var (pv 2)) pm_str (nomark _)) (pm_and (pm_cmp (om_eq S.u64) (pm_callB cm_len rfl T.z_len PySem.boot_len (pma_cons (pm_var (pv 3)) pma_nil)) pm_int (nomark _)) (pm_one (pm_call (G .is_formed).up S rfl (T.mgs .is_formed rfl) (T.fu .is_formed).kp (T.bi .is_formed rfl) (pma_cons (pm_ix (pm_var (pv 3)) pm_int (fun _ _ => rfl)) (pma_cons (pm_bin om_sub (pm_var (pv 1)) pm_int) pma_nil)))))))
  pms_nil)))))))
theorem sc_is_split : FnScope ["part"] (ps .is_split) (defScope (sf .is_split)) := ⟨rfl, rfl, rfl, by decide +kernel, rfl, by decide +kernel, by decide +kernel⟩
set_option maxHeartbeats 4000000 in
theorem ok_is_split (T : Tx K mg ad fa fd) (hsm : ∃ o, base.get? sysModules = some o) (G : AllG P w K mg base ad fa fd k cf) (GS : AllS P w K mg base ad fa k cf) : GnOk P w K mg base (k + 1 + 1) (fa .is_split) (fd .is_split) (ps .is_split) (spF K ad (ar .is_split) (runF 1 (b_is_split cf))) :=
  gn_ok (T.fu .is_split) sc_is_split hsm rfl fun cdv A outer s H E S =>
  (pms_cons (pms_ret (pm_cmp (om_eq S.u64) (pm_ix (pm_var (pv 0)) pm_int (fun _ _ => rfl)) pm_str (nomark _)))
  pms_nil)
theorem sc_is_formed_part : FnScope ["thing", "depth"] (ps .is_formed_part) (defScope (sf .is_formed_part)) := ⟨rfl, rfl, rfl, by decide +kernel, rfl, by decide +kernel, by decide +kernel⟩
set_option maxHeartbeats 4000000 in
theorem ok_is_formed_part (T : Tx K mg ad fa fd) (hsm : ∃ o, base.get? sysModules = some o) (G : AllG P w K mg base ad fa fd k cf) (GS : AllS P w K mg base ad fa k cf) : GnOk P w K mg base (k + 1 + 1) (fa .is_formed_part) (fd .is_formed_part) (ps .is_formed_part) (spF K ad (ar .is_formed_part) (runF 2 (b_is_formed_part cf))) :=
  gn_ok (T.fu .is_formed_part) sc_is_formed_part hsm rfl fun cdv A outer s H E S =>
  (pms_cons (pms_if (pmt_bool (pmw_and (ptM_cmp om_gt (pm_var (pv 1)) pm_int (nomark _)) (pmw_and (ptM_val (pm_callB cm_isiS rfl T.z_isinstance PyProof.Rows.boot_isinstance (pma_cons (pm_var (pv 0)) (pma_cons (pm_ty rfl T.z_tuple PyProof.Rows.boot_tuple) pma_nil)))) (pmw_and (ptM_cmp (om_eq S.u64) (pm_callB cm_len rfl T.z_len PySem.boot_len (pma_cons (pm_var (pv 0)) pma_nil)) pm_int (nomark _)) (pmw_and (ptM_val (pm_callB cm_isiS rfl T.z_isinstance PyProof.Rows.boot_isinstance (pma_cons (pm_ix (pm_var (pv 0)) pm_int (fun _ _ => rfl)) (pma_cons (pm_ty rfl T.z_str PyProof.Rows.boot_str) pma_nil)))) (pmw_and1 (ptM_val (pm_call (G .is_split).up S rfl (T.mgs .is_split rfl) (T.fu .is_split).kp (T.bi .is_split rfl) (pma_cons (pm_var (pv 0)) pma_nil))))))))) (pms_cons (pms_ret (pm_call (G .is_formed).up S rfl (T.mgs .is_formed rfl) (T.fu .is_formed).kp (T.bi .is_formed rfl) (pma_cons (pm_ix (pm_var (pv 0)) pm_int (fun _ _ => rfl)) (pma_cons (pm_bin om_sub (pm_var (pv 1)) pm_int) pma_nil))))
    pms_nil) pms_nil)
  (pms_cons (pms_ret (pm_call (G .is_formed).up S rfl (T.mgs .is_formed rfl) (T.fu .is_formed).kp (T.bi .is_formed rfl) (pma_cons (pm_var (pv 0)) (pma_cons (pm_var (pv 1)) pma_nil))))
  pms_nil))
theorem sc_parts_of : FnScope ["plan"] (ps .parts_of) (defScope (sf .parts_of)) := ⟨rfl, rfl, rfl, by decide +kernel, rfl, by decide +kernel, by decide +kernel⟩
set_option maxHeartbeats 4000000 in
theorem ok_parts_of (T : Tx K mg ad fa fd) (hsm : ∃ o, base.get? sysModules = some o) (G : AllG P w K mg base ad fa fd k cf) (GS : AllS P w K mg base ad fa k cf) : GnOk P w K mg base (k + 1 + 1) (fa .parts_of) (fd .parts_of) (ps .parts_of) (spF K ad (ar .parts_of) (runF 1 (b_parts_of cf))) :=
  gn_ok (T.fu .parts_of) sc_parts_of hsm rfl fun cdv A outer s H E S =>
  (pms_cons (pms_if (ptM_cmp (om_eq S.u64) (pm_ix (pm_var (pv 0)) pm_int (fun _ _ => rfl)) pm_str (nomark _)) (pms_cons (pms_ret (pm_tup pma_nil))
    pms_nil) pms_nil)
  (pms_cons (pms_ret (pm_ite (ptM_cmp (om_in S.u65) (pm_ix (pm_var (pv 0)) pm_int (fun _ _ => rfl)) (pm_tup (pma_cons pm_str (pma_cons pm_str pma_nil))) (by with_unfolding_all rfl)) (pm_sl (pm_var (pv 0)) (pmo_some pm_int) pmo_none) (pm_sl (pm_var (pv 0)) (pmo_some (pm_neg pm_int)) pmo_none)))
  pms_nil))
abbrev n_counts_of : List Str := ["plan", "found", "part", "one", "other"]
theorem sc_counts_of : FnScope ["plan", "found", "part", "one", "other"] (ps .counts_of) (defScope (sf .counts_of)) := ⟨rfl, rfl, rfl, by decide +kernel, rfl, by decide +kernel, by decide +kernel⟩
set_option maxHeartbeats 4000000 in
theorem ok_counts_of (T : Tx K mg ad fa fd) (hsm : ∃ o, base.get? sysModules = some o) (G : AllG P w K mg base ad fa fd k cf) (GS : AllS P w K mg base ad fa k cf) : GnOk P w K mg base (k + 1 + 1) (fa .counts_of) (fd .counts_of) (ps .counts_of) (spF K ad (ar .counts_of) (runF 5 (b_counts_of cf))) :=
  gn_ok (T.fu .counts_of) sc_counts_of hsm rfl fun cdv A outer s H E S =>
  (pms_cons (pms_set (i := 1) sc_counts_of.nd rfl (by first | exact Or.inl rfl | exact Or.inr rfl) (pm_lst (pma_cons (pm_callTy cm_int rfl T.z_int PyProof.Rows.boot_int (pma_cons (pm_cmp (om_in S.u65) (pm_ix (pm_var (pv 0)) pm_int (fun _ _ => rfl)) (pm_tup (pma_cons pm_str (pma_cons pm_str pma_nil))) (by with_unfolding_all rfl)) pma_nil)) (pma_cons (pm_callTy cm_int rfl T.z_int PyProof.Rows.boot_int (pma_cons (pm_cmp (om_eq S.u64) (pm_ix (pm_var (pv 0)) pm_int (fun _ _ => rfl)) pm_str (nomark _)) pma_nil)) (pma_cons pm_int pma_nil)))))
  (pms_cons (pms_for S (pmi_seq (pm_call (G .parts_of).up S rfl (T.mgs .parts_of rfl) (T.fu .parts_of).kp (T.bi .parts_of rfl) (pma_cons (pm_var (pv 0)) pma_nil))) (pmg_name (pg_name (i := 2) sc_counts_of.nd rfl (by first | exact Or.inl rfl | exact Or.inr rfl))) (pms_cons (pms_setLc (i := 1) (own := [("one", 3), ("other", 4)]) S sc_counts_of.nd rfl rfl (sw_true rfl rfl rfl (by decide +kernel)) (tg_pair (by decide) (by decide)) (pmi_zipS rfl T.z_zip (pma_cons (pm_var (pv 1)) (pma_cons (pm_call (G .counts_of).up S rfl (T.mgs .counts_of rfl) (T.fu .counts_of).kp (T.bi .counts_of rfl) (pma_cons (pm_var (pv 2)) pma_nil)) pma_nil))) (blkOk_by (N := n_counts_of) (sc := defScope (sf .counts_of)) (by decide +kernel)) (fun s2 H2 C cl fp => (pg_tup S.calm (pgs_cons (pg_name (i := 3) sc_counts_of.nd rfl (Or.inl rfl)) (pgs_cons (pg_name (i := 4) sc_counts_of.nd rfl (Or.inl rfl)) pgs_nil)))) (fun s2 H2 C cl fp => pmts_nil) (fun s2 H2 C cl fp => (pm_bin om_add (pm_var (pv 3)) (pm_var (pv 4)))))
    pms_nil))
  (pms_cons (pms_ret (pm_var (pv 1)))
  pms_nil)))
theorem sc_is_plan : FnScope ["thing", "operations", "retries", "tuples"] (ps .is_plan) (defScope (sf .is_plan)) := ⟨rfl, rfl, rfl, by decide +kernel, rfl, by decide +kernel, by decide +kernel⟩
set_option maxHeartbeats 4000000 in
theorem ok_is_plan (T : Tx K mg ad fa fd) (hsm : ∃ o, base.get? sysModules = some o) (G : AllG P w K mg base ad fa fd k cf) (GS : AllS P w K mg base ad fa k cf) : GnOk P w K mg base (k + 1 + 1) (fa .is_plan) (fd .is_plan) (ps .is_plan) (spF K ad (ar .is_plan) (runF 4 (b_is_plan cf))) :=
  gn_ok (T.fu .is_plan) sc_is_plan hsm rfl fun cdv A outer s H E S =>
  (pms_cons (pms_if (pmt_not (ptM_val (pm_call (G .is_formed).up S rfl (T.mgs .is_formed rfl) (T.fu .is_formed).kp (T.bi .is_formed rfl) (pma_cons (pm_var (pv 0)) (pma_cons (T.c_MAX_DEPTH.pm rfl) pma_nil))))) (pms_cons (pms_ret pm_bl)
    pms_nil) pms_nil)
  (pms_cons (pms_asg (pm_call (G .counts_of).up S rfl (T.mgs .counts_of rfl) (T.fu .counts_of).kp (T.bi .counts_of rfl) (pma_cons (pm_var (pv 0)) pma_nil)) (pmg_tup S.calm (pmgs_cons (pmg_name (pg_name (i := 1) sc_is_plan.nd rfl (by first | exact Or.inl rfl | exact Or.inr rfl))) (pmgs_cons (pmg_name (pg_name (i := 2) sc_is_plan.nd rfl (by first | exact Or.inl rfl | exact Or.inr rfl))) (pmgs_cons (pmg_name (pg_name (i := 3) sc_is_plan.nd rfl (by first | exact Or.inl rfl | exact Or.inr rfl))) pmgs_nil)))))
  (pms_cons (pms_ret (pm_and (pm_cmp om_le (pm_var (pv 1)) (T.c_MAX_OPERATIONS.pm rfl) (nomark _)) (pm_and (pm_cmp om_le (pm_var (pv 2)) (T.c_MAX_RETRIES.pm rfl) (nomark _)) (pm_one (pm_cmp om_le (pm_var (pv 3)) (T.c_MAX_TUPLES.pm rfl) (nomark _))))))
  pms_nil)))
theorem sc_check_plan : FnScope ["thing"] (ps .check_plan) (defScope (sf .check_plan)) := ⟨rfl, rfl, rfl, by decide +kernel, rfl, by decide +kernel, by decide +kernel⟩
set_option maxHeartbeats 4000000 in
theorem ok_check_plan (T : Tx K mg ad fa fd) (hsm : ∃ o, base.get? sysModules = some o) (G : AllG P w K mg base ad fa fd k cf) (GS : AllS P w K mg base ad fa k cf) : GnOk P w K mg base (k + 1 + 1) (fa .check_plan) (fd .check_plan) (ps .check_plan) (spF K ad (ar .check_plan) (runF 1 (b_check_plan cf))) :=
  gn_ok (T.fu .check_plan) sc_check_plan hsm rfl fun cdv A outer s H E S =>
  (pms_cons (pms_if (pmt_not (ptM_val (pm_call (G .is_plan).up S rfl (T.mgs .is_plan rfl) (T.fu .is_plan).kp (T.bi .is_plan rfl) (pma_cons (pm_var (pv 0)) pma_nil)))) (pms_cons (pms_raise S T.xx_InvalidPlan rfl)
    pms_nil) pms_nil)
  pms_nil)
theorem sc_seq : FnScope ["parts", "plan"] (ps .seq) (defScope (sf .seq)) := ⟨rfl, rfl, rfl, by decide +kernel, rfl, by decide +kernel, by decide +kernel⟩
set_option maxHeartbeats 4000000 in
theorem ok_seq (T : Tx K mg ad fa fd) (hsm : ∃ o, base.get? sysModules = some o) (G : AllG P w K mg base ad fa fd k cf) (GS : AllS P w K mg base ad fa k cf) : GnOk P w K mg base (k + 1 + 1) (fa .seq) (fd .seq) (ps .seq) (spF K ad (ar .seq) (runF 2 (b_seq cf))) :=
  gn_ok (T.fu .seq) sc_seq hsm rfl fun cdv A outer s H E S =>
  (pms_cons (pms_set (i := 1) sc_seq.nd rfl (by first | exact Or.inl rfl | exact Or.inr rfl) (pm_tup (pma_cons pm_str (pma_star (pm_var (pv 0)) pma_nil (fun h1 h2 => StX.pa_star h1 h2)))))
  (pms_cons (pms_expr (pm_call (G .check_plan).up S rfl (T.mgs .check_plan rfl) (T.fu .check_plan).kp (T.bi .check_plan rfl) (pma_cons (pm_var (pv 1)) pma_nil)))
  (pms_cons (pms_ret (pm_var (pv 1)))
  pms_nil)))
set_option maxHeartbeats 4000000 in
theorem oks_seq (T : Tx K mg ad fa fd) (hsm : ∃ o, base.get? sysModules = some o) (G : AllG P w K mg base ad fa fd k cf) (GS : AllS P w K mg base ad fa k cf) : GsOk P w K mg base (k + 1 + 1) (ar .seq - 1) (fa .seq) (spF K ad (ar .seq) (runF 2 (b_seq cf))) :=
  gs_ok (ps := []) (T.fu .seq) sc_seq hsm rfl rfl T.bs_seq fun cdv A outer s H E S =>
  (pms_cons (pms_set (i := 1) sc_seq.nd rfl (by first | exact Or.inl rfl | exact Or.inr rfl) (pm_tup (pma_cons pm_str (pma_star (pm_var (pv 0)) pma_nil (fun h1 h2 => StX.pa_star h1 h2)))))
  (pms_cons (pms_expr (pm_call (G .check_plan).up S rfl (T.mgs .check_plan rfl) (T.fu .check_plan).kp (T.bi .check_plan rfl) (pma_cons (pm_var (pv 1)) pma_nil)))
  (pms_cons (pms_ret (pm_var (pv 1)))
  pms_nil)))
theorem sc_par : FnScope ["parts", "plan"] (ps .par) (defScope (sf .par)) := ⟨rfl, rfl, rfl, by decide +kernel, rfl, by decide +kernel, by decide +kernel⟩
set_option maxHeartbeats 4000000 in
theorem ok_par (T : Tx K mg ad fa fd) (hsm : ∃ o, base.get? sysModules = some o) (G : AllG P w K mg base ad fa fd k cf) (GS : AllS P w K mg base ad fa k cf) : GnOk P w K mg base (k + 1 + 1) (fa .par) (fd .par) (ps .par) (spF K ad (ar .par) (runF 2 (b_par cf))) :=
  gn_ok (T.fu .par) sc_par hsm rfl fun cdv A outer s H E S =>
  (pms_cons (pms_set (i := 1) sc_par.nd rfl (by first | exact Or.inl rfl | exact Or.inr rfl) (pm_tup (pma_cons pm_str (pma_star (pm_var (pv 0)) pma_nil (fun h1 h2 => StX.pa_star h1 h2)))))
  (pms_cons (pms_expr (pm_call (G .check_plan).up S rfl (T.mgs .check_plan rfl) (T.fu .check_plan).kp (T.bi .check_plan rfl) (pma_cons (pm_var (pv 1)) pma_nil)))
  (pms_cons (pms_ret (pm_var (pv 1)))
  pms_nil)))
set_option maxHeartbeats 4000000 in
theorem oks_par (T : Tx K mg ad fa fd) (hsm : ∃ o, base.get? sysModules = some o) (G : AllG P w K mg base ad fa fd k cf) (GS : AllS P w K mg base ad fa k cf) : GsOk P w K mg base (k + 1 + 1) (ar .par - 1) (fa .par) (spF K ad (ar .par) (runF 2 (b_par cf))) :=
  gs_ok (ps := []) (T.fu .par) sc_par hsm rfl rfl T.bs_par fun cdv A outer s H E S =>
  (pms_cons (pms_set (i := 1) sc_par.nd rfl (by first | exact Or.inl rfl | exact Or.inr rfl) (pm_tup (pma_cons pm_str (pma_star (pm_var (pv 0)) pma_nil (fun h1 h2 => StX.pa_star h1 h2)))))
  (pms_cons (pms_expr (pm_call (G .check_plan).up S rfl (T.mgs .check_plan rfl) (T.fu .check_plan).kp (T.bi .check_plan rfl) (pma_cons (pm_var (pv 1)) pma_nil)))
  (pms_cons (pms_ret (pm_var (pv 1)))
  pms_nil)))
theorem sc_L_cell : FnScope ["_law_script", "_law_k"] (ps .L_cell) (defScope (sf .L_cell)) := ⟨rfl, rfl, rfl, by decide +kernel, rfl, by decide +kernel, by decide +kernel⟩
set_option maxHeartbeats 4000000 in
theorem ok_L_cell (T : Tx K mg ad fa fd) (hsm : ∃ o, base.get? sysModules = some o) (G : AllG P w K mg base ad fa fd k cf) (GS : AllS P w K mg base ad fa k cf) : GnOk P w K mg base (k + 1 + 1) (fa .L_cell) (fd .L_cell) (ps .L_cell) (spF K ad (ar .L_cell) (runF 2 (b_L_cell cf))) :=
  gn_ok (T.fu .L_cell) sc_L_cell hsm rfl fun cdv A outer s H E S =>
  (pms_cons (pms_if (ptM_cmp om_lt (pm_var (pv 1)) (pm_callB cm_len rfl T.z_len PySem.boot_len (pma_cons (pm_var (pv 0)) pma_nil)) (nomark _)) (pms_cons (pms_ret (pm_ix (pm_var (pv 0)) (pm_var (pv 1)) (fun _ _ => rfl)))
    pms_nil) pms_nil)
  (pms_cons (pms_ret pm_int)
  pms_nil))
theorem sc_L_source : FnScope ["_law_cell_here"] (ps .L_source) (defScope (sf .L_source)) := ⟨rfl, rfl, rfl, by decide +kernel, rfl, by decide +kernel, by decide +kernel⟩
set_option maxHeartbeats 4000000 in
theorem ok_L_source (T : Tx K mg ad fa fd) (hsm : ∃ o, base.get? sysModules = some o) (G : AllG P w K mg base ad fa fd k cf) (GS : AllS P w K mg base ad fa k cf) : GnOk P w K mg base (k + 1 + 1) (fa .L_source) (fd .L_source) (ps .L_source) (spF K ad (ar .L_source) (runF 1 (b_L_source cf))) :=
  gn_ok (T.fu .L_source) sc_L_source hsm rfl fun cdv A outer s H E S =>
  (pms_cons (pms_ret (pm_lstS (pma_cons (pm_callB (cm_max2 S.calm) rfl T.z_max PyProof.Rows.boot_max (pma_cons pm_int (pma_cons (pm_bin om_sub (pm_var (pv 0)) (pm_bin om_pow pm_int pm_int)) pma_nil))) (pma_cons (pm_bin om_add (pm_bin om_mod (pm_callTy cm_int rfl T.z_int PyProof.Rows.boot_int (pma_cons (pm_var (pv 0)) pma_nil)) pm_int) pm_int) (pma_cons pm_int pma_nil)))))
  pms_nil)
theorem sc_L_random : FnScope ["_law_source_here", "_law_count", "_law_found", "_law_stirred"] (ps .L_random) (defScope (sf .L_random)) := ⟨rfl, rfl, rfl, by decide +kernel, rfl, by decide +kernel, by decide +kernel⟩
set_option maxHeartbeats 4000000 in
theorem ok_L_random (T : Tx K mg ad fa fd) (hsm : ∃ o, base.get? sysModules = some o) (G : AllG P w K mg base ad fa fd k cf) (GS : AllS P w K mg base ad fa k cf) : GnOk P w K mg base (k + 1 + 1) (fa .L_random) (fd .L_random) (ps .L_random) (spF K ad (ar .L_random) (runF 4 (b_L_random cf))) :=
  gn_ok (T.fu .L_random) sc_L_random hsm rfl fun cdv A outer s H E S =>
  (pms_cons (pms_if (ptM_cmp om_gt (pm_ix (pm_var (pv 0)) pm_int (fun _ _ => rfl)) pm_int (nomark _)) (pms_cons (pms_set (i := 2) sc_L_random.nd rfl (by first | exact Or.inl rfl | exact Or.inr rfl) (pm_bin om_mod (pm_callTy cm_int rfl T.z_int PyProof.Rows.boot_int (pma_cons (pm_ix (pm_var (pv 0)) pm_int (fun _ _ => rfl)) pma_nil)) (pm_var (pv 1))))
    (pms_cons (pms_asg (pm_bin om_fdiv (pm_ix (pm_var (pv 0)) pm_int (fun _ _ => rfl)) (pm_var (pv 1))) (pmg_item (W := fun c d _ H => E c d H) (pm_var (pv 0)) pm_int))
    (pms_cons (pms_ret (pm_var (pv 2)))
    pms_nil))) pms_nil)
  (pms_cons (pms_asg (pm_bin om_add (pm_ix (pm_var (pv 0)) pm_int (fun _ _ => rfl)) pm_int) (pmg_item (W := fun c d _ H => E c d H) (pm_var (pv 0)) pm_int))
  (pms_cons (pms_asg (pm_bin om_mod (pm_callTy cm_int rfl T.z_int PyProof.Rows.boot_int (pma_cons (pm_bin om_add (pm_bin om_add (pm_bin om_mul (pm_ix (pm_var (pv 0)) pm_int (fun _ _ => rfl)) pm_int) (pm_bin om_mul pm_int (pm_ix (pm_var (pv 0)) pm_int (fun _ _ => rfl)))) pm_int) pma_nil)) pm_int) (pmg_item (W := fun c d _ H => E c d H) (pm_var (pv 0)) pm_int))
  (pms_cons (pms_set (i := 3) sc_L_random.nd rfl (by first | exact Or.inl rfl | exact Or.inr rfl) (pm_bin om_mod (pm_callTy cm_int rfl T.z_int PyProof.Rows.boot_int (pma_cons (pm_bin om_add (pm_bin om_add (pm_bin om_mul (pm_ix (pm_var (pv 0)) pm_int (fun _ _ => rfl)) (pm_ix (pm_var (pv 0)) pm_int (fun _ _ => rfl))) (pm_bin om_mul pm_int (pm_ix (pm_var (pv 0)) pm_int (fun _ _ => rfl)))) pm_int) pma_nil)) pm_int))
  (pms_cons (pms_set (i := 3) sc_L_random.nd rfl (by first | exact Or.inl rfl | exact Or.inr rfl) (pm_bin om_mod (pm_callTy cm_int rfl T.z_int PyProof.Rows.boot_int (pma_cons (pm_bin om_add (pm_bin om_mul (pm_var (pv 3)) (pm_var (pv 3))) (pm_bin om_mul pm_int (pm_var (pv 3)))) pma_nil)) pm_int))
  (pms_cons (pms_ret (pm_bin om_mod (pm_callTy cm_int rfl T.z_int PyProof.Rows.boot_int (pma_cons (pm_bin om_fdiv (pm_var (pv 3)) pm_int) pma_nil)) (pm_var (pv 1))))
  pms_nil))))))
theorem sc_L_choice : FnScope ["_law_source_here", "_law_these"] (ps .L_choice) (defScope (sf .L_choice)) := ⟨rfl, rfl, rfl, by decide +kernel, rfl, by decide +kernel, by decide +kernel⟩
set_option maxHeartbeats 4000000 in
theorem ok_L_choice (T : Tx K mg ad fa fd) (hsm : ∃ o, base.get? sysModules = some o) (G : AllG P w K mg base ad fa fd k cf) (GS : AllS P w K mg base ad fa k cf) : GnOk P w K mg base (k + 1 + 1) (fa .L_choice) (fd .L_choice) (ps .L_choice) (spF K ad (ar .L_choice) (runF 2 (b_L_choice cf))) :=
  gn_ok (T.fu .L_choice) sc_L_choice hsm rfl fun cdv A outer s H E S =>
  (pms_cons (pms_ret (pm_ix (pm_var (pv 1)) (pm_call (G .L_random).up S rfl (T.mgs .L_random rfl) (T.fu .L_random).kp (T.bi .L_random rfl) (pma_cons (pm_var (pv 0)) (pma_cons (pm_callB cm_len rfl T.z_len PySem.boot_len (pma_cons (pm_var (pv 1)) pma_nil)) pma_nil))) (fun _ _ => rfl)))
  pms_nil)
theorem sc_L_parts : FnScope ["_law_source_here", "_law_room", "_law_deep", "_law_word_here", "_law_found", "_law_left", "_law_turn", "_law_size"] (ps .L_parts) (defScope (sf .L_parts)) := ⟨rfl, rfl, rfl, by decide +kernel, rfl, by decide +kernel, by decide +kernel⟩
set_option maxHeartbeats 4000000 in
theorem ok_L_parts (T : Tx K mg ad fa fd) (hsm : ∃ o, base.get? sysModules = some o) (G : AllG P w K mg base ad fa fd k cf) (GS : AllS P w K mg base ad fa k cf) : GnOk P w K mg base (k + 1 + 1) (fa .L_parts) (fd .L_parts) (ps .L_parts) (spF K ad (ar .L_parts) (runF 8 (b_L_parts cf))) :=
  gn_ok (T.fu .L_parts) sc_L_parts hsm rfl fun cdv A outer s H E S =>
  (pms_cons (pms_par (pma_cons (pm_lstS pma_nil) (pma_cons (pm_var (pv 1)) pma_nil)) (fun h => ps_par (i := 4) (j := 5) S.calm sc_L_parts.nd rfl rfl (by decide) rfl rfl h (by first | rfl | with_unfolding_all rfl)))
  (pms_cons (pms_for S (pmi_rng1 rfl T.z_range (pma_cons (pm_bin om_add pm_int (pm_call (G .L_random).up S rfl (T.mgs .L_random rfl) (T.fu .L_random).kp (T.bi .L_random rfl) (pma_cons (pm_var (pv 0)) (pma_cons pm_int pma_nil)))) pma_nil)) (pmg_name (pg_name (i := 6) sc_L_parts.nd rfl (by first | exact Or.inl rfl | exact Or.inr rfl))) (pms_cons (pms_if (ptM_cmp om_gt (pm_var (pv 5)) pm_int (nomark _)) (pms_cons (pms_set (i := 7) sc_L_parts.nd rfl (by first | exact Or.inl rfl | exact Or.inr rfl) (pm_bin om_add pm_int (pm_call (G .L_random).up S rfl (T.mgs .L_random rfl) (T.fu .L_random).kp (T.bi .L_random rfl) (pma_cons (pm_var (pv 0)) (pma_cons (pm_callB (cm_min2 S.calm) rfl T.z_min PyProof.Rows.boot_min (pma_cons (pm_var (pv 5)) (pma_cons pm_int pma_nil))) pma_nil)))))
      (pms_cons (pms_if (pmt_bool (pmw_and (ptM_cmp (om_eq S.u64) (pm_var (pv 3)) pm_str (nomark _)) (pmw_and (ptM_cmp om_gt (pm_var (pv 7)) pm_int (nomark _)) (pmw_and1 (ptM_cmp (om_eq S.u64) (pm_call (G .L_random).up S rfl (T.mgs .L_random rfl) (T.fu .L_random).kp (T.bi .L_random rfl) (pma_cons (pm_var (pv 0)) (pma_cons pm_int pma_nil))) pm_int (nomark _)))))) (pms_cons (pms_expr (pm_meth mm_append PySem.F.plainAttrs_list PySem.F.slot_list_append PySem.F.type_list_append (pm_var (pv 4)) (pma_cons (pm_tup (pma_cons pm_str (pma_cons (pm_call (G .L_plan).up S rfl (T.mgs .L_plan rfl) (T.fu .L_plan).kp (T.bi .L_plan rfl) (pma_cons (pm_var (pv 0)) (pma_cons (pm_bin om_sub (pm_var (pv 7)) pm_int) (pma_cons (pm_bin om_sub (pm_var (pv 2)) pm_int) pma_nil)))) pma_nil))) pma_nil)))
        pms_nil) (pms_cons (pms_expr (pm_meth mm_append PySem.F.plainAttrs_list PySem.F.slot_list_append PySem.F.type_list_append (pm_var (pv 4)) (pma_cons (pm_call (G .L_plan).up S rfl (T.mgs .L_plan rfl) (T.fu .L_plan).kp (T.bi .L_plan rfl) (pma_cons (pm_var (pv 0)) (pma_cons (pm_var (pv 7)) (pma_cons (pm_bin om_sub (pm_var (pv 2)) pm_int) pma_nil)))) pma_nil)))
        pms_nil))
      (pms_cons (pms_set (i := 5) sc_L_parts.nd rfl (by first | exact Or.inl rfl | exact Or.inr rfl) (pm_bin om_sub (pm_var (pv 5)) (pm_var (pv 7))))
      pms_nil))) pms_nil)
    pms_nil))
  (pms_cons (pms_ret (pm_var (pv 4)))
  pms_nil)))
theorem sc_L_plan : FnScope ["_law_source_here", "_law_room", "_law_deep", "_law_kind", "_law_word_here"] (ps .L_plan) (defScope (sf .L_plan)) := ⟨rfl, rfl, rfl, by decide +kernel, rfl, by decide +kernel, by decide +kernel⟩
set_option maxHeartbeats 4000000 in
theorem ok_L_plan (T : Tx K mg ad fa fd) (hsm : ∃ o, base.get? sysModules = some o) (G : AllG P w K mg base ad fa fd k cf) (GS : AllS P w K mg base ad fa k cf) : GnOk P w K mg base (k + 1 + 1) (fa .L_plan) (fd .L_plan) (ps .L_plan) (spF K ad (ar .L_plan) (runF 5 (b_L_plan cf))) :=
  gn_ok (T.fu .L_plan) sc_L_plan hsm rfl fun cdv A outer s H E S =>
  (pms_cons (pms_set (i := 3) sc_L_plan.nd rfl (by first | exact Or.inl rfl | exact Or.inr rfl) (pm_call (G .L_random).up S rfl (T.mgs .L_random rfl) (T.fu .L_random).kp (T.bi .L_random rfl) (pma_cons (pm_var (pv 0)) (pma_cons pm_int pma_nil))))
  (pms_cons (pms_if (pmt_bool (pmw_or (ptM_cmp om_lt (pm_var (pv 2)) pm_int (nomark _)) (pmw_or (pmt_bool (pmw_and (ptM_cmp om_lt (pm_var (pv 1)) pm_int (nomark _)) (pmw_and1 (ptM_cmp om_gt (pm_var (pv 3)) pm_int (nomark _))))) (pmw_or1 (ptM_cmp (om_eq S.u64) (pm_var (pv 3)) pm_int (nomark _)))))) (pms_cons (pms_ret (pm_tup (pma_cons pm_str (pma_cons (pm_call (G .L_choice).up S rfl (T.mgs .L_choice rfl) (T.fu .L_choice).kp (T.bi .L_choice rfl) (pma_cons (pm_var (pv 0)) (pma_cons (pm_lst (pma_cons pm_int (pma_cons pm_int (pma_cons pm_int (pma_cons pm_int (pma_cons pm_int (pma_cons pm_int pma_nil))))))) pma_nil))) pma_nil))))
    pms_nil) pms_nil)
  (pms_cons (pms_if (ptM_cmp (om_eq S.u64) (pm_var (pv 3)) pm_int (nomark _)) (pms_cons (pms_ret (pm_tup (pma_cons pm_str (pma_cons (pm_call (G .L_random).up S rfl (T.mgs .L_random rfl) (T.fu .L_random).kp (T.bi .L_random rfl) (pma_cons (pm_var (pv 0)) (pma_cons pm_int pma_nil))) (pma_cons (pm_call (G .L_plan).up S rfl (T.mgs .L_plan rfl) (T.fu .L_plan).kp (T.bi .L_plan rfl) (pma_cons (pm_var (pv 0)) (pma_cons (pm_var (pv 1)) (pma_cons (pm_bin om_sub (pm_var (pv 2)) pm_int) pma_nil)))) pma_nil)))))
    pms_nil) pms_nil)
  (pms_cons (pms_if (ptM_cmp (om_eq S.u64) (pm_var (pv 3)) pm_int (nomark _)) (pms_cons (pms_ret (pm_tup (pma_cons pm_str (pma_cons (pm_call (G .L_plan).up S rfl (T.mgs .L_plan rfl) (T.fu .L_plan).kp (T.bi .L_plan rfl) (pma_cons (pm_var (pv 0)) (pma_cons (pm_var (pv 1)) (pma_cons (pm_bin om_sub (pm_var (pv 2)) pm_int) pma_nil)))) pma_nil))))
    pms_nil) pms_nil)
  (pms_cons (pms_set (i := 4) sc_L_plan.nd rfl (by first | exact Or.inl rfl | exact Or.inr rfl) (pm_ite (ptM_cmp om_gt (pm_var (pv 3)) pm_int (nomark _)) pm_str pm_str))
  (pms_cons (pms_ret (pm_bin om_add (pm_tup (pma_cons (pm_var (pv 4)) pma_nil)) (pm_callTy cm_tuple rfl T.z_tuple PyProof.Rows.boot_tuple (pma_cons (pm_call (G .L_parts).up S rfl (T.mgs .L_parts rfl) (T.fu .L_parts).kp (T.bi .L_parts rfl) (pma_cons (pm_var (pv 0)) (pma_cons (pm_var (pv 1)) (pma_cons (pm_var (pv 2)) (pma_cons (pm_var (pv 4)) pma_nil))))) pma_nil))))
  pms_nil))))))
theorem sc_L_is_whole : FnScope ["_law_thing", "_law_least", "_law_last"] (ps .L_is_whole) (defScope (sf .L_is_whole)) := ⟨rfl, rfl, rfl, by decide +kernel, rfl, by decide +kernel, by decide +kernel⟩
set_option maxHeartbeats 4000000 in
theorem ok_L_is_whole (T : Tx K mg ad fa fd) (hsm : ∃ o, base.get? sysModules = some o) (G : AllG P w K mg base ad fa fd k cf) (GS : AllS P w K mg base ad fa k cf) : GnOk P w K mg base (k + 1 + 1) (fa .L_is_whole) (fd .L_is_whole) (ps .L_is_whole) (spF K ad (ar .L_is_whole) (runF 3 (b_L_is_whole cf))) :=
  gn_ok (T.fu .L_is_whole) sc_L_is_whole hsm rfl fun cdv A outer s H E S =>
  (pms_cons (pms_ret (pm_and (pm_callB cm_isiS rfl T.z_isinstance PyProof.Rows.boot_isinstance (pma_cons (pm_var (pv 0)) (pma_cons (pm_ty rfl T.z_int PyProof.Rows.boot_int) pma_nil))) (pm_and (pm_not (pm_callB cm_isiS rfl T.z_isinstance PyProof.Rows.boot_isinstance (pma_cons (pm_var (pv 0)) (pma_cons (pm_ty rfl T.z_bool PyProof.Rows.boot_bool) pma_nil)))) (pm_one (pm_chain om_le om_le (pm_var (pv 1)) (pm_var (pv 0)) (pm_var (pv 2)))))))
  pms_nil)
theorem sc_L_sizes : FnScope ["_law_thing", "_law_inner", "_law_found", "_law_part", "_law_sizes_here"] (ps .L_sizes) (defScope (sf .L_sizes)) := ⟨rfl, rfl, rfl, by decide +kernel, rfl, by decide +kernel, by decide +kernel⟩
set_option maxHeartbeats 4000000 in
theorem ok_L_sizes (T : Tx K mg ad fa fd) (hsm : ∃ o, base.get? sysModules = some o) (G : AllG P w K mg base ad fa fd k cf) (GS : AllS P w K mg base ad fa k cf) : GnOk P w K mg base (k + 1 + 1) (fa .L_sizes) (fd .L_sizes) (ps .L_sizes) (spF K ad (ar .L_sizes) (runF 5 (b_L_sizes cf))) :=
  gn_ok (T.fu .L_sizes) sc_L_sizes hsm rfl fun cdv A outer s H E S =>
  (pms_cons (pms_if (pmt_bool (pmw_or (pmt_not (ptM_val (pm_callB cm_isiS rfl T.z_isinstance PyProof.Rows.boot_isinstance (pma_cons (pm_var (pv 0)) (pma_cons (pm_ty rfl T.z_tuple PyProof.Rows.boot_tuple) pma_nil))))) (pmw_or (ptM_cmp (om_eqE S.u64) (pm_var (pv 0)) (pm_tup pma_nil) (by with_unfolding_all rfl)) (pmw_or1 (pmt_not (ptM_val (pm_callB cm_isiS rfl T.z_isinstance PyProof.Rows.boot_isinstance (pma_cons (pm_ix (pm_var (pv 0)) pm_int (fun _ _ => rfl)) (pma_cons (pm_ty rfl T.z_str PyProof.Rows.boot_str) pma_nil))))))))) (pms_cons (pms_ret pm_non)
    pms_nil) pms_nil)
  (pms_cons (pms_if (ptM_cmp (om_eq S.u64) (pm_ix (pm_var (pv 0)) pm_int (fun _ _ => rfl)) pm_str (nomark _)) (pms_cons (pms_ret (pm_ite (pmt_bool (pmw_and (ptM_cmp (om_eq S.u64) (pm_callB cm_len rfl T.z_len PySem.boot_len (pma_cons (pm_var (pv 0)) pma_nil)) pm_int (nomark _)) (pmw_and1 (ptM_val (pm_call (G .L_is_whole).up S rfl (T.mgs .L_is_whole rfl) (T.fu .L_is_whole).kp (T.bi .L_is_whole rfl) (pma_cons (pm_ix (pm_var (pv 0)) pm_int (fun _ _ => rfl)) (pma_cons pm_int (pma_cons pm_int pma_nil)))))))) (pm_lst (pma_cons pm_int (pma_cons pm_int (pma_cons pm_int (pma_cons pm_int pma_nil))))) pm_non))
    pms_nil) pms_nil)
  (pms_cons (pms_if (ptM_cmp (om_notin S.u65) (pm_ix (pm_var (pv 0)) pm_int (fun _ _ => rfl)) (pm_tup (pma_cons pm_str (pma_cons pm_str (pma_cons pm_str (pma_cons pm_str (pma_cons pm_str pma_nil)))))) (by with_unfolding_all rfl)) (pms_cons (pms_ret pm_non)
    pms_nil) pms_nil)
  (pms_cons (pms_set (i := 1) sc_L_sizes.nd rfl (by first | exact Or.inl rfl | exact Or.inr rfl) (pm_sl (pm_var (pv 0)) (pmo_some pm_int) pmo_none))
  (pms_cons (pms_if (ptM_cmp (om_eq S.u64) (pm_ix (pm_var (pv 0)) pm_int (fun _ _ => rfl)) pm_str (nomark _)) (pms_cons (pms_if (pmt_bool (pmw_or (ptM_cmp (om_ne S.u64) (pm_callB cm_len rfl T.z_len PySem.boot_len (pma_cons (pm_var (pv 0)) pma_nil)) pm_int (nomark _)) (pmw_or1 (pmt_not (ptM_val (pm_call (G .L_is_whole).up S rfl (T.mgs .L_is_whole rfl) (T.fu .L_is_whole).kp (T.bi .L_is_whole rfl) (pma_cons (pm_ix (pm_var (pv 0)) pm_int (fun _ _ => rfl)) (pma_cons pm_int (pma_cons pm_int pma_nil))))))))) (pms_cons (pms_ret pm_non)
      pms_nil) pms_nil)
    (pms_cons (pms_set (i := 1) sc_L_sizes.nd rfl (by first | exact Or.inl rfl | exact Or.inr rfl) (pm_sl (pm_var (pv 0)) (pmo_some pm_int) pmo_none))
    pms_nil)) pms_nil)
  (pms_cons (pms_if (pmt_bool (pmw_or (pmt_bool (pmw_and (ptM_cmp (om_in S.u65) (pm_ix (pm_var (pv 0)) pm_int (fun _ _ => rfl)) (pm_tup (pma_cons pm_str (pma_cons pm_str pma_nil))) (by with_unfolding_all rfl)) (pmw_and1 (ptM_cmp (om_ne S.u64) (pm_callB cm_len rfl T.z_len PySem.boot_len (pma_cons (pm_var (pv 0)) pma_nil)) pm_int (nomark _))))) (pmw_or1 (ptM_cmp om_gt (pm_callB cm_len rfl T.z_len PySem.boot_len (pma_cons (pm_var (pv 1)) pma_nil)) pm_int (nomark _))))) (pms_cons (pms_ret pm_non)
    pms_nil) pms_nil)
  (pms_cons (pms_set (i := 2) sc_L_sizes.nd rfl (by first | exact Or.inl rfl | exact Or.inr rfl) (pm_lst (pma_cons (pm_callTy cm_int rfl T.z_int PyProof.Rows.boot_int (pma_cons (pm_cmp (om_eq S.u64) (pm_ix (pm_var (pv 0)) pm_int (fun _ _ => rfl)) pm_str (nomark _)) pma_nil)) (pma_cons (pm_callTy cm_int rfl T.z_int PyProof.Rows.boot_int (pma_cons (pm_cmp (om_eq S.u64) (pm_ix (pm_var (pv 0)) pm_int (fun _ _ => rfl)) pm_str (nomark _)) pma_nil)) (pma_cons pm_int (pma_cons pm_int pma_nil))))))
  (pms_cons (pms_for S (pmi_seq (pm_var (pv 1))) (pmg_name (pg_name (i := 3) sc_L_sizes.nd rfl (by first | exact Or.inl rfl | exact Or.inr rfl))) (pms_cons (pms_set (i := 4) sc_L_sizes.nd rfl (by first | exact Or.inl rfl | exact Or.inr rfl) (pm_call (G .L_sizes).up S rfl (T.mgs .L_sizes rfl) (T.fu .L_sizes).kp (T.bi .L_sizes rfl) (pma_cons (pm_var (pv 3)) pma_nil)))
    (pms_cons (pms_if (pmt_bool (pmw_or (ptM_cmp om_is (pm_var (pv 4)) pm_non (nomark _)) (pmw_or1 (pmt_bool (pmw_and (ptM_cmp (om_eq S.u64) (pm_ix (pm_var (pv 3)) pm_int (fun _ _ => rfl)) pm_str (nomark _)) (pmw_and1 (ptM_cmp (om_ne S.u64) (pm_ix (pm_var (pv 0)) pm_int (fun _ _ => rfl)) pm_str (nomark _)))))))) (pms_cons (pms_ret pm_non)
      pms_nil) pms_nil)
    (pms_cons (pms_set (i := 2) sc_L_sizes.nd rfl (by first | exact Or.inl rfl | exact Or.inr rfl) (pm_lst (pma_cons (pm_bin om_add (pm_ix (pm_var (pv 2)) pm_int (fun _ _ => rfl)) (pm_ix (pm_var (pv 4)) pm_int (fun _ _ => rfl))) (pma_cons (pm_bin om_add (pm_ix (pm_var (pv 2)) pm_int (fun _ _ => rfl)) (pm_ix (pm_var (pv 4)) pm_int (fun _ _ => rfl))) (pma_cons (pm_bin om_add (pm_ix (pm_var (pv 2)) pm_int (fun _ _ => rfl)) (pm_ix (pm_var (pv 4)) pm_int (fun _ _ => rfl))) (pma_cons (pm_callB (cm_max2 S.calm) rfl T.z_max PyProof.Rows.boot_max (pma_cons (pm_ix (pm_var (pv 2)) pm_int (fun _ _ => rfl)) (pma_cons (pm_bin om_add (pm_ix (pm_var (pv 4)) pm_int (fun _ _ => rfl)) pm_int) pma_nil))) pma_nil))))))
    pms_nil))))
  (pms_cons (pms_ret (pm_var (pv 2)))
  pms_nil)))))))))
theorem sc_L_is_plan : FnScope ["_law_thing", "_law_found"] (ps .L_is_plan) (defScope (sf .L_is_plan)) := ⟨rfl, rfl, rfl, by decide +kernel, rfl, by decide +kernel, by decide +kernel⟩
set_option maxHeartbeats 4000000 in
theorem ok_L_is_plan (T : Tx K mg ad fa fd) (hsm : ∃ o, base.get? sysModules = some o) (G : AllG P w K mg base ad fa fd k cf) (GS : AllS P w K mg base ad fa k cf) : GnOk P w K mg base (k + 1 + 1) (fa .L_is_plan) (fd .L_is_plan) (ps .L_is_plan) (spF K ad (ar .L_is_plan) (runF 2 (b_L_is_plan cf))) :=
  gn_ok (T.fu .L_is_plan) sc_L_is_plan hsm rfl fun cdv A outer s H E S =>
  (pms_cons (pms_set (i := 1) sc_L_is_plan.nd rfl (by first | exact Or.inl rfl | exact Or.inr rfl) (pm_call (G .L_sizes).up S rfl (T.mgs .L_sizes rfl) (T.fu .L_sizes).kp (T.bi .L_sizes rfl) (pma_cons (pm_var (pv 0)) pma_nil)))
  (pms_cons (pms_if (pmt_bool (pmw_or (ptM_cmp om_is (pm_var (pv 1)) pm_non (nomark _)) (pmw_or1 (ptM_cmp (om_eq S.u64) (pm_ix (pm_var (pv 0)) pm_int (fun _ _ => rfl)) pm_str (nomark _))))) (pms_cons (pms_ret pm_bl)
    pms_nil) pms_nil)
  (pms_cons (pms_ret (pm_and (pm_cmp om_le (pm_ix (pm_var (pv 1)) pm_int (fun _ _ => rfl)) pm_int (nomark _)) (pm_and (pm_cmp om_le (pm_ix (pm_var (pv 1)) pm_int (fun _ _ => rfl)) pm_int (nomark _)) (pm_and (pm_cmp om_le (pm_ix (pm_var (pv 1)) pm_int (fun _ _ => rfl)) pm_int (nomark _)) (pm_one (pm_cmp om_le (pm_ix (pm_var (pv 1)) pm_int (fun _ _ => rfl)) pm_int (nomark _)))))))
  pms_nil)))
theorem sc_L_odds : FnScope ["_law_found"] (ps .L_odds) (defScope (sf .L_odds)) := ⟨rfl, rfl, rfl, by decide +kernel, rfl, by decide +kernel, by decide +kernel⟩
set_option maxHeartbeats 4000000 in
theorem ok_L_odds (T : Tx K mg ad fa fd) (hsm : ∃ o, base.get? sysModules = some o) (G : AllG P w K mg base ad fa fd k cf) (GS : AllS P w K mg base ad fa k cf) : GnOk P w K mg base (k + 1 + 1) (fa .L_odds) (fd .L_odds) (ps .L_odds) (spF K ad (ar .L_odds) (runF 1 (b_L_odds cf))) :=
  gn_ok (T.fu .L_odds) sc_L_odds hsm rfl fun cdv A outer s H E S =>
  (pms_cons (pms_set (i := 0) sc_L_odds.nd rfl (by first | exact Or.inl rfl | exact Or.inr rfl) (pm_lstS (pma_cons pm_non (pma_cons pm_bl (pma_cons pm_bl (pma_cons pm_int (pma_cons pm_int (pma_cons (pm_neg pm_int) (pma_cons (pm_bin om_pow pm_int pm_int) (pma_cons pm_str (pma_cons pm_str (pma_cons pm_str (pma_cons (pm_tup pma_nil) (pma_cons (pm_lst pma_nil) (pma_cons pm_dict0 (pma_cons (pm_lst (pma_cons pm_int pma_nil)) (pma_cons (pm_tup (pma_cons pm_int pma_nil)) (pma_cons (pm_tup (pma_cons pm_non pma_nil)) pma_nil))))))))))))))))))
  (pms_cons (pms_set (i := 0) sc_L_odds.nd rfl (by first | exact Or.inl rfl | exact Or.inr rfl) (pm_bin om_addS (pm_var (pv 0)) (pm_lst (pma_cons (pm_tup (pma_cons pm_str pma_nil)) (pma_cons (pm_tup (pma_cons pm_str (pma_cons pm_int pma_nil))) (pma_cons (pm_tup (pma_cons pm_str (pma_cons pm_int pma_nil))) (pma_cons (pm_tup (pma_cons pm_str (pma_cons pm_int pma_nil))) (pma_cons (pm_tup (pma_cons pm_str (pma_cons (pm_neg pm_int) pma_nil))) (pma_cons (pm_tup (pma_cons pm_str (pma_cons pm_bl pma_nil))) pma_nil)))))))))
  (pms_cons (pms_expr (pm_meth mm_append PySem.F.plainAttrs_list PySem.F.slot_list_append PySem.F.type_list_append (pm_var (pv 0)) (pma_cons (pm_tup (pma_cons pm_str (pma_cons pm_str pma_nil))) pma_nil)))
  (pms_cons (pms_set (i := 0) sc_L_odds.nd rfl (by first | exact Or.inl rfl | exact Or.inr rfl) (pm_bin om_addS (pm_var (pv 0)) (pm_lst (pma_cons (pm_lst (pma_cons pm_str (pma_cons pm_int pma_nil))) (pma_cons (pm_tup (pma_cons pm_str (pma_cons pm_int (pma_cons pm_int pma_nil)))) (pma_cons (pm_tup (pma_cons pm_str (pma_cons pm_int pma_nil))) (pma_cons (pm_tup (pma_cons pm_int (pma_cons pm_str pma_nil))) (pma_cons (pm_tup (pma_cons pm_str (pma_cons (pm_tup (pma_cons pm_int pma_nil)) pma_nil))) (pma_cons (pm_tup (pma_cons pm_str pma_nil)) (pma_cons (pm_tup (pma_cons pm_str pma_nil)) pma_nil))))))))))
  (pms_cons (pms_set (i := 0) sc_L_odds.nd rfl (by first | exact Or.inl rfl | exact Or.inr rfl) (pm_bin om_addS (pm_var (pv 0)) (pm_lst (pma_cons (pm_tup (pma_cons pm_str (pma_cons (pm_tup pma_nil) pma_nil))) (pma_cons (pm_tup (pma_cons pm_str (pma_cons (pm_tup (pma_cons pm_str pma_nil)) pma_nil))) (pma_cons (pm_tup (pma_cons pm_str (pma_cons (pm_lst (pma_cons pm_str (pma_cons pm_int pma_nil))) pma_nil))) (pma_cons (pm_tup (pma_cons pm_str (pma_cons (pm_tup (pma_cons pm_str pma_nil)) pma_nil))) pma_nil)))))))
  (pms_cons (pms_expr (pm_meth mm_append PySem.F.plainAttrs_list PySem.F.slot_list_append PySem.F.type_list_append (pm_var (pv 0)) (pma_cons (pm_tup (pma_cons pm_str (pma_cons (pm_tup (pma_cons pm_str (pma_cons pm_int pma_nil))) pma_nil))) pma_nil)))
  (pms_cons (pms_set (i := 0) sc_L_odds.nd rfl (by first | exact Or.inl rfl | exact Or.inr rfl) (pm_bin om_addS (pm_var (pv 0)) (pm_lst (pma_cons (pm_tup (pma_cons pm_str (pma_cons (pm_tup (pma_cons pm_str (pma_cons pm_int pma_nil))) pma_nil))) (pma_cons (pm_tup (pma_cons pm_str (pma_cons (pm_tup (pma_cons pm_str (pma_cons (pm_tup (pma_cons pm_str (pma_cons pm_int pma_nil))) pma_nil))) pma_nil))) (pma_cons (pm_tup (pma_cons pm_str (pma_cons (pm_tup (pma_cons pm_str (pma_cons (pm_tup (pma_cons pm_str (pma_cons pm_int pma_nil))) pma_nil))) pma_nil))) pma_nil))))))
  (pms_cons (pms_set (i := 0) sc_L_odds.nd rfl (by first | exact Or.inl rfl | exact Or.inr rfl) (pm_bin om_addS (pm_var (pv 0)) (pm_lst (pma_cons (pm_tup (pma_cons pm_str (pma_cons (pm_tup (pma_cons pm_str (pma_cons (pm_tup (pma_cons pm_str (pma_cons (pm_tup (pma_cons pm_str (pma_cons pm_int pma_nil))) pma_nil))) pma_nil))) pma_nil))) (pma_cons (pm_tup (pma_cons pm_str (pma_cons pm_int (pma_cons (pm_tup (pma_cons pm_str (pma_cons pm_int pma_nil))) pma_nil)))) (pma_cons (pm_tup (pma_cons pm_str (pma_cons pm_int (pma_cons (pm_tup (pma_cons pm_str (pma_cons pm_int pma_nil))) pma_nil)))) pma_nil))))))
  (pms_cons (pms_set (i := 0) sc_L_odds.nd rfl (by first | exact Or.inl rfl | exact Or.inr rfl) (pm_bin om_addS (pm_var (pv 0)) (pm_lst (pma_cons (pm_tup (pma_cons pm_str (pma_cons pm_bl (pma_cons (pm_tup (pma_cons pm_str (pma_cons pm_int pma_nil))) pma_nil)))) (pma_cons (pm_tup (pma_cons pm_str (pma_cons (pm_tup (pma_cons pm_str (pma_cons pm_int pma_nil))) pma_nil))) (pma_cons (pm_tup (pma_cons pm_str (pma_cons pm_int pma_nil))) pma_nil))))))
  (pms_cons (pms_set (i := 0) sc_L_odds.nd rfl (by first | exact Or.inl rfl | exact Or.inr rfl) (pm_bin om_addS (pm_var (pv 0)) (pm_lst (pma_cons (pm_tup (pma_cons pm_str pma_nil)) (pma_cons (pm_tup (pma_cons pm_str (pma_cons (pm_tup (pma_cons pm_str (pma_cons pm_int pma_nil))) pma_nil))) pma_nil)))))
  (pms_cons (pms_set (i := 0) sc_L_odds.nd rfl (by first | exact Or.inl rfl | exact Or.inr rfl) (pm_bin om_addS (pm_var (pv 0)) (pm_lst (pma_cons (pm_tup (pma_cons pm_str (pma_cons (pm_tup (pma_cons pm_str (pma_cons pm_int pma_nil))) (pma_cons (pm_tup (pma_cons pm_str (pma_cons pm_int pma_nil))) pma_nil)))) (pma_cons (pm_tup (pma_cons pm_str (pma_cons (pm_tup (pma_cons pm_str (pma_cons (pm_tup (pma_cons pm_str (pma_cons pm_int pma_nil))) pma_nil))) pma_nil))) pma_nil)))))
  (pms_cons (pms_expr (pm_meth mm_append PySem.F.plainAttrs_list PySem.F.slot_list_append PySem.F.type_list_append (pm_var (pv 0)) (pma_cons (pm_tup (pma_cons pm_str (pma_cons pm_int (pma_cons (pm_tup (pma_cons pm_str (pma_cons (pm_tup (pma_cons pm_str (pma_cons pm_int pma_nil))) pma_nil))) pma_nil)))) pma_nil)))
  (pms_cons (pms_ret (pm_bin om_add (pm_var (pv 0)) (pm_lst (pma_cons (pm_dictC (kvs := [((.inr "draw" : Key), V.int 1)]) (pps_cons pe_str pe_int pps_nil) (fun _ _ _ => (.cons (.int _) .nil))) (pma_cons (pm_tup (pma_cons (pm_tup (pma_cons pm_str (pma_cons pm_int pma_nil))) pma_nil)) (pma_cons (pm_tup (pma_cons pm_str (pma_cons pm_non pma_nil))) (pma_cons (pm_tup (pma_cons pm_str (pma_cons pm_str pma_nil))) (pma_cons (pm_tup (pma_cons (pm_tup pma_nil) pma_nil)) (pma_cons (pm_tup (pma_cons pm_str (pma_cons (pm_tup pma_nil) pma_nil))) pma_nil)))))))))
  pms_nil)))))))))))))
theorem sc_L_put : FnScope ["_law_word_here", "_law_parts_here", "_law_call"] (ps .L_put) (defScope (sf .L_put)) := ⟨rfl, rfl, rfl, by decide +kernel, rfl, by decide +kernel, by decide +kernel⟩
set_option maxHeartbeats 4000000 in
theorem ok_L_put (T : Tx K mg ad fa fd) (hsm : ∃ o, base.get? sysModules = some o) (G : AllG P w K mg base ad fa fd k cf) (GS : AllS P w K mg base ad fa k cf) : GnOk P w K mg base (k + 1 + 1) (fa .L_put) (fd .L_put) (ps .L_put) (spF K ad (ar .L_put) (runF 3 (b_L_put cf))) :=
  gn_ok (T.fu .L_put) sc_L_put hsm rfl fun cdv A outer s H E S =>
  (pms_cons (pms_set (i := 2) sc_L_put.nd rfl (by first | exact Or.inl rfl | exact Or.inr rfl) (pm_ite (ptM_cmp (om_eq S.u64) (pm_var (pv 0)) pm_str (nomark _)) (pm_adr rfl (T.fv_seq ▸ T.mgs .seq rfl)) (pm_adr rfl (T.fv_par ▸ T.mgs .par rfl))))
  (pms_cons (pms_if (ptM_cmp (om_eq S.u64) (pm_callB cm_len rfl T.z_len PySem.boot_len (pma_cons (pm_var (pv 1)) pma_nil)) pm_int (nomark _)) (pms_cons (pms_ret (pm_callV0 (pv 2) (T.fv_seq ▸ (GS .seq rfl).mono (Nat.le_succ _)) (T.fv_par ▸ (GS .par rfl).mono (Nat.le_succ _)) S (T.fv_seq ▸ (T.fu .seq).kp) (T.fv_par ▸ (T.fu .par).kp)))
    pms_nil) pms_nil)
  (pms_cons (pms_if (ptM_cmp (om_eq S.u64) (pm_callB cm_len rfl T.z_len PySem.boot_len (pma_cons (pm_var (pv 1)) pma_nil)) pm_int (nomark _)) (pms_cons (pms_ret (pm_callV (pv 2) (T.fv_seq ▸ (GS .seq rfl).mono (Nat.le_succ _)) (T.fv_par ▸ (GS .par rfl).mono (Nat.le_succ _)) S (T.fv_seq ▸ (T.fu .seq).kp) (T.fv_par ▸ (T.fu .par).kp) (pma_cons (pm_ix (pm_var (pv 1)) pm_int (fun _ _ => rfl)) pma_nil)))
    pms_nil) pms_nil)
  (pms_cons (pms_if (ptM_cmp (om_eq S.u64) (pm_callB cm_len rfl T.z_len PySem.boot_len (pma_cons (pm_var (pv 1)) pma_nil)) pm_int (nomark _)) (pms_cons (pms_ret (pm_callV (pv 2) (T.fv_seq ▸ (GS .seq rfl).mono (Nat.le_succ _)) (T.fv_par ▸ (GS .par rfl).mono (Nat.le_succ _)) S (T.fv_seq ▸ (T.fu .seq).kp) (T.fv_par ▸ (T.fu .par).kp) (pma_cons (pm_ix (pm_var (pv 1)) pm_int (fun _ _ => rfl)) (pma_cons (pm_ix (pm_var (pv 1)) pm_int (fun _ _ => rfl)) pma_nil))))
    pms_nil) pms_nil)
  (pms_cons (pms_if (ptM_cmp (om_eq S.u64) (pm_callB cm_len rfl T.z_len PySem.boot_len (pma_cons (pm_var (pv 1)) pma_nil)) pm_int (nomark _)) (pms_cons (pms_ret (pm_callV (pv 2) (T.fv_seq ▸ (GS .seq rfl).mono (Nat.le_succ _)) (T.fv_par ▸ (GS .par rfl).mono (Nat.le_succ _)) S (T.fv_seq ▸ (T.fu .seq).kp) (T.fv_par ▸ (T.fu .par).kp) (pma_cons (pm_ix (pm_var (pv 1)) pm_int (fun _ _ => rfl)) (pma_cons (pm_ix (pm_var (pv 1)) pm_int (fun _ _ => rfl)) (pma_cons (pm_ix (pm_var (pv 1)) pm_int (fun _ _ => rfl)) pma_nil)))))
    pms_nil) pms_nil)
  (pms_cons (pms_if (ptM_cmp (om_eq S.u64) (pm_callB cm_len rfl T.z_len PySem.boot_len (pma_cons (pm_var (pv 1)) pma_nil)) pm_int (nomark _)) (pms_cons (pms_ret (pm_callV (pv 2) (T.fv_seq ▸ (GS .seq rfl).mono (Nat.le_succ _)) (T.fv_par ▸ (GS .par rfl).mono (Nat.le_succ _)) S (T.fv_seq ▸ (T.fu .seq).kp) (T.fv_par ▸ (T.fu .par).kp) (pma_cons (pm_ix (pm_var (pv 1)) pm_int (fun _ _ => rfl)) (pma_cons (pm_ix (pm_var (pv 1)) pm_int (fun _ _ => rfl)) (pma_cons (pm_ix (pm_var (pv 1)) pm_int (fun _ _ => rfl)) (pma_cons (pm_ix (pm_var (pv 1)) pm_int (fun _ _ => rfl)) pma_nil))))))
    pms_nil) pms_nil)
  (pms_cons (pms_if (ptM_cmp (om_eq S.u64) (pm_callB cm_len rfl T.z_len PySem.boot_len (pma_cons (pm_var (pv 1)) pma_nil)) pm_int (nomark _)) (pms_cons (pms_ret (pm_callV (pv 2) (T.fv_seq ▸ (GS .seq rfl).mono (Nat.le_succ _)) (T.fv_par ▸ (GS .par rfl).mono (Nat.le_succ _)) S (T.fv_seq ▸ (T.fu .seq).kp) (T.fv_par ▸ (T.fu .par).kp) (pma_cons (pm_ix (pm_var (pv 1)) pm_int (fun _ _ => rfl)) (pma_cons (pm_ix (pm_var (pv 1)) pm_int (fun _ _ => rfl)) (pma_cons (pm_ix (pm_var (pv 1)) pm_int (fun _ _ => rfl)) (pma_cons (pm_ix (pm_var (pv 1)) pm_int (fun _ _ => rfl)) (pma_cons (pm_ix (pm_var (pv 1)) pm_int (fun _ _ => rfl)) pma_nil)))))))
    pms_nil) pms_nil)
  (pms_cons (pms_ret (pm_callV (pv 2) (T.fv_seq ▸ (GS .seq rfl).mono (Nat.le_succ _)) (T.fv_par ▸ (GS .par rfl).mono (Nat.le_succ _)) S (T.fv_seq ▸ (T.fu .seq).kp) (T.fv_par ▸ (T.fu .par).kp) (pma_cons (pm_ix (pm_var (pv 1)) pm_int (fun _ _ => rfl)) (pma_cons (pm_ix (pm_var (pv 1)) pm_int (fun _ _ => rfl)) (pma_cons (pm_ix (pm_var (pv 1)) pm_int (fun _ _ => rfl)) (pma_cons (pm_ix (pm_var (pv 1)) pm_int (fun _ _ => rfl)) (pma_cons (pm_ix (pm_var (pv 1)) pm_int (fun _ _ => rfl)) (pma_cons (pm_ix (pm_var (pv 1)) pm_int (fun _ _ => rfl)) pma_nil))))))))
  pms_nil))))))))
theorem sc_L_got : FnScope ["_law_word_here", "_law_parts_here", "_law_before", "_law_due", "_law_turn"] (ps .L_got) (defScope (sf .L_got)) := ⟨rfl, rfl, rfl, by decide +kernel, rfl, by decide +kernel, by decide +kernel⟩
set_option maxHeartbeats 4000000 in
theorem ok_L_got (T : Tx K mg ad fa fd) (hsm : ∃ o, base.get? sysModules = some o) (LX : LamsX mg ad fd base) (G0 : AllG P w K mg base ad fa fd k cf) (GS0 : AllS P w K mg base ad fa k cf) : GnOk P w K mg base (k + 5 + 1) (fa .L_got) (fd .L_got) (ps .L_got) (spF K ad (ar .L_got) (runF 5 (b_L_got cf))) := by
  have G : AllG P w K mg base ad fa fd (k + 4) cf := fun f => (G0 f).mono (by omega)
  have GS : AllS P w K mg base ad fa (k + 4) cf := fun f h => (GS0 f h).mono (by omega)
  obtain ⟨c, Pt, LD⟩ := LX.l_L_got
  exact gn_okC (T.fu .L_got) sc_L_got hsm rfl fun cdv A outer s H E hcd S =>
  (pms_cons (pms_par (pma_cons (pm_callB (cm_repr S) rfl T.z_repr PyProof.Rows.boot_repr (pma_cons (pm_var (pv 1)) pma_nil)) (pma_cons pm_str pma_nil)) (fun h => ps_par (i := 2) (j := 3) S.calm sc_L_got.nd rfl rfl (by decide) rfl rfl h (by first | rfl | with_unfolding_all rfl)))
  (pms_cons (pms_if (ptM_val (pm_call (G .L_is_plan).up S rfl (T.mgs .L_is_plan rfl) (T.fu .L_is_plan).kp (T.bi .L_is_plan rfl) (pma_cons (pm_bin om_add (pm_tup (pma_cons (pm_var (pv 0)) pma_nil)) (pm_callTy cm_tuple rfl T.z_tuple PyProof.Rows.boot_tuple (pma_cons (pm_var (pv 1)) pma_nil))) pma_nil))) (pms_cons (pms_set (i := 3) sc_L_got.nd rfl (by first | exact Or.inl rfl | exact Or.inr rfl) (pm_callB (cm_repr S) rfl T.z_repr PyProof.Rows.boot_repr (pma_cons (pm_bin om_add (pm_tup (pma_cons (pm_var (pv 0)) pma_nil)) (pm_callTy cm_tuple rfl T.z_tuple PyProof.Rows.boot_tuple (pma_cons (pm_var (pv 1)) pma_nil))) pma_nil)))
    pms_nil) pms_nil)
  (pms_cons (pms_for S (pmi_rng1 rfl T.z_range (pma_cons pm_int pma_nil)) (pmg_name (pg_name (i := 4) sc_L_got.nd rfl (by first | exact Or.inl rfl | exact Or.inr rfl))) (pms_cons (pms_if (ptM_cmp (om_ne S.u64) (pm_said (L_said_G T hsm) (S.rm.mono (by omega)) S.gd rfl (T.mgs .L_said rfl) (T.fu .L_said).kp (T.bi .L_said rfl) LD.tb (hcd.symm.trans LD.cd) LD.mem LD.one (LamX.lamS_by (sc := defScope (sf .L_got)) (by decide +kernel)) rfl (fun _ _ _ _ _ => rfl) (fun A1 outer1 s1 H1 E1 f1 c1 hr1 hg1 => have SL := sit_lam (E := E1) (s := s1) (H := H1) (outer := outer1) hr1 hg1 hsm; (pm_call (G0 .L_put).up SL rfl (T.mgs .L_put rfl) (T.fu .L_put).kp (T.bi .L_put rfl) (pma_cons (pm_var (pv 0)) (pma_cons (pm_var (pv 1)) pma_nil))))) (pm_var (pv 3)) (nomark _)) (pms_cons (pms_ret pm_bl)
      pms_nil) pms_nil)
    pms_nil))
  (pms_cons (pms_ret (pm_cmp (om_eq S.u64) (pm_callB (cm_repr S) rfl T.z_repr PyProof.Rows.boot_repr (pma_cons (pm_var (pv 1)) pma_nil)) (pm_var (pv 2)) (nomark _)))
  pms_nil))))
abbrev n_law : List Str := ["_law_script", "_law_thing", "_law_word_here", "_law_k", "_law_source_here", "_law_lap", "_law_parts_here", "_law_turn", "_law_other", "_law_part", "_law_odd", "_law_some"]
theorem sc_law : FnScope ["_law_script", "_law_thing", "_law_word_here", "_law_k", "_law_source_here", "_law_lap", "_law_parts_here", "_law_turn", "_law_other", "_law_part", "_law_odd", "_law_some"] (ps .law) (defScope (sf .law)) := ⟨rfl, rfl, rfl, by decide +kernel, rfl, by decide +kernel, by decide +kernel⟩
set_option maxHeartbeats 4000000 in
theorem ok_law (T : Tx K mg ad fa fd) (hsm : ∃ o, base.get? sysModules = some o) (G : AllG P w K mg base ad fa fd k cf) (GS : AllS P w K mg base ad fa k cf) : GnOk P w K mg base (k + 1 + 1) (fa .law) (fd .law) (ps .law) (spF K ad (ar .law) (runF 12 (b_law cf))) :=
  gn_ok (T.fu .law) sc_law hsm rfl fun cdv A outer s H E S =>
  (pms_cons (pms_for S (pmi_seq (pm_call0 (G .L_odds).up S rfl (T.mgs .L_odds rfl) (T.fu .L_odds).kp (T.bi .L_odds rfl))) (pmg_name (pg_name (i := 1) sc_law.nd rfl (by first | exact Or.inl rfl | exact Or.inr rfl))) (pms_cons (pms_for S (pmi_seq (pm_tup (pma_cons pm_str (pma_cons pm_str pma_nil)))) (pmg_name (pg_name (i := 2) sc_law.nd rfl (by first | exact Or.inl rfl | exact Or.inr rfl))) (pms_cons (pms_if (pmt_bool (pmw_or (pmt_not (ptM_val (pm_call (G .L_got).up S rfl (T.mgs .L_got rfl) (T.fu .L_got).kp (T.bi .L_got rfl) (pma_cons (pm_var (pv 2)) (pma_cons (pm_lst (pma_cons (pm_var (pv 1)) pma_nil)) pma_nil))))) (pmw_or1 (pmt_not (ptM_val (pm_call (G .L_got).up S rfl (T.mgs .L_got rfl) (T.fu .L_got).kp (T.bi .L_got rfl) (pma_cons (pm_var (pv 2)) (pma_cons (pm_lst (pma_cons (pm_tup (pma_cons pm_str (pma_cons pm_int pma_nil))) (pma_cons (pm_var (pv 1)) pma_nil))) pma_nil)))))))) (pms_cons (pms_ret pm_bl)
        pms_nil) pms_nil)
      pms_nil))
    pms_nil))
  (pms_cons (pms_for S (pmi_rng1 rfl T.z_range (pma_cons (pm_callB (cm_max2 S.calm) rfl T.z_max PyProof.Rows.boot_max (pma_cons pm_int (pma_cons (pm_callB (cm_min2 S.calm) rfl T.z_min PyProof.Rows.boot_min (pma_cons (pm_callB cm_len rfl T.z_len PySem.boot_len (pma_cons (pm_var (pv 0)) pma_nil)) (pma_cons pm_int pma_nil))) pma_nil))) pma_nil)) (pmg_name (pg_name (i := 3) sc_law.nd rfl (by first | exact Or.inl rfl | exact Or.inr rfl))) (pms_cons (pms_set (i := 4) sc_law.nd rfl (by first | exact Or.inl rfl | exact Or.inr rfl) (pm_call (G .L_source).up S rfl (T.mgs .L_source rfl) (T.fu .L_source).kp (T.bi .L_source rfl) (pma_cons (pm_call (G .L_cell).up S rfl (T.mgs .L_cell rfl) (T.fu .L_cell).kp (T.bi .L_cell rfl) (pma_cons (pm_var (pv 0)) (pma_cons (pm_var (pv 3)) pma_nil))) pma_nil)))
    (pms_cons (pms_for S (pmi_rng1 rfl T.z_range (pma_cons pm_int pma_nil)) (pmg_name (pg_name (i := 5) sc_law.nd rfl (by first | exact Or.inl rfl | exact Or.inr rfl))) (pms_cons (pms_setLc (i := 6) (own := [("_law_turn", 7)]) S sc_law.nd rfl rfl (sw_true rfl rfl rfl (by decide +kernel)) (tg_name (by decide)) (pmi_rng1 rfl T.z_range (pma_cons (pm_call (G .L_random).up S rfl (T.mgs .L_random rfl) (T.fu .L_random).kp (T.bi .L_random rfl) (pma_cons (pm_var (pv 4)) (pma_cons pm_int pma_nil))) pma_nil)) (blkOk_by (N := n_law) (sc := defScope (sf .law)) (by decide +kernel)) (fun s2 H2 C cl fp => (pg_name (i := 7) sc_law.nd rfl (Or.inl rfl))) (fun s2 H2 C cl fp => pmts_nil) (fun s2 H2 C cl fp => (pm_call (G .L_plan).up (S.blk s2 H2 _ (compEnvC _ cl C _) fp) rfl (T.mgs .L_plan rfl) (T.fu .L_plan).kp (T.bi .L_plan rfl) (pma_cons (pm_var (pv 4)) (pma_cons pm_int (pma_cons pm_int pma_nil))))))
      (pms_cons (pms_setLc (i := 8) (own := [("_law_part", 9)]) S sc_law.nd rfl rfl (sw_true rfl rfl rfl (by decide +kernel)) (tg_name (by decide)) (pmi_seq (pm_var (pv 6))) (blkOk_by (N := n_law) (sc := defScope (sf .law)) (by decide +kernel)) (fun s2 H2 C cl fp => (pg_name (i := 9) sc_law.nd rfl (Or.inl rfl))) (fun s2 H2 C cl fp => pmts_nil) (fun s2 H2 C cl fp => (pm_ite (ptM_cmp (om_eq (S.blk s2 H2 _ (compEnvC _ cl C _) fp).u64) (pm_call (G .L_random).up (S.blk s2 H2 _ (compEnvC _ cl C _) fp) rfl (T.mgs .L_random rfl) (T.fu .L_random).kp (T.bi .L_random rfl) (pma_cons (pm_var (pv 4)) (pma_cons pm_int pma_nil))) pm_int (nomark _)) (pm_tup (pma_cons pm_str (pma_cons (pm_var (pv 9)) pma_nil))) (pm_var (pv 9)))))
      (pms_cons (pms_set (i := 10) sc_law.nd rfl (by first | exact Or.inl rfl | exact Or.inr rfl) (pm_bin om_add (pm_var (pv 8)) (pm_lst (pma_cons (pm_call (G .L_choice).up S rfl (T.mgs .L_choice rfl) (T.fu .L_choice).kp (T.bi .L_choice rfl) (pma_cons (pm_var (pv 4)) (pma_cons (pm_call0 (G .L_odds).up S rfl (T.mgs .L_odds rfl) (T.fu .L_odds).kp (T.bi .L_odds rfl)) pma_nil))) pma_nil))))
      (pms_cons (pms_for S (pmi_seq (pm_tup (pma_cons (pm_var (pv 6)) (pma_cons (pm_var (pv 8)) (pma_cons (pm_var (pv 10)) (pma_cons (pm_rev (pm_var (pv 10))) pma_nil)))))) (pmg_name (pg_name (i := 11) sc_law.nd rfl (by first | exact Or.inl rfl | exact Or.inr rfl))) (pms_cons (pms_if (pmt_bool (pmw_or (pmt_not (ptM_val (pm_call (G .L_got).up S rfl (T.mgs .L_got rfl) (T.fu .L_got).kp (T.bi .L_got rfl) (pma_cons pm_str (pma_cons (pm_var (pv 11)) pma_nil))))) (pmw_or1 (pmt_not (ptM_val (pm_call (G .L_got).up S rfl (T.mgs .L_got rfl) (T.fu .L_got).kp (T.bi .L_got rfl) (pma_cons pm_str (pma_cons (pm_var (pv 11)) pma_nil)))))))) (pms_cons (pms_ret pm_bl)
          pms_nil) pms_nil)
        pms_nil))
      pms_nil)))))
    pms_nil)))
  (pms_cons (pms_ret pm_bl)
  pms_nil)))
theorem all_ok (T : Tx K mg ad fa fd) (hsm : ∃ o, base.get? sysModules = some o) (LX : LamsX mg ad fd base) : ∀ k, AllG P w K mg base ad fa fd (6 * k) (callF k) ∧ AllS P w K mg base ad fa (6 * k) (callF k)
  | 0 => ⟨fun f => gn_none (by cases f <;> rfl), fun f hf => by cases f <;> first | (cases hf; done) | exact gs_none⟩
  | k + 1 => by
    obtain ⟨G, GS⟩ := all_ok T hsm LX k
    refine ⟨fun f => ?_, fun f hf => ?_⟩
    · cases f
      · exact (ok_is_between T hsm G GS).mono (by omega)
      · exact (ok_is_formed T hsm G GS).mono (by omega)
      · exact (ok_is_split T hsm G GS).mono (by omega)
      · exact (ok_is_formed_part T hsm G GS).mono (by omega)
      · exact (ok_parts_of T hsm G GS).mono (by omega)
      · exact (ok_counts_of T hsm G GS).mono (by omega)
      · exact (ok_is_plan T hsm G GS).mono (by omega)
      · exact (ok_check_plan T hsm G GS).mono (by omega)
      · exact (ok_seq T hsm G GS).mono (by omega)
      · exact (ok_par T hsm G GS).mono (by omega)
      · exact (ok_L_cell T hsm G GS).mono (by omega)
      · exact (ok_L_source T hsm G GS).mono (by omega)
      · exact (ok_L_random T hsm G GS).mono (by omega)
      · exact (ok_L_choice T hsm G GS).mono (by omega)
      · exact (ok_L_parts T hsm G GS).mono (by omega)
      · exact (ok_L_plan T hsm G GS).mono (by omega)
      · exact (ok_L_is_whole T hsm G GS).mono (by omega)
      · exact (ok_L_sizes T hsm G GS).mono (by omega)
      · exact (ok_L_is_plan T hsm G GS).mono (by omega)
      · exact (ok_L_odds T hsm G GS).mono (by omega)
      · exact gn_none (by rfl)
      · exact gn_none (by rfl)
      · exact (ok_L_put T hsm G GS).mono (by omega)
      · exact (ok_L_got T hsm LX G GS).mono (by omega)
      · exact (ok_law T hsm G GS).mono (by omega)
    · cases f
      · cases hf
      · cases hf
      · cases hf
      · cases hf
      · cases hf
      · cases hf
      · cases hf
      · cases hf
      · exact (oks_seq T hsm G GS).mono (by omega)
      · exact (oks_par T hsm G GS).mono (by omega)
      · cases hf
      · cases hf
      · cases hf
      · cases hf
      · cases hf
      · cases hf
      · cases hf
      · cases hf
      · cases hf
      · cases hf
      · cases hf
      · cases hf
      · cases hf
      · cases hf
      · cases hf
end
end Ga
namespace Ga
open PySem L2 Mi
def lamNames : List Str := ["_law_got"]
theorem bi_0 {K : PySem.W.Frag} {kV doc pm cd ct : Value} {an : Option Addr} : Binds K (PySem.W.fnOf "is_between" "is_between" (defArgs (sf .is_between)) (defBody (sf .is_between)) (defScope (sf .is_between)) .none kV doc pm an cd ct) (ps .is_between) [] := Binds.all fun us hl => match us, hl with | [_, _, _], _ => rfl
theorem bi_1 {K : PySem.W.Frag} {kV doc pm cd ct : Value} {an : Option Addr} : Binds K (PySem.W.fnOf "is_formed" "is_formed" (defArgs (sf .is_formed)) (defBody (sf .is_formed)) (defScope (sf .is_formed)) .none kV doc pm an cd ct) (ps .is_formed) [] := Binds.all fun us hl => match us, hl with | [_, _], _ => rfl
theorem bi_2 {K : PySem.W.Frag} {kV doc pm cd ct : Value} {an : Option Addr} : Binds K (PySem.W.fnOf "is_split" "is_split" (defArgs (sf .is_split)) (defBody (sf .is_split)) (defScope (sf .is_split)) .none kV doc pm an cd ct) (ps .is_split) [] := Binds.all fun us hl => match us, hl with | [_], _ => rfl
theorem bi_3 {K : PySem.W.Frag} {kV doc pm cd ct : Value} {an : Option Addr} : Binds K (PySem.W.fnOf "is_formed_part" "is_formed_part" (defArgs (sf .is_formed_part)) (defBody (sf .is_formed_part)) (defScope (sf .is_formed_part)) .none kV doc pm an cd ct) (ps .is_formed_part) [] := Binds.all fun us hl => match us, hl with | [_, _], _ => rfl
theorem bi_4 {K : PySem.W.Frag} {kV doc pm cd ct : Value} {an : Option Addr} : Binds K (PySem.W.fnOf "parts_of" "parts_of" (defArgs (sf .parts_of)) (defBody (sf .parts_of)) (defScope (sf .parts_of)) .none kV doc pm an cd ct) (ps .parts_of) [] := Binds.all fun us hl => match us, hl with | [_], _ => rfl
theorem bi_5 {K : PySem.W.Frag} {kV doc pm cd ct : Value} {an : Option Addr} : Binds K (PySem.W.fnOf "counts_of" "counts_of" (defArgs (sf .counts_of)) (defBody (sf .counts_of)) (defScope (sf .counts_of)) .none kV doc pm an cd ct) (ps .counts_of) [] := Binds.all fun us hl => match us, hl with | [_], _ => rfl
theorem bi_6 {K : PySem.W.Frag} {kV doc pm cd ct : Value} {an : Option Addr} : Binds K (PySem.W.fnOf "is_plan" "is_plan" (defArgs (sf .is_plan)) (defBody (sf .is_plan)) (defScope (sf .is_plan)) .none kV doc pm an cd ct) (ps .is_plan) [] := Binds.all fun us hl => match us, hl with | [_], _ => rfl
theorem bi_7 {K : PySem.W.Frag} {kV doc pm cd ct : Value} {an : Option Addr} : Binds K (PySem.W.fnOf "check_plan" "check_plan" (defArgs (sf .check_plan)) (defBody (sf .check_plan)) (defScope (sf .check_plan)) .none kV doc pm an cd ct) (ps .check_plan) [] := Binds.all fun us hl => match us, hl with | [_], _ => rfl
theorem bi_10 {K : PySem.W.Frag} {kV doc pm cd ct : Value} {an : Option Addr} : Binds K (PySem.W.fnOf "_law_cell" "_law_cell" (defArgs (sf .L_cell)) (defBody (sf .L_cell)) (defScope (sf .L_cell)) .none kV doc pm an cd ct) (ps .L_cell) [] := Binds.all fun us hl => match us, hl with | [_, _], _ => rfl
theorem bi_11 {K : PySem.W.Frag} {kV doc pm cd ct : Value} {an : Option Addr} : Binds K (PySem.W.fnOf "_law_source" "_law_source" (defArgs (sf .L_source)) (defBody (sf .L_source)) (defScope (sf .L_source)) .none kV doc pm an cd ct) (ps .L_source) [] := Binds.all fun us hl => match us, hl with | [_], _ => rfl
theorem bi_12 {K : PySem.W.Frag} {kV doc pm cd ct : Value} {an : Option Addr} : Binds K (PySem.W.fnOf "_law_random" "_law_random" (defArgs (sf .L_random)) (defBody (sf .L_random)) (defScope (sf .L_random)) .none kV doc pm an cd ct) (ps .L_random) [] := Binds.all fun us hl => match us, hl with | [_, _], _ => rfl
theorem bi_13 {K : PySem.W.Frag} {kV doc pm cd ct : Value} {an : Option Addr} : Binds K (PySem.W.fnOf "_law_choice" "_law_choice" (defArgs (sf .L_choice)) (defBody (sf .L_choice)) (defScope (sf .L_choice)) .none kV doc pm an cd ct) (ps .L_choice) [] := Binds.all fun us hl => match us, hl with | [_, _], _ => rfl
theorem bi_14 {K : PySem.W.Frag} {kV doc pm cd ct : Value} {an : Option Addr} : Binds K (PySem.W.fnOf "_law_parts" "_law_parts" (defArgs (sf .L_parts)) (defBody (sf .L_parts)) (defScope (sf .L_parts)) .none kV doc pm an cd ct) (ps .L_parts) [] := Binds.all fun us hl => match us, hl with | [_, _, _, _], _ => rfl
theorem bi_15 {K : PySem.W.Frag} {kV doc pm cd ct : Value} {an : Option Addr} : Binds K (PySem.W.fnOf "_law_plan" "_law_plan" (defArgs (sf .L_plan)) (defBody (sf .L_plan)) (defScope (sf .L_plan)) .none kV doc pm an cd ct) (ps .L_plan) [] := Binds.all fun us hl => match us, hl with | [_, _, _], _ => rfl
theorem bi_16 {K : PySem.W.Frag} {kV doc pm cd ct : Value} {an : Option Addr} : Binds K (PySem.W.fnOf "_law_is_whole" "_law_is_whole" (defArgs (sf .L_is_whole)) (defBody (sf .L_is_whole)) (defScope (sf .L_is_whole)) .none kV doc pm an cd ct) (ps .L_is_whole) [] := Binds.all fun us hl => match us, hl with | [_, _, _], _ => rfl
theorem bi_17 {K : PySem.W.Frag} {kV doc pm cd ct : Value} {an : Option Addr} : Binds K (PySem.W.fnOf "_law_sizes" "_law_sizes" (defArgs (sf .L_sizes)) (defBody (sf .L_sizes)) (defScope (sf .L_sizes)) .none kV doc pm an cd ct) (ps .L_sizes) [] := Binds.all fun us hl => match us, hl with | [_], _ => rfl
theorem bi_18 {K : PySem.W.Frag} {kV doc pm cd ct : Value} {an : Option Addr} : Binds K (PySem.W.fnOf "_law_is_plan" "_law_is_plan" (defArgs (sf .L_is_plan)) (defBody (sf .L_is_plan)) (defScope (sf .L_is_plan)) .none kV doc pm an cd ct) (ps .L_is_plan) [] := Binds.all fun us hl => match us, hl with | [_], _ => rfl
theorem bi_19 {K : PySem.W.Frag} {kV doc pm cd ct : Value} {an : Option Addr} : Binds K (PySem.W.fnOf "_law_odds" "_law_odds" (defArgs (sf .L_odds)) (defBody (sf .L_odds)) (defScope (sf .L_odds)) .none kV doc pm an cd ct) (ps .L_odds) [] := Binds.all fun us hl => match us, hl with | [], _ => rfl
theorem bi_20 {K : PySem.W.Frag} {kV doc pm cd ct : Value} {an : Option Addr} : Binds K (PySem.W.fnOf "_law_word" "_law_word" (defArgs (sf .L_word)) (defBody (sf .L_word)) (defScope (sf .L_word)) .none kV doc pm an cd ct) (ps .L_word) [] := Binds.all fun us hl => match us, hl with | [_], _ => rfl
theorem bi_21 {K : PySem.W.Frag} {kV doc pm cd ct : Value} {an : Option Addr} : Binds K (PySem.W.fnOf "_law_said" "_law_said" (defArgs (sf .L_said)) (defBody (sf .L_said)) (defScope (sf .L_said)) .none kV doc pm an cd ct) (ps .L_said) [] := Binds.all fun us hl => match us, hl with | [_], _ => rfl
theorem bi_22 {K : PySem.W.Frag} {kV doc pm cd ct : Value} {an : Option Addr} : Binds K (PySem.W.fnOf "_law_put" "_law_put" (defArgs (sf .L_put)) (defBody (sf .L_put)) (defScope (sf .L_put)) .none kV doc pm an cd ct) (ps .L_put) [] := Binds.all fun us hl => match us, hl with | [_, _], _ => rfl
theorem bi_23 {K : PySem.W.Frag} {kV doc pm cd ct : Value} {an : Option Addr} : Binds K (PySem.W.fnOf "_law_got" "_law_got" (defArgs (sf .L_got)) (defBody (sf .L_got)) (defScope (sf .L_got)) .none kV doc pm an cd ct) (ps .L_got) [] := Binds.all fun us hl => match us, hl with | [_, _], _ => rfl
theorem bi_24 {K : PySem.W.Frag} {kV doc pm cd ct : Value} {an : Option Addr} : Binds K (PySem.W.fnOf "law" "law" (defArgs (sf .law)) (defBody (sf .law)) (defScope (sf .law)) .none kV doc pm an cd ct) (ps .law) [] := Binds.all fun us hl => match us, hl with | [_], _ => rfl
theorem fu_mk {K : PySem.W.Frag} {fa : Fn → Addr} {fd : Fn → FuncData}
    (h0 : FunA K (nm .is_between) (qn .is_between) (sf .is_between) (fa .is_between) (fd .is_between))
    (h1 : FunA K (nm .is_formed) (qn .is_formed) (sf .is_formed) (fa .is_formed) (fd .is_formed))
    (h2 : FunA K (nm .is_split) (qn .is_split) (sf .is_split) (fa .is_split) (fd .is_split))
    (h3 : FunA K (nm .is_formed_part) (qn .is_formed_part) (sf .is_formed_part) (fa .is_formed_part) (fd .is_formed_part))
    (h4 : FunA K (nm .parts_of) (qn .parts_of) (sf .parts_of) (fa .parts_of) (fd .parts_of))
    (h5 : FunA K (nm .counts_of) (qn .counts_of) (sf .counts_of) (fa .counts_of) (fd .counts_of))
    (h6 : FunA K (nm .is_plan) (qn .is_plan) (sf .is_plan) (fa .is_plan) (fd .is_plan))
    (h7 : FunA K (nm .check_plan) (qn .check_plan) (sf .check_plan) (fa .check_plan) (fd .check_plan))
    (h8 : FunA K (nm .seq) (qn .seq) (sf .seq) (fa .seq) (fd .seq))
    (h9 : FunA K (nm .par) (qn .par) (sf .par) (fa .par) (fd .par))
    (h10 : FunA K (nm .L_cell) (qn .L_cell) (sf .L_cell) (fa .L_cell) (fd .L_cell))
    (h11 : FunA K (nm .L_source) (qn .L_source) (sf .L_source) (fa .L_source) (fd .L_source))
    (h12 : FunA K (nm .L_random) (qn .L_random) (sf .L_random) (fa .L_random) (fd .L_random))
    (h13 : FunA K (nm .L_choice) (qn .L_choice) (sf .L_choice) (fa .L_choice) (fd .L_choice))
    (h14 : FunA K (nm .L_parts) (qn .L_parts) (sf .L_parts) (fa .L_parts) (fd .L_parts))
    (h15 : FunA K (nm .L_plan) (qn .L_plan) (sf .L_plan) (fa .L_plan) (fd .L_plan))
    (h16 : FunA K (nm .L_is_whole) (qn .L_is_whole) (sf .L_is_whole) (fa .L_is_whole) (fd .L_is_whole))
    (h17 : FunA K (nm .L_sizes) (qn .L_sizes) (sf .L_sizes) (fa .L_sizes) (fd .L_sizes))
    (h18 : FunA K (nm .L_is_plan) (qn .L_is_plan) (sf .L_is_plan) (fa .L_is_plan) (fd .L_is_plan))
    (h19 : FunA K (nm .L_odds) (qn .L_odds) (sf .L_odds) (fa .L_odds) (fd .L_odds))
    (h20 : FunA K (nm .L_word) (qn .L_word) (sf .L_word) (fa .L_word) (fd .L_word))
    (h21 : FunA K (nm .L_said) (qn .L_said) (sf .L_said) (fa .L_said) (fd .L_said))
    (h22 : FunA K (nm .L_put) (qn .L_put) (sf .L_put) (fa .L_put) (fd .L_put))
    (h23 : FunA K (nm .L_got) (qn .L_got) (sf .L_got) (fa .L_got) (fd .L_got))
    (h24 : FunA K (nm .law) (qn .law) (sf .law) (fa .law) (fd .law))
    : ∀ f, FunA K (nm f) (qn f) (sf f) (fa f) (fd f)
  | .is_between => h0
  | .is_formed => h1
  | .is_split => h2
  | .is_formed_part => h3
  | .parts_of => h4
  | .counts_of => h5
  | .is_plan => h6
  | .check_plan => h7
  | .seq => h8
  | .par => h9
  | .L_cell => h10
  | .L_source => h11
  | .L_random => h12
  | .L_choice => h13
  | .L_parts => h14
  | .L_plan => h15
  | .L_is_whole => h16
  | .L_sizes => h17
  | .L_is_plan => h18
  | .L_odds => h19
  | .L_word => h20
  | .L_said => h21
  | .L_put => h22
  | .L_got => h23
  | .law => h24
theorem mgs_mk {mg : Str → Option Value} {fa : Fn → Addr}
    (h0 : mg (nm .is_between) = some (.ref (fa .is_between)))
    (h1 : mg (nm .is_formed) = some (.ref (fa .is_formed)))
    (h2 : mg (nm .is_split) = some (.ref (fa .is_split)))
    (h3 : mg (nm .is_formed_part) = some (.ref (fa .is_formed_part)))
    (h4 : mg (nm .parts_of) = some (.ref (fa .parts_of)))
    (h5 : mg (nm .counts_of) = some (.ref (fa .counts_of)))
    (h6 : mg (nm .is_plan) = some (.ref (fa .is_plan)))
    (h7 : mg (nm .check_plan) = some (.ref (fa .check_plan)))
    (h8 : mg (nm .seq) = some (.ref (fa .seq)))
    (h9 : mg (nm .par) = some (.ref (fa .par)))
    (h10 : mg (nm .L_cell) = some (.ref (fa .L_cell)))
    (h11 : mg (nm .L_source) = some (.ref (fa .L_source)))
    (h12 : mg (nm .L_random) = some (.ref (fa .L_random)))
    (h13 : mg (nm .L_choice) = some (.ref (fa .L_choice)))
    (h14 : mg (nm .L_parts) = some (.ref (fa .L_parts)))
    (h15 : mg (nm .L_plan) = some (.ref (fa .L_plan)))
    (h16 : mg (nm .L_is_whole) = some (.ref (fa .L_is_whole)))
    (h17 : mg (nm .L_sizes) = some (.ref (fa .L_sizes)))
    (h18 : mg (nm .L_is_plan) = some (.ref (fa .L_is_plan)))
    (h19 : mg (nm .L_odds) = some (.ref (fa .L_odds)))
    (h20 : mg (nm .L_word) = some (.ref (fa .L_word)))
    (h21 : mg (nm .L_said) = some (.ref (fa .L_said)))
    (h22 : mg (nm .L_put) = some (.ref (fa .L_put)))
    (h23 : mg (nm .L_got) = some (.ref (fa .L_got)))
    (h24 : mg (nm .law) = some (.ref (fa .law)))
    : ∀ f, isM f = false → mg (nm f) = some (.ref (fa f))
  | .is_between, e => h0
  | .is_formed, e => h1
  | .is_split, e => h2
  | .is_formed_part, e => h3
  | .parts_of, e => h4
  | .counts_of, e => h5
  | .is_plan, e => h6
  | .check_plan, e => h7
  | .seq, e => h8
  | .par, e => h9
  | .L_cell, e => h10
  | .L_source, e => h11
  | .L_random, e => h12
  | .L_choice, e => h13
  | .L_parts, e => h14
  | .L_plan, e => h15
  | .L_is_whole, e => h16
  | .L_sizes, e => h17
  | .L_is_plan, e => h18
  | .L_odds, e => h19
  | .L_word, e => h20
  | .L_said, e => h21
  | .L_put, e => h22
  | .L_got, e => h23
  | .law, e => h24
theorem bi_mk {K : PySem.W.Frag} {fd : Fn → FuncData}
    (h0 : Binds K (fd .is_between) (ps .is_between) [])
    (h1 : Binds K (fd .is_formed) (ps .is_formed) [])
    (h2 : Binds K (fd .is_split) (ps .is_split) [])
    (h3 : Binds K (fd .is_formed_part) (ps .is_formed_part) [])
    (h4 : Binds K (fd .parts_of) (ps .parts_of) [])
    (h5 : Binds K (fd .counts_of) (ps .counts_of) [])
    (h6 : Binds K (fd .is_plan) (ps .is_plan) [])
    (h7 : Binds K (fd .check_plan) (ps .check_plan) [])
    (h10 : Binds K (fd .L_cell) (ps .L_cell) [])
    (h11 : Binds K (fd .L_source) (ps .L_source) [])
    (h12 : Binds K (fd .L_random) (ps .L_random) [])
    (h13 : Binds K (fd .L_choice) (ps .L_choice) [])
    (h14 : Binds K (fd .L_parts) (ps .L_parts) [])
    (h15 : Binds K (fd .L_plan) (ps .L_plan) [])
    (h16 : Binds K (fd .L_is_whole) (ps .L_is_whole) [])
    (h17 : Binds K (fd .L_sizes) (ps .L_sizes) [])
    (h18 : Binds K (fd .L_is_plan) (ps .L_is_plan) [])
    (h19 : Binds K (fd .L_odds) (ps .L_odds) [])
    (h20 : Binds K (fd .L_word) (ps .L_word) [])
    (h21 : Binds K (fd .L_said) (ps .L_said) [])
    (h22 : Binds K (fd .L_put) (ps .L_put) [])
    (h23 : Binds K (fd .L_got) (ps .L_got) [])
    (h24 : Binds K (fd .law) (ps .law) [])
    : ∀ f, isSt f = false → Binds K (fd f) (ps f) []
  | .is_between, e => h0
  | .is_formed, e => h1
  | .is_split, e => h2
  | .is_formed_part, e => h3
  | .parts_of, e => h4
  | .counts_of, e => h5
  | .is_plan, e => h6
  | .check_plan, e => h7
  | .seq, e => nomatch e
  | .par, e => nomatch e
  | .L_cell, e => h10
  | .L_source, e => h11
  | .L_random, e => h12
  | .L_choice, e => h13
  | .L_parts, e => h14
  | .L_plan, e => h15
  | .L_is_whole, e => h16
  | .L_sizes, e => h17
  | .L_is_plan, e => h18
  | .L_odds, e => h19
  | .L_word, e => h20
  | .L_said, e => h21
  | .L_put, e => h22
  | .L_got, e => h23
  | .law, e => h24
theorem all_mk {l : PySem.W.OpenLaw} {w : World} {K : PySem.W.Frag} {h : Heap} {mg : Str → Option Value} {a : Addr} (X : K.In h) (G : h.Ns mainGlobals mg) (hfa : mg "law" = some (.ref a))
    {f0 f1 f2 f3 f4 f5 f6 f7 f8 f9 f10 f11 f12 f13 f14 f15 f16 f17 f18 f19 f20 f21 f22 f23 f24 : Addr} {od0 an0 od1 an1 od2 an2 od3 an3 od4 an4 od5 an5 od6 an6 od7 an7 od8 an8 od9 an9 od10 an10 od11 an11 od12 an12 od13 an13 od14 an14 od15 an15 od16 an16 od17 an17 od18 an18 od19 an19 od20 an20 od21 an21 od22 an22 od23 an23 od24 an24 : Option Addr} {sl0 sl1 sl2 sl3 sl4 sl5 sl6 sl7 sl8 sl9 sl10 sl11 sl12 sl13 sl14 sl15 sl16 sl17 sl18 sl19 sl20 sl21 sl22 sl23 sl24 : Array (Option Value)} {oc0 kV0 dc0 pm0 cd0 ct0 oc1 kV1 dc1 pm1 cd1 ct1 oc2 kV2 dc2 pm2 cd2 ct2 oc3 kV3 dc3 pm3 cd3 ct3 oc4 kV4 dc4 pm4 cd4 ct4 oc5 kV5 dc5 pm5 cd5 ct5 oc6 kV6 dc6 pm6 cd6 ct6 oc7 kV7 dc7 pm7 cd7 ct7 oc8 kV8 dc8 pm8 cd8 ct8 oc9 kV9 dc9 pm9 cd9 ct9 oc10 kV10 dc10 pm10 cd10 ct10 oc11 kV11 dc11 pm11 cd11 ct11 oc12 kV12 dc12 pm12 cd12 ct12 oc13 kV13 dc13 pm13 cd13 ct13 oc14 kV14 dc14 pm14 cd14 ct14 oc15 kV15 dc15 pm15 cd15 ct15 oc16 kV16 dc16 pm16 cd16 ct16 oc17 kV17 dc17 pm17 cd17 ct17 oc18 kV18 dc18 pm18 cd18 ct18 oc19 kV19 dc19 pm19 cd19 ct19 oc20 kV20 dc20 pm20 cd20 ct20 oc21 kV21 dc21 pm21 cd21 ct21 oc22 kV22 dc22 pm22 cd22 ct22 oc23 kV23 dc23 pm23 cd23 ct23 oc24 kV24 dc24 pm24 cd24 ct24 : Value}
    (a0 : PySem.W.nsIn K mainGlobals "is_between" = some (some (.ref f0))) (l0 : K.lookup f0 = some ⟨oc0, od0, .func (PySem.W.fnOf "is_between" "is_between" (defArgs (sf .is_between)) (defBody (sf .is_between)) (defScope (sf .is_between)) .none kV0 dc0 pm0 an0 cd0 ct0), sl0⟩) (c0 : PySem.W.codeIn K cd0 "is_between" = true) (k0 : PySem.W.keepIn K (.ref f0) = true)
    (a1 : PySem.W.nsIn K mainGlobals "is_formed" = some (some (.ref f1))) (l1 : K.lookup f1 = some ⟨oc1, od1, .func (PySem.W.fnOf "is_formed" "is_formed" (defArgs (sf .is_formed)) (defBody (sf .is_formed)) (defScope (sf .is_formed)) .none kV1 dc1 pm1 an1 cd1 ct1), sl1⟩) (c1 : PySem.W.codeIn K cd1 "is_formed" = true) (k1 : PySem.W.keepIn K (.ref f1) = true)
    (a2 : PySem.W.nsIn K mainGlobals "is_split" = some (some (.ref f2))) (l2 : K.lookup f2 = some ⟨oc2, od2, .func (PySem.W.fnOf "is_split" "is_split" (defArgs (sf .is_split)) (defBody (sf .is_split)) (defScope (sf .is_split)) .none kV2 dc2 pm2 an2 cd2 ct2), sl2⟩) (c2 : PySem.W.codeIn K cd2 "is_split" = true) (k2 : PySem.W.keepIn K (.ref f2) = true)
    (a3 : PySem.W.nsIn K mainGlobals "is_formed_part" = some (some (.ref f3))) (l3 : K.lookup f3 = some ⟨oc3, od3, .func (PySem.W.fnOf "is_formed_part" "is_formed_part" (defArgs (sf .is_formed_part)) (defBody (sf .is_formed_part)) (defScope (sf .is_formed_part)) .none kV3 dc3 pm3 an3 cd3 ct3), sl3⟩) (c3 : PySem.W.codeIn K cd3 "is_formed_part" = true) (k3 : PySem.W.keepIn K (.ref f3) = true)
    (a4 : PySem.W.nsIn K mainGlobals "parts_of" = some (some (.ref f4))) (l4 : K.lookup f4 = some ⟨oc4, od4, .func (PySem.W.fnOf "parts_of" "parts_of" (defArgs (sf .parts_of)) (defBody (sf .parts_of)) (defScope (sf .parts_of)) .none kV4 dc4 pm4 an4 cd4 ct4), sl4⟩) (c4 : PySem.W.codeIn K cd4 "parts_of" = true) (k4 : PySem.W.keepIn K (.ref f4) = true)
    (a5 : PySem.W.nsIn K mainGlobals "counts_of" = some (some (.ref f5))) (l5 : K.lookup f5 = some ⟨oc5, od5, .func (PySem.W.fnOf "counts_of" "counts_of" (defArgs (sf .counts_of)) (defBody (sf .counts_of)) (defScope (sf .counts_of)) .none kV5 dc5 pm5 an5 cd5 ct5), sl5⟩) (c5 : PySem.W.codeIn K cd5 "counts_of" = true) (k5 : PySem.W.keepIn K (.ref f5) = true)
    (a6 : PySem.W.nsIn K mainGlobals "is_plan" = some (some (.ref f6))) (l6 : K.lookup f6 = some ⟨oc6, od6, .func (PySem.W.fnOf "is_plan" "is_plan" (defArgs (sf .is_plan)) (defBody (sf .is_plan)) (defScope (sf .is_plan)) .none kV6 dc6 pm6 an6 cd6 ct6), sl6⟩) (c6 : PySem.W.codeIn K cd6 "is_plan" = true) (k6 : PySem.W.keepIn K (.ref f6) = true)
    (a7 : PySem.W.nsIn K mainGlobals "check_plan" = some (some (.ref f7))) (l7 : K.lookup f7 = some ⟨oc7, od7, .func (PySem.W.fnOf "check_plan" "check_plan" (defArgs (sf .check_plan)) (defBody (sf .check_plan)) (defScope (sf .check_plan)) .none kV7 dc7 pm7 an7 cd7 ct7), sl7⟩) (c7 : PySem.W.codeIn K cd7 "check_plan" = true) (k7 : PySem.W.keepIn K (.ref f7) = true)
    (a8 : PySem.W.nsIn K mainGlobals "seq" = some (some (.ref f8))) (l8 : K.lookup f8 = some ⟨oc8, od8, .func (PySem.W.fnOf "seq" "seq" (defArgs (sf .seq)) (defBody (sf .seq)) (defScope (sf .seq)) .none kV8 dc8 pm8 an8 cd8 ct8), sl8⟩) (c8 : PySem.W.codeIn K cd8 "seq" = true) (k8 : PySem.W.keepIn K (.ref f8) = true)
    (a9 : PySem.W.nsIn K mainGlobals "par" = some (some (.ref f9))) (l9 : K.lookup f9 = some ⟨oc9, od9, .func (PySem.W.fnOf "par" "par" (defArgs (sf .par)) (defBody (sf .par)) (defScope (sf .par)) .none kV9 dc9 pm9 an9 cd9 ct9), sl9⟩) (c9 : PySem.W.codeIn K cd9 "par" = true) (k9 : PySem.W.keepIn K (.ref f9) = true)
    (a10 : PySem.W.nsIn K mainGlobals "_law_cell" = some (some (.ref f10))) (l10 : K.lookup f10 = some ⟨oc10, od10, .func (PySem.W.fnOf "_law_cell" "_law_cell" (defArgs (sf .L_cell)) (defBody (sf .L_cell)) (defScope (sf .L_cell)) .none kV10 dc10 pm10 an10 cd10 ct10), sl10⟩) (c10 : PySem.W.codeIn K cd10 "_law_cell" = true) (k10 : PySem.W.keepIn K (.ref f10) = true)
    (a11 : PySem.W.nsIn K mainGlobals "_law_source" = some (some (.ref f11))) (l11 : K.lookup f11 = some ⟨oc11, od11, .func (PySem.W.fnOf "_law_source" "_law_source" (defArgs (sf .L_source)) (defBody (sf .L_source)) (defScope (sf .L_source)) .none kV11 dc11 pm11 an11 cd11 ct11), sl11⟩) (c11 : PySem.W.codeIn K cd11 "_law_source" = true) (k11 : PySem.W.keepIn K (.ref f11) = true)
    (a12 : PySem.W.nsIn K mainGlobals "_law_random" = some (some (.ref f12))) (l12 : K.lookup f12 = some ⟨oc12, od12, .func (PySem.W.fnOf "_law_random" "_law_random" (defArgs (sf .L_random)) (defBody (sf .L_random)) (defScope (sf .L_random)) .none kV12 dc12 pm12 an12 cd12 ct12), sl12⟩) (c12 : PySem.W.codeIn K cd12 "_law_random" = true) (k12 : PySem.W.keepIn K (.ref f12) = true)
    (a13 : PySem.W.nsIn K mainGlobals "_law_choice" = some (some (.ref f13))) (l13 : K.lookup f13 = some ⟨oc13, od13, .func (PySem.W.fnOf "_law_choice" "_law_choice" (defArgs (sf .L_choice)) (defBody (sf .L_choice)) (defScope (sf .L_choice)) .none kV13 dc13 pm13 an13 cd13 ct13), sl13⟩) (c13 : PySem.W.codeIn K cd13 "_law_choice" = true) (k13 : PySem.W.keepIn K (.ref f13) = true)
    (a14 : PySem.W.nsIn K mainGlobals "_law_parts" = some (some (.ref f14))) (l14 : K.lookup f14 = some ⟨oc14, od14, .func (PySem.W.fnOf "_law_parts" "_law_parts" (defArgs (sf .L_parts)) (defBody (sf .L_parts)) (defScope (sf .L_parts)) .none kV14 dc14 pm14 an14 cd14 ct14), sl14⟩) (c14 : PySem.W.codeIn K cd14 "_law_parts" = true) (k14 : PySem.W.keepIn K (.ref f14) = true)
    (a15 : PySem.W.nsIn K mainGlobals "_law_plan" = some (some (.ref f15))) (l15 : K.lookup f15 = some ⟨oc15, od15, .func (PySem.W.fnOf "_law_plan" "_law_plan" (defArgs (sf .L_plan)) (defBody (sf .L_plan)) (defScope (sf .L_plan)) .none kV15 dc15 pm15 an15 cd15 ct15), sl15⟩) (c15 : PySem.W.codeIn K cd15 "_law_plan" = true) (k15 : PySem.W.keepIn K (.ref f15) = true)
    (a16 : PySem.W.nsIn K mainGlobals "_law_is_whole" = some (some (.ref f16))) (l16 : K.lookup f16 = some ⟨oc16, od16, .func (PySem.W.fnOf "_law_is_whole" "_law_is_whole" (defArgs (sf .L_is_whole)) (defBody (sf .L_is_whole)) (defScope (sf .L_is_whole)) .none kV16 dc16 pm16 an16 cd16 ct16), sl16⟩) (c16 : PySem.W.codeIn K cd16 "_law_is_whole" = true) (k16 : PySem.W.keepIn K (.ref f16) = true)
    (a17 : PySem.W.nsIn K mainGlobals "_law_sizes" = some (some (.ref f17))) (l17 : K.lookup f17 = some ⟨oc17, od17, .func (PySem.W.fnOf "_law_sizes" "_law_sizes" (defArgs (sf .L_sizes)) (defBody (sf .L_sizes)) (defScope (sf .L_sizes)) .none kV17 dc17 pm17 an17 cd17 ct17), sl17⟩) (c17 : PySem.W.codeIn K cd17 "_law_sizes" = true) (k17 : PySem.W.keepIn K (.ref f17) = true)
    (a18 : PySem.W.nsIn K mainGlobals "_law_is_plan" = some (some (.ref f18))) (l18 : K.lookup f18 = some ⟨oc18, od18, .func (PySem.W.fnOf "_law_is_plan" "_law_is_plan" (defArgs (sf .L_is_plan)) (defBody (sf .L_is_plan)) (defScope (sf .L_is_plan)) .none kV18 dc18 pm18 an18 cd18 ct18), sl18⟩) (c18 : PySem.W.codeIn K cd18 "_law_is_plan" = true) (k18 : PySem.W.keepIn K (.ref f18) = true)
    (a19 : PySem.W.nsIn K mainGlobals "_law_odds" = some (some (.ref f19))) (l19 : K.lookup f19 = some ⟨oc19, od19, .func (PySem.W.fnOf "_law_odds" "_law_odds" (defArgs (sf .L_odds)) (defBody (sf .L_odds)) (defScope (sf .L_odds)) .none kV19 dc19 pm19 an19 cd19 ct19), sl19⟩) (c19 : PySem.W.codeIn K cd19 "_law_odds" = true) (k19 : PySem.W.keepIn K (.ref f19) = true)
    (a20 : PySem.W.nsIn K mainGlobals "_law_word" = some (some (.ref f20))) (l20 : K.lookup f20 = some ⟨oc20, od20, .func (PySem.W.fnOf "_law_word" "_law_word" (defArgs (sf .L_word)) (defBody (sf .L_word)) (defScope (sf .L_word)) .none kV20 dc20 pm20 an20 cd20 ct20), sl20⟩) (c20 : PySem.W.codeIn K cd20 "_law_word" = true) (k20 : PySem.W.keepIn K (.ref f20) = true)
    (a21 : PySem.W.nsIn K mainGlobals "_law_said" = some (some (.ref f21))) (l21 : K.lookup f21 = some ⟨oc21, od21, .func (PySem.W.fnOf "_law_said" "_law_said" (defArgs (sf .L_said)) (defBody (sf .L_said)) (defScope (sf .L_said)) .none kV21 dc21 pm21 an21 cd21 ct21), sl21⟩) (c21 : PySem.W.codeIn K cd21 "_law_said" = true) (k21 : PySem.W.keepIn K (.ref f21) = true)
    (a22 : PySem.W.nsIn K mainGlobals "_law_put" = some (some (.ref f22))) (l22 : K.lookup f22 = some ⟨oc22, od22, .func (PySem.W.fnOf "_law_put" "_law_put" (defArgs (sf .L_put)) (defBody (sf .L_put)) (defScope (sf .L_put)) .none kV22 dc22 pm22 an22 cd22 ct22), sl22⟩) (c22 : PySem.W.codeIn K cd22 "_law_put" = true) (k22 : PySem.W.keepIn K (.ref f22) = true)
    (a23 : PySem.W.nsIn K mainGlobals "_law_got" = some (some (.ref f23))) (l23 : K.lookup f23 = some ⟨oc23, od23, .func (PySem.W.fnOf "_law_got" "_law_got" (defArgs (sf .L_got)) (defBody (sf .L_got)) (defScope (sf .L_got)) .none kV23 dc23 pm23 an23 cd23 ct23), sl23⟩) (c23 : PySem.W.codeIn K cd23 "_law_got" = true) (k23 : PySem.W.keepIn K (.ref f23) = true)
    (a24 : PySem.W.nsIn K mainGlobals "law" = some (some (.ref f24))) (l24 : K.lookup f24 = some ⟨oc24, od24, .func (PySem.W.fnOf "law" "law" (defArgs (sf .law)) (defBody (sf .law)) (defScope (sf .law)) .none kV24 dc24 pm24 an24 cd24 ct24), sl24⟩) (c24 : PySem.W.codeIn K cd24 "law" = true) (k24 : PySem.W.keepIn K (.ref f24) = true)
    (hcl : PySem.W.specialIn K (.builtin "object.__class__") "__get__" = some (some (.builtin "getset_descriptor.__get__"))) (htk : PySem.W.takesIn K (.builtin "object.__class__") = some true)
    {X101 : Addr} (aX101 : PySem.W.nsIn K mainGlobals "InvalidPlan" = some (some (.ref X101))) (xb101 : PySem.W.subIn K (.ref X101) (.type "BaseException") = some true) (xt101 : PySem.W.typeIn K (.ref X101) = some (.type "type")) (xd101 : PySem.W.hasDictIn K X101 = true)
    {X102 : Addr} (aX102 : PySem.W.nsIn K mainGlobals "InvalidOperation" = some (some (.ref X102))) (xb102 : PySem.W.subIn K (.ref X102) (.type "BaseException") = some true) (xt102 : PySem.W.typeIn K (.ref X102) = some (.type "type")) (xd102 : PySem.W.hasDictIn K X102 = true)
    {X103 : Addr} (aX103 : PySem.W.nsIn K mainGlobals "InvalidRecord" = some (some (.ref X103))) (xb103 : PySem.W.subIn K (.ref X103) (.type "BaseException") = some true) (xt103 : PySem.W.typeIn K (.ref X103) = some (.type "type")) (xd103 : PySem.W.hasDictIn K X103 = true)
    {X104 : Addr} (aX104 : PySem.W.nsIn K mainGlobals "TooComplex" = some (some (.ref X104))) (xb104 : PySem.W.subIn K (.ref X104) (.type "BaseException") = some true) (xt104 : PySem.W.typeIn K (.ref X104) = some (.type "type")) (xd104 : PySem.W.hasDictIn K X104 = true)
    {X105 : Addr} (aX105 : PySem.W.nsIn K mainGlobals "InvalidText" = some (some (.ref X105))) (xb105 : PySem.W.subIn K (.ref X105) (.type "BaseException") = some true) (xt105 : PySem.W.typeIn K (.ref X105) = some (.type "type")) (xd105 : PySem.W.hasDictIn K X105 = true)
    {X100 : Addr} (aX100 : PySem.W.nsIn K mainGlobals "ForklotsError" = some (some (.ref X100))) (xb100 : PySem.W.subIn K (.ref X100) (.type "BaseException") = some true) (xt100 : PySem.W.typeIn K (.ref X100) = some (.type "type")) (xd100 : PySem.W.hasDictIn K X100 = true)
    (xq101 : PySem.W.excIn K X101 excTail "Exception.__new__" = true) (xk101 : PySem.W.keepIn K (.ref X101) = true) (xg101 : PySem.W.findIn K (.ref X101) "__getattribute__" = some (some (.builtin "BaseException.__getattribute__"))) (xa101 : PySem.W.findIn K (.ref X101) "__getattr__" = some none)
    (xc101 : PySem.W.findIn K (.ref X101) "__class__" = some (some (.builtin "object.__class__"))) (xm101 : PySem.W.mroIn K X101 (.type "object") = some true) (xs101 : PySem.W.subIn K (.ref X101) (.ref X100) = some true)
    (kk101_101 : PySem.W.kitOne K (.ref X101) (.ref X101) = some true)
    (kk101_102 : PySem.W.kitOne K (.ref X101) (.ref X102) = some false)
    (kk101_103 : PySem.W.kitOne K (.ref X101) (.ref X103) = some false)
    (kk101_104 : PySem.W.kitOne K (.ref X101) (.ref X104) = some false)
    (kk101_105 : PySem.W.kitOne K (.ref X101) (.ref X105) = some false)
    {q23 t23 : Addr} {qe23 : Value} {qd23 : Option Addr} {qu23 : Array Value} {qs23 : Array (Option Value)} (qc23 : cd23 = .ref q23) (ql23 : K.lookup q23 = some ⟨qe23, qd23, .fields qu23, qs23⟩) (qt23 : qu23[11]? = some (.ref t23)) (qh23 : PySem.W.codeHdIn K q23 t23 = true) (qn23 : K.lookup t23 = none)
    (qnd : [t23].Nodup)
    (z_int : PySem.W.nsIn K mainGlobals "int" = some none)
    (z_isinstance : PySem.W.nsIn K mainGlobals "isinstance" = some none)
    (z_bool : PySem.W.nsIn K mainGlobals "bool" = some none)
    (z_tuple : PySem.W.nsIn K mainGlobals "tuple" = some none)
    (z_len : PySem.W.nsIn K mainGlobals "len" = some none)
    (z_str : PySem.W.nsIn K mainGlobals "str" = some none)
    (z_all : PySem.W.nsIn K mainGlobals "all" = some none)
    (z_zip : PySem.W.nsIn K mainGlobals "zip" = some none)
    (z_max : PySem.W.nsIn K mainGlobals "max" = some none)
    (z_range : PySem.W.nsIn K mainGlobals "range" = some none)
    (z_min : PySem.W.nsIn K mainGlobals "min" = some none)
    (z_repr : PySem.W.nsIn K mainGlobals "repr" = some none)
    {tkMAX_USE1 : Tok}
    (gMAX_USE : PySem.W.nsIn K mainGlobals "MAX_USE" = some (some (.int 9 tkMAX_USE1)))
    {tkMAX_PARTS1 : Tok}
    (gMAX_PARTS : PySem.W.nsIn K mainGlobals "MAX_PARTS" = some (some (.int 12 tkMAX_PARTS1)))
    {tkMAX_NAME1 : Tok}
    (gMAX_NAME : PySem.W.nsIn K mainGlobals "MAX_NAME" = some (some (.int 9 tkMAX_NAME1)))
    {tkMAX_DEPTH1 : Tok}
    (gMAX_DEPTH : PySem.W.nsIn K mainGlobals "MAX_DEPTH" = some (some (.int 10 tkMAX_DEPTH1)))
    {tkMAX_OPERATIONS1 : Tok}
    (gMAX_OPERATIONS : PySem.W.nsIn K mainGlobals "MAX_OPERATIONS" = some (some (.int 24 tkMAX_OPERATIONS1)))
    {tkMAX_RETRIES1 : Tok}
    (gMAX_RETRIES : PySem.W.nsIn K mainGlobals "MAX_RETRIES" = some (some (.int 8 tkMAX_RETRIES1)))
    {tkMAX_TUPLES1 : Tok}
    (gMAX_TUPLES : PySem.W.nsIn K mainGlobals "MAX_TUPLES" = some (some (.int 60 tkMAX_TUPLES1)))
    (own : ∀ y ∈ lamNames, TabOf K mg h y) : ∃ (ad : Ad) (fd : FuncData) (cs : List (Addr × Addr)), (∀ p ∈ cs, h.get? p.2 = some noCode) ∧ (∀ p ∈ cs, K.lookup p.2 = none) ∧ (∀ p ∈ cs, PySem.W.CodeHd h p.1 p.2) ∧ ad.hid = [] ∧ (∀ q ∈ ad.tabs, ∃ p ∈ cs, p.2 = q.1) ∧ (∀ (s : Shared) (u : Value), BindsTo s fd ⟨[u], []⟩ [("_law_script", u)]) ∧ ∀ base : Heap, K.In base → base.Ns mainGlobals mg → (∃ o, base.get? sysModules = some o) → (∀ p ∈ cs, LamX.TabB base mg p.1 p.2) → GnOk l.prog w K mg base (6 * 38) a fd ["_law_script"] (spF K ad 1 (callF 38 .law)) := by
  have e := hfa.symm.trans (PySem.W.mg_of X G a24)
  cases e
  let fa : Fn → Addr := fun f => match f with
    | .is_between => f0
    | .is_formed => f1
    | .is_split => f2
    | .is_formed_part => f3
    | .parts_of => f4
    | .counts_of => f5
    | .is_plan => f6
    | .check_plan => f7
    | .seq => f8
    | .par => f9
    | .L_cell => f10
    | .L_source => f11
    | .L_random => f12
    | .L_choice => f13
    | .L_parts => f14
    | .L_plan => f15
    | .L_is_whole => f16
    | .L_sizes => f17
    | .L_is_plan => f18
    | .L_odds => f19
    | .L_word => f20
    | .L_said => f21
    | .L_put => f22
    | .L_got => f23
    | .law => a
  let fd : Fn → FuncData := fun f => match f with
    | .is_between => PySem.W.fnOf "is_between" "is_between" (defArgs (sf .is_between)) (defBody (sf .is_between)) (defScope (sf .is_between)) .none kV0 dc0 pm0 an0 cd0 ct0
    | .is_formed => PySem.W.fnOf "is_formed" "is_formed" (defArgs (sf .is_formed)) (defBody (sf .is_formed)) (defScope (sf .is_formed)) .none kV1 dc1 pm1 an1 cd1 ct1
    | .is_split => PySem.W.fnOf "is_split" "is_split" (defArgs (sf .is_split)) (defBody (sf .is_split)) (defScope (sf .is_split)) .none kV2 dc2 pm2 an2 cd2 ct2
    | .is_formed_part => PySem.W.fnOf "is_formed_part" "is_formed_part" (defArgs (sf .is_formed_part)) (defBody (sf .is_formed_part)) (defScope (sf .is_formed_part)) .none kV3 dc3 pm3 an3 cd3 ct3
    | .parts_of => PySem.W.fnOf "parts_of" "parts_of" (defArgs (sf .parts_of)) (defBody (sf .parts_of)) (defScope (sf .parts_of)) .none kV4 dc4 pm4 an4 cd4 ct4
    | .counts_of => PySem.W.fnOf "counts_of" "counts_of" (defArgs (sf .counts_of)) (defBody (sf .counts_of)) (defScope (sf .counts_of)) .none kV5 dc5 pm5 an5 cd5 ct5
    | .is_plan => PySem.W.fnOf "is_plan" "is_plan" (defArgs (sf .is_plan)) (defBody (sf .is_plan)) (defScope (sf .is_plan)) .none kV6 dc6 pm6 an6 cd6 ct6
    | .check_plan => PySem.W.fnOf "check_plan" "check_plan" (defArgs (sf .check_plan)) (defBody (sf .check_plan)) (defScope (sf .check_plan)) .none kV7 dc7 pm7 an7 cd7 ct7
    | .seq => PySem.W.fnOf "seq" "seq" (defArgs (sf .seq)) (defBody (sf .seq)) (defScope (sf .seq)) .none kV8 dc8 pm8 an8 cd8 ct8
    | .par => PySem.W.fnOf "par" "par" (defArgs (sf .par)) (defBody (sf .par)) (defScope (sf .par)) .none kV9 dc9 pm9 an9 cd9 ct9
    | .L_cell => PySem.W.fnOf "_law_cell" "_law_cell" (defArgs (sf .L_cell)) (defBody (sf .L_cell)) (defScope (sf .L_cell)) .none kV10 dc10 pm10 an10 cd10 ct10
    | .L_source => PySem.W.fnOf "_law_source" "_law_source" (defArgs (sf .L_source)) (defBody (sf .L_source)) (defScope (sf .L_source)) .none kV11 dc11 pm11 an11 cd11 ct11
    | .L_random => PySem.W.fnOf "_law_random" "_law_random" (defArgs (sf .L_random)) (defBody (sf .L_random)) (defScope (sf .L_random)) .none kV12 dc12 pm12 an12 cd12 ct12
    | .L_choice => PySem.W.fnOf "_law_choice" "_law_choice" (defArgs (sf .L_choice)) (defBody (sf .L_choice)) (defScope (sf .L_choice)) .none kV13 dc13 pm13 an13 cd13 ct13
    | .L_parts => PySem.W.fnOf "_law_parts" "_law_parts" (defArgs (sf .L_parts)) (defBody (sf .L_parts)) (defScope (sf .L_parts)) .none kV14 dc14 pm14 an14 cd14 ct14
    | .L_plan => PySem.W.fnOf "_law_plan" "_law_plan" (defArgs (sf .L_plan)) (defBody (sf .L_plan)) (defScope (sf .L_plan)) .none kV15 dc15 pm15 an15 cd15 ct15
    | .L_is_whole => PySem.W.fnOf "_law_is_whole" "_law_is_whole" (defArgs (sf .L_is_whole)) (defBody (sf .L_is_whole)) (defScope (sf .L_is_whole)) .none kV16 dc16 pm16 an16 cd16 ct16
    | .L_sizes => PySem.W.fnOf "_law_sizes" "_law_sizes" (defArgs (sf .L_sizes)) (defBody (sf .L_sizes)) (defScope (sf .L_sizes)) .none kV17 dc17 pm17 an17 cd17 ct17
    | .L_is_plan => PySem.W.fnOf "_law_is_plan" "_law_is_plan" (defArgs (sf .L_is_plan)) (defBody (sf .L_is_plan)) (defScope (sf .L_is_plan)) .none kV18 dc18 pm18 an18 cd18 ct18
    | .L_odds => PySem.W.fnOf "_law_odds" "_law_odds" (defArgs (sf .L_odds)) (defBody (sf .L_odds)) (defScope (sf .L_odds)) .none kV19 dc19 pm19 an19 cd19 ct19
    | .L_word => PySem.W.fnOf "_law_word" "_law_word" (defArgs (sf .L_word)) (defBody (sf .L_word)) (defScope (sf .L_word)) .none kV20 dc20 pm20 an20 cd20 ct20
    | .L_said => PySem.W.fnOf "_law_said" "_law_said" (defArgs (sf .L_said)) (defBody (sf .L_said)) (defScope (sf .L_said)) .none kV21 dc21 pm21 an21 cd21 ct21
    | .L_put => PySem.W.fnOf "_law_put" "_law_put" (defArgs (sf .L_put)) (defBody (sf .L_put)) (defScope (sf .L_put)) .none kV22 dc22 pm22 an22 cd22 ct22
    | .L_got => PySem.W.fnOf "_law_got" "_law_got" (defArgs (sf .L_got)) (defBody (sf .L_got)) (defScope (sf .L_got)) .none kV23 dc23 pm23 an23 cd23 ct23
    | .law => PySem.W.fnOf "law" "law" (defArgs (sf .law)) (defBody (sf .law)) (defScope (sf .law)) .none kV24 dc24 pm24 an24 cd24 ct24
  let ad : Ad := ⟨fun n => if n = 101 then X101 else if n = 102 then X102 else if n = 103 then X103 else if n = 104 then X104 else if n = 105 then X105 else if n = 100 then X100 else if n = 200 then f8 else if n = 201 then f9 else 0, [], [(t23, lamQ (qn .L_got))]⟩
  have T : Tx K mg ad fa fd := by
    exact ⟨fu_mk (funA_mk (st := sf .is_between) l0 c0 k0) (funA_mk (st := sf .is_formed) l1 c1 k1) (funA_mk (st := sf .is_split) l2 c2 k2) (funA_mk (st := sf .is_formed_part) l3 c3 k3) (funA_mk (st := sf .parts_of) l4 c4 k4) (funA_mk (st := sf .counts_of) l5 c5 k5) (funA_mk (st := sf .is_plan) l6 c6 k6) (funA_mk (st := sf .check_plan) l7 c7 k7) (funA_mk (st := sf .seq) l8 c8 k8) (funA_mk (st := sf .par) l9 c9 k9) (funA_mk (st := sf .L_cell) l10 c10 k10) (funA_mk (st := sf .L_source) l11 c11 k11) (funA_mk (st := sf .L_random) l12 c12 k12) (funA_mk (st := sf .L_choice) l13 c13 k13) (funA_mk (st := sf .L_parts) l14 c14 k14) (funA_mk (st := sf .L_plan) l15 c15 k15) (funA_mk (st := sf .L_is_whole) l16 c16 k16) (funA_mk (st := sf .L_sizes) l17 c17 k17) (funA_mk (st := sf .L_is_plan) l18 c18 k18) (funA_mk (st := sf .L_odds) l19 c19 k19) (funA_mk (st := sf .L_word) l20 c20 k20) (funA_mk (st := sf .L_said) l21 c21 k21) (funA_mk (st := sf .L_put) l22 c22 k22) (funA_mk (st := sf .L_got) l23 c23 k23) (funA_mk (st := sf .law) l24 c24 k24),
      mgs_mk (PySem.W.mg_of X G a0) (PySem.W.mg_of X G a1) (PySem.W.mg_of X G a2) (PySem.W.mg_of X G a3) (PySem.W.mg_of X G a4) (PySem.W.mg_of X G a5) (PySem.W.mg_of X G a6) (PySem.W.mg_of X G a7) (PySem.W.mg_of X G a8) (PySem.W.mg_of X G a9) (PySem.W.mg_of X G a10) (PySem.W.mg_of X G a11) (PySem.W.mg_of X G a12) (PySem.W.mg_of X G a13) (PySem.W.mg_of X G a14) (PySem.W.mg_of X G a15) (PySem.W.mg_of X G a16) (PySem.W.mg_of X G a17) (PySem.W.mg_of X G a18) (PySem.W.mg_of X G a19) (PySem.W.mg_of X G a20) (PySem.W.mg_of X G a21) (PySem.W.mg_of X G a22) (PySem.W.mg_of X G a23) (PySem.W.mg_of X G a24),
      bi_mk bi_0 bi_1 bi_2 bi_3 bi_4 bi_5 bi_6 bi_7 bi_10 bi_11 bi_12 bi_13 bi_14 bi_15 bi_16 bi_17 bi_18 bi_19 bi_20 bi_21 bi_22 bi_23 bi_24, fun us rest hl => match us, rest, hl with | [], [], _ => rfl | [], _ :: _, _ => rfl, fun us rest hl => match us, rest, hl with | [], [], _ => rfl | [], _ :: _, _ => rfl, rfl, rfl, PySem.W.mg_none_of X G z_int, PySem.W.mg_none_of X G z_isinstance, PySem.W.mg_none_of X G z_bool, PySem.W.mg_none_of X G z_tuple, PySem.W.mg_none_of X G z_len, PySem.W.mg_none_of X G z_str, PySem.W.mg_none_of X G z_all, PySem.W.mg_none_of X G z_zip, PySem.W.mg_none_of X G z_max, PySem.W.mg_none_of X G z_range, PySem.W.mg_none_of X G z_min, PySem.W.mg_none_of X G z_repr, PySem.W.mg_of X G aX101, PySem.W.mg_of X G aX102, PySem.W.mg_of X G aX103, PySem.W.mg_of X G aX104, PySem.W.mg_of X G aX105, PySem.W.mg_of X G aX100, ⟨xq101, PySem.W.mg_of X G aX101, xk101, xb101, xt101⟩, fun p hm => by simp only [wordL, List.mem_cons, List.not_mem_nil, or_false] at hm; rcases hm with rfl <;> first | exact ⟨xg101, xa101, xb101, xd101, xc101, hcl, htk, xm101⟩, fun p hm i hi => by simp only [wordL, wordIs, List.mem_cons, List.not_mem_nil, or_false] at hm hi; rcases hm with rfl <;> rcases hi with rfl | rfl | rfl | rfl | rfl <;> assumption, fun p hm => by simp only [wordL, List.mem_cons, List.not_mem_nil, or_false] at hm; rcases hm with rfl <;> first | exact PySem.W.exm_ref xb100 xd100 xt100 xs101, ⟨_, PySem.W.mg_of X G gMAX_USE, (.int _ _)⟩, ⟨_, PySem.W.mg_of X G gMAX_PARTS, (.int _ _)⟩, ⟨_, PySem.W.mg_of X G gMAX_NAME, (.int _ _)⟩, ⟨_, PySem.W.mg_of X G gMAX_DEPTH, (.int _ _)⟩, ⟨_, PySem.W.mg_of X G gMAX_OPERATIONS, (.int _ _)⟩, ⟨_, PySem.W.mg_of X G gMAX_RETRIES, (.int _ _)⟩, ⟨_, PySem.W.mg_of X G gMAX_TUPLES, (.int _ _)⟩⟩
  refine ⟨ad, fd .law, [(q23, t23)], ?_, ?_, ?_, rfl, ?_, fun s v => .of_eq rfl, fun base _ _ hsm TB => (all_ok T hsm ⟨⟨q23, t23, qc23, TB (q23, t23) (by simp), (by simp [ad]), tabs_one (l := ad.tabs) (p := (t23, lamQ (qn .L_got))) (by simpa [ad] using qnd) (by simp [ad])⟩⟩ 38).1 .law⟩
  · intro p hp; simp only [List.mem_cons, List.not_mem_nil, or_false] at hp; rcases hp with rfl
    · exact own "_law_got" (by simp [lamNames]) f23 q23 t23 _ _ _ _ _ _ (PySem.W.mg_of X G a23) l23 rfl qc23 ql23 qt23
  · intro p hp; simp only [List.mem_cons, List.not_mem_nil, or_false] at hp; rcases hp with rfl <;> assumption
  · intro p hp; simp only [List.mem_cons, List.not_mem_nil, or_false] at hp; rcases hp with rfl
    · exact PySem.W.codeHd_of_K X qh23
  · intro q hq; simp only [ad, List.mem_cons, List.not_mem_nil, or_false] at hq; rcases hq with rfl
    · exact ⟨(q23, t23), by simp, rfl⟩
end Ga
open PySem PySem.W PyProof.Rows in
set_option maxRecDepth 100000 in
set_option maxHeartbeats 0 in
theorem PySem.Challenge.cw_forklots_k02_seq_and_par_holds : PySem.Challenge.rw_forklots_k02_seq_and_par.Holds := by
  w_on; o_law; k_head; (case hw => w_witness2)
  k_fill
  refine Mi.walkT (l := PySem.Challenge.rw_forklots_k02_seq_and_par) (F := Ga.callF 38 .law) (k := 6 * 38) (x := "_law_script") (L := Ga.lamNames) rfl (by decide) rfl ⟨rfl, by decide, by decide⟩ (by decide +kernel) (by decide +kernel) (fun w h Y => PySem.W.km_in_of Y) Ga.law_true ?F
  case F =>
    intro w mg fa h KX G hmg own
    refine' Ga.all_mk KX G hmg ?a0 ?l0 ?c0 ?k0 ?a1 ?l1 ?c1 ?k1 ?a2 ?l2 ?c2 ?k2 ?a3 ?l3 ?c3 ?k3 ?a4 ?l4 ?c4 ?k4 ?a5 ?l5 ?c5 ?k5 ?a6 ?l6 ?c6 ?k6 ?a7 ?l7 ?c7 ?k7 ?a8 ?l8 ?c8 ?k8 ?a9 ?l9 ?c9 ?k9 ?a10 ?l10 ?c10 ?k10 ?a11 ?l11 ?c11 ?k11 ?a12 ?l12 ?c12 ?k12 ?a13 ?l13 ?c13 ?k13 ?a14 ?l14 ?c14 ?k14 ?a15 ?l15 ?c15 ?k15 ?a16 ?l16 ?c16 ?k16 ?a17 ?l17 ?c17 ?k17 ?a18 ?l18 ?c18 ?k18 ?a19 ?l19 ?c19 ?k19 ?a20 ?l20 ?c20 ?k20 ?a21 ?l21 ?c21 ?k21 ?a22 ?l22 ?c22 ?k22 ?a23 ?l23 ?c23 ?k23 ?a24 ?l24 ?c24 ?k24 ?hcl ?htk ?aX101 ?xb101 ?xt101 ?xd101 ?aX102 ?xb102 ?xt102 ?xd102 ?aX103 ?xb103 ?xt103 ?xd103 ?aX104 ?xb104 ?xt104 ?xd104 ?aX105 ?xb105 ?xt105 ?xd105 ?aX100 ?xb100 ?xt100 ?xd100 ?xq101 ?xk101 ?xg101 ?xa101 ?xc101 ?xm101 ?xs101 ?kk101_101 ?kk101_102 ?kk101_103 ?kk101_104 ?kk101_105 ?qc23 ?ql23 ?qt23 ?qh23 ?qn23 ?qnd ?z_int ?z_isinstance ?z_bool ?z_tuple ?z_len ?z_str ?z_all ?z_zip ?z_max ?z_range ?z_min ?z_repr ?gMAX_USE ?gMAX_PARTS ?gMAX_NAME ?gMAX_DEPTH ?gMAX_OPERATIONS ?gMAX_RETRIES ?gMAX_TUPLES own
    (case a0 => first | k_is | kit_is | k_exc | rfl | kernel_rfl | decide)
    (case l0 => first | k_is | kit_is | k_exc | rfl | kernel_rfl | decide)
    (case c0 => first | k_is | kit_is | k_exc | rfl | kernel_rfl | decide)
    (case k0 => first | k_is | kit_is | k_exc | rfl | kernel_rfl | decide)
    (case a1 => first | k_is | kit_is | k_exc | rfl | kernel_rfl | decide)
    (case l1 => first | k_is | kit_is | k_exc | rfl | kernel_rfl | decide)
    (case c1 => first | k_is | kit_is | k_exc | rfl | kernel_rfl | decide)
    (case k1 => first | k_is | kit_is | k_exc | rfl | kernel_rfl | decide)
    (case a2 => first | k_is | kit_is | k_exc | rfl | kernel_rfl | decide)
    (case l2 => first | k_is | kit_is | k_exc | rfl | kernel_rfl | decide)
    (case c2 => first | k_is | kit_is | k_exc | rfl | kernel_rfl | decide)
    (case k2 => first | k_is | kit_is | k_exc | rfl | kernel_rfl | decide)
    (case a3 => first | k_is | kit_is | k_exc | rfl | kernel_rfl | decide)
    (case l3 => first | k_is | kit_is | k_exc | rfl | kernel_rfl | decide)
    (case c3 => first | k_is | kit_is | k_exc | rfl | kernel_rfl | decide)
    (case k3 => first | k_is | kit_is | k_exc | rfl | kernel_rfl | decide)
    (case a4 => first | k_is | kit_is | k_exc | rfl | kernel_rfl | decide)
    (case l4 => first | k_is | kit_is | k_exc | rfl | kernel_rfl | decide)
    (case c4 => first | k_is | kit_is | k_exc | rfl | kernel_rfl | decide)
    (case k4 => first | k_is | kit_is | k_exc | rfl | kernel_rfl | decide)
    (case a5 => first | k_is | kit_is | k_exc | rfl | kernel_rfl | decide)
    (case l5 => first | k_is | kit_is | k_exc | rfl | kernel_rfl | decide)
    (case c5 => first | k_is | kit_is | k_exc | rfl | kernel_rfl | decide)
    (case k5 => first | k_is | kit_is | k_exc | rfl | kernel_rfl | decide)
    (case a6 => first | k_is | kit_is | k_exc | rfl | kernel_rfl | decide)
    (case l6 => first | k_is | kit_is | k_exc | rfl | kernel_rfl | decide)
    (case c6 => first | k_is | kit_is | k_exc | rfl | kernel_rfl | decide)
    (case k6 => first | k_is | kit_is | k_exc | rfl | kernel_rfl | decide)
    (case a7 => first | k_is | kit_is | k_exc | rfl | kernel_rfl | decide)
    (case l7 => first | k_is | kit_is | k_exc | rfl | kernel_rfl | decide)
    (case c7 => first | k_is | kit_is | k_exc | rfl | kernel_rfl | decide)
    (case k7 => first | k_is | kit_is | k_exc | rfl | kernel_rfl | decide)
    (case a8 => first | k_is | kit_is | k_exc | rfl | kernel_rfl | decide)
    (case l8 => first | k_is | kit_is | k_exc | rfl | kernel_rfl | decide)
    (case c8 => first | k_is | kit_is | k_exc | rfl | kernel_rfl | decide)
    (case k8 => first | k_is | kit_is | k_exc | rfl | kernel_rfl | decide)
    (case a9 => first | k_is | kit_is | k_exc | rfl | kernel_rfl | decide)
    (case l9 => first | k_is | kit_is | k_exc | rfl | kernel_rfl | decide)
    (case c9 => first | k_is | kit_is | k_exc | rfl | kernel_rfl | decide)
    (case k9 => first | k_is | kit_is | k_exc | rfl | kernel_rfl | decide)
    (case a10 => first | k_is | kit_is | k_exc | rfl | kernel_rfl | decide)
    (case l10 => first | k_is | kit_is | k_exc | rfl | kernel_rfl | decide)
    (case c10 => first | k_is | kit_is | k_exc | rfl | kernel_rfl | decide)
    (case k10 => first | k_is | kit_is | k_exc | rfl | kernel_rfl | decide)
    (case a11 => first | k_is | kit_is | k_exc | rfl | kernel_rfl | decide)
    (case l11 => first | k_is | kit_is | k_exc | rfl | kernel_rfl | decide)
    (case c11 => first | k_is | kit_is | k_exc | rfl | kernel_rfl | decide)
    (case k11 => first | k_is | kit_is | k_exc | rfl | kernel_rfl | decide)
    (case a12 => first | k_is | kit_is | k_exc | rfl | kernel_rfl | decide)
    (case l12 => first | k_is | kit_is | k_exc | rfl | kernel_rfl | decide)
    (case c12 => first | k_is | kit_is | k_exc | rfl | kernel_rfl | decide)
    (case k12 => first | k_is | kit_is | k_exc | rfl | kernel_rfl | decide)
    (case a13 => first | k_is | kit_is | k_exc | rfl | kernel_rfl | decide)
    (case l13 => first | k_is | kit_is | k_exc | rfl | kernel_rfl | decide)
    (case c13 => first | k_is | kit_is | k_exc | rfl | kernel_rfl | decide)
    (case k13 => first | k_is | kit_is | k_exc | rfl | kernel_rfl | decide)
    (case a14 => first | k_is | kit_is | k_exc | rfl | kernel_rfl | decide)
    (case l14 => first | k_is | kit_is | k_exc | rfl | kernel_rfl | decide)
    (case c14 => first | k_is | kit_is | k_exc | rfl | kernel_rfl | decide)
    (case k14 => first | k_is | kit_is | k_exc | rfl | kernel_rfl | decide)
    (case a15 => first | k_is | kit_is | k_exc | rfl | kernel_rfl | decide)
    (case l15 => first | k_is | kit_is | k_exc | rfl | kernel_rfl | decide)
    (case c15 => first | k_is | kit_is | k_exc | rfl | kernel_rfl | decide)
    (case k15 => first | k_is | kit_is | k_exc | rfl | kernel_rfl | decide)
    (case a16 => first | k_is | kit_is | k_exc | rfl | kernel_rfl | decide)
    (case l16 => first | k_is | kit_is | k_exc | rfl | kernel_rfl | decide)
    (case c16 => first | k_is | kit_is | k_exc | rfl | kernel_rfl | decide)
    (case k16 => first | k_is | kit_is | k_exc | rfl | kernel_rfl | decide)
    (case a17 => first | k_is | kit_is | k_exc | rfl | kernel_rfl | decide)
    (case l17 => first | k_is | kit_is | k_exc | rfl | kernel_rfl | decide)
    (case c17 => first | k_is | kit_is | k_exc | rfl | kernel_rfl | decide)
    (case k17 => first | k_is | kit_is | k_exc | rfl | kernel_rfl | decide)
    (case a18 => first | k_is | kit_is | k_exc | rfl | kernel_rfl | decide)
    (case l18 => first | k_is | kit_is | k_exc | rfl | kernel_rfl | decide)
    (case c18 => first | k_is | kit_is | k_exc | rfl | kernel_rfl | decide)
    (case k18 => first | k_is | kit_is | k_exc | rfl | kernel_rfl | decide)
    (case a19 => first | k_is | kit_is | k_exc | rfl | kernel_rfl | decide)
    (case l19 => first | k_is | kit_is | k_exc | rfl | kernel_rfl | decide)
    (case c19 => first | k_is | kit_is | k_exc | rfl | kernel_rfl | decide)
    (case k19 => first | k_is | kit_is | k_exc | rfl | kernel_rfl | decide)
    (case a20 => first | k_is | kit_is | k_exc | rfl | kernel_rfl | decide)
    (case l20 => first | k_is | kit_is | k_exc | rfl | kernel_rfl | decide)
    (case c20 => first | k_is | kit_is | k_exc | rfl | kernel_rfl | decide)
    (case k20 => first | k_is | kit_is | k_exc | rfl | kernel_rfl | decide)
    (case a21 => first | k_is | kit_is | k_exc | rfl | kernel_rfl | decide)
    (case l21 => first | k_is | kit_is | k_exc | rfl | kernel_rfl | decide)
    (case c21 => first | k_is | kit_is | k_exc | rfl | kernel_rfl | decide)
    (case k21 => first | k_is | kit_is | k_exc | rfl | kernel_rfl | decide)
    (case a22 => first | k_is | kit_is | k_exc | rfl | kernel_rfl | decide)
    (case l22 => first | k_is | kit_is | k_exc | rfl | kernel_rfl | decide)
    (case c22 => first | k_is | kit_is | k_exc | rfl | kernel_rfl | decide)
    (case k22 => first | k_is | kit_is | k_exc | rfl | kernel_rfl | decide)
    (case a23 => first | k_is | kit_is | k_exc | rfl | kernel_rfl | decide)
    (case l23 => first | k_is | kit_is | k_exc | rfl | kernel_rfl | decide)
    (case c23 => first | k_is | kit_is | k_exc | rfl | kernel_rfl | decide)
    (case k23 => first | k_is | kit_is | k_exc | rfl | kernel_rfl | decide)
    (case a24 => first | k_is | kit_is | k_exc | rfl | kernel_rfl | decide)
    (case l24 => first | k_is | kit_is | k_exc | rfl | kernel_rfl | decide)
    (case c24 => first | k_is | kit_is | k_exc | rfl | kernel_rfl | decide)
    (case k24 => first | k_is | kit_is | k_exc | rfl | kernel_rfl | decide)
    (case hcl => first | k_is | kit_is | k_exc | rfl | kernel_rfl | decide)
    (case htk => first | k_is | kit_is | k_exc | rfl | kernel_rfl | decide)
    (case aX101 => first | k_is | kit_is | k_exc | rfl | kernel_rfl | decide)
    (case xb101 => first | k_is | kit_is | k_exc | rfl | kernel_rfl | decide)
    (case xt101 => first | k_is | kit_is | k_exc | rfl | kernel_rfl | decide)
    (case xd101 => first | k_is | kit_is | k_exc | rfl | kernel_rfl | decide)
    (case aX102 => first | k_is | kit_is | k_exc | rfl | kernel_rfl | decide)
    (case xb102 => first | k_is | kit_is | k_exc | rfl | kernel_rfl | decide)
    (case xt102 => first | k_is | kit_is | k_exc | rfl | kernel_rfl | decide)
    (case xd102 => first | k_is | kit_is | k_exc | rfl | kernel_rfl | decide)
    (case aX103 => first | k_is | kit_is | k_exc | rfl | kernel_rfl | decide)
    (case xb103 => first | k_is | kit_is | k_exc | rfl | kernel_rfl | decide)
    (case xt103 => first | k_is | kit_is | k_exc | rfl | kernel_rfl | decide)
    (case xd103 => first | k_is | kit_is | k_exc | rfl | kernel_rfl | decide)
    (case aX104 => first | k_is | kit_is | k_exc | rfl | kernel_rfl | decide)
    (case xb104 => first | k_is | kit_is | k_exc | rfl | kernel_rfl | decide)
    (case xt104 => first | k_is | kit_is | k_exc | rfl | kernel_rfl | decide)
    (case xd104 => first | k_is | kit_is | k_exc | rfl | kernel_rfl | decide)
    (case aX105 => first | k_is | kit_is | k_exc | rfl | kernel_rfl | decide)
    (case xb105 => first | k_is | kit_is | k_exc | rfl | kernel_rfl | decide)
    (case xt105 => first | k_is | kit_is | k_exc | rfl | kernel_rfl | decide)
    (case xd105 => first | k_is | kit_is | k_exc | rfl | kernel_rfl | decide)
    (case aX100 => first | k_is | kit_is | k_exc | rfl | kernel_rfl | decide)
    (case xb100 => first | k_is | kit_is | k_exc | rfl | kernel_rfl | decide)
    (case xt100 => first | k_is | kit_is | k_exc | rfl | kernel_rfl | decide)
    (case xd100 => first | k_is | kit_is | k_exc | rfl | kernel_rfl | decide)
    (case xq101 => first | k_is | kit_is | k_exc | rfl | kernel_rfl | decide)
    (case xk101 => first | k_is | kit_is | k_exc | rfl | kernel_rfl | decide)
    (case xg101 => first | k_is | kit_is | k_exc | rfl | kernel_rfl | decide)
    (case xa101 => first | k_is | kit_is | k_exc | rfl | kernel_rfl | decide)
    (case xc101 => first | k_is | kit_is | k_exc | rfl | kernel_rfl | decide)
    (case xm101 => first | k_is | kit_is | k_exc | rfl | kernel_rfl | decide)
    (case xs101 => first | k_is | kit_is | k_exc | rfl | kernel_rfl | decide)
    (case kk101_101 => first | k_is | kit_is | k_exc | rfl | kernel_rfl | decide)
    (case kk101_102 => first | k_is | kit_is | k_exc | rfl | kernel_rfl | decide)
    (case kk101_103 => first | k_is | kit_is | k_exc | rfl | kernel_rfl | decide)
    (case kk101_104 => first | k_is | kit_is | k_exc | rfl | kernel_rfl | decide)
    (case kk101_105 => first | k_is | kit_is | k_exc | rfl | kernel_rfl | decide)
    (case qc23 => first | k_is | kit_is | k_exc | rfl | kernel_rfl | decide)
    (case ql23 => first | k_is | kit_is | k_exc | rfl | kernel_rfl | decide)
    (case qt23 => first | k_is | kit_is | k_exc | rfl | kernel_rfl | decide)
    (case qh23 => first | k_is | kit_is | k_exc | rfl | kernel_rfl | decide)
    (case qn23 => first | k_is | kit_is | k_exc | rfl | kernel_rfl | decide)
    (case qnd => first | k_is | kit_is | k_exc | rfl | kernel_rfl | decide)
    (case z_int => first | k_is | kit_is | k_exc | rfl | kernel_rfl | decide)
    (case z_isinstance => first | k_is | kit_is | k_exc | rfl | kernel_rfl | decide)
    (case z_bool => first | k_is | kit_is | k_exc | rfl | kernel_rfl | decide)
    (case z_tuple => first | k_is | kit_is | k_exc | rfl | kernel_rfl | decide)
    (case z_len => first | k_is | kit_is | k_exc | rfl | kernel_rfl | decide)
    (case z_str => first | k_is | kit_is | k_exc | rfl | kernel_rfl | decide)
    (case z_all => first | k_is | kit_is | k_exc | rfl | kernel_rfl | decide)
    (case z_zip => first | k_is | kit_is | k_exc | rfl | kernel_rfl | decide)
    (case z_max => first | k_is | kit_is | k_exc | rfl | kernel_rfl | decide)
    (case z_range => first | k_is | kit_is | k_exc | rfl | kernel_rfl | decide)
    (case z_min => first | k_is | kit_is | k_exc | rfl | kernel_rfl | decide)
    (case z_repr => first | k_is | kit_is | k_exc | rfl | kernel_rfl | decide)
    (case gMAX_USE => first | k_is | kit_is | k_exc | rfl | kernel_rfl | decide)
    (case gMAX_PARTS => first | k_is | kit_is | k_exc | rfl | kernel_rfl | decide)
    (case gMAX_NAME => first | k_is | kit_is | k_exc | rfl | kernel_rfl | decide)
    (case gMAX_DEPTH => first | k_is | kit_is | k_exc | rfl | kernel_rfl | decide)
    (case gMAX_OPERATIONS => first | k_is | kit_is | k_exc | rfl | kernel_rfl | decide)
    (case gMAX_RETRIES => first | k_is | kit_is | k_exc | rfl | kernel_rfl | decide)
    (case gMAX_TUPLES => first | k_is | kit_is | k_exc | rfl | kernel_rfl | decide)
#print axioms PySem.Challenge.cw_forklots_k02_seq_and_par_holds
