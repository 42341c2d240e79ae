import PyProof.Rows.All
import Wide.All
import OpenK.AllK
import Wide.FinOn
import KE.KStateDown
import HandS.ForMost
import HandS.Exc
import HandS.TryOnly
import HandS.Flow
import HandS.TupAny
import KE.DataEq
import HandS.Defaults
import KE.KExcSuper
import KE.KExcIs
import HandS.ExcOwn
import HandS.ExcInit
import HandS.ExcField
import HandS.ExcIs
import HandS.HeadHook1
import HandS.WideBits
import HandS.Wide
import HandS.TupMul
import HandS.Style
import HandS.TupLe
import KE.LtData
import HandS.RaiseMore
import HandS.Small
import HandS.DictComp
import HandS.BoundList
import HandS.More
import KE.SortData
import KE.DataMinKey
import HandS.IsInst
import KE.GoesMore
import KE.GoesEnum
import HandS.Zip
import KE.KDictDisplayH
import HandS.Conv
import KE.KRevSl
import PyProof.Rows.StrRev
import HandS.SetFor
import HandS.Strs
import HandS.ReplaceLit
import PyProof.CompFree
import KE.KDictPairs
import HandS.HeadHook2
import HandS.Ends
import HandS.Head0
import HandS.Head1
import HandS.Head2
import HandS.HeadEnd
import PyProof.StrLawsRepr
import PySem.Challenge.RW_stillrounds_k06_texts_of_worlds
set_option Elab.async false
set_option linter.all false
set_option maxRecDepth 100000
set_option maxHeartbeats 0
set_option autoImplicit false
/-! Values and stores of the small evaluator, and how they stand in an abstract heap. -/
namespace Sr
open PySem L2

/-- a value: data (never changed), a cell of the store, a tuple with something in it that is no data, a def by its name -/
inductive PV where
  | d (x : PyData)
  | cell (n : Nat)
  | tup (xs : List PV)
  | fn (x : Str)

/-- what a cell holds -/
inductive PO where
  | lst (xs : List PV)
  | dic (kvs : List (Key × PV))
  | dit (kvs : List (List Key × PV))
  | ins (c : Str) (fs : List (Str × PV))
  /-- a dict while it is walked: read, not written -/
  | dicL (kvs : List (Key × PV))
  | ditL (kvs : List (List Key × PV))

abbrev Store := List PO
abbrev Fr := List (Option PV)

/-- an exception of the text's own -/
structure PX where
  cls : Str
  fs : List (Str × PV)

inductive Res (α : Type) where
  | ok (a : α) (st : Store)
  | exc (e : PX) (st : Store)
  | bad

namespace Res
def bind {α β : Type} (r : Res α) (f : α → Store → Res β) : Res β := match r with
  | .ok a st => f a st
  | .exc e st => .exc e st
  | .bad => .bad
def wp {α : Type} (r : Res α) (Q : α → Store → Prop) (W : PX → Store → Prop) : Prop := match r with
  | .ok a st => Q a st
  | .exc e st => W e st
  | .bad => False
theorem wp_bind {α β : Type} {r : Res α} {f : α → Store → Res β} {Q : β → Store → Prop} {W : PX → Store → Prop} (h : (r.bind f).wp Q W) : r.wp (fun a st => (f a st).wp Q W) W := by
  cases r with
  | ok a st => exact h
  | exc e st => exact h
  | bad => exact h
theorem wp_mono {α : Type} {r : Res α} {Q Q' : α → Store → Prop} {W W' : PX → Store → Prop} (h : r.wp Q W) (hq : ∀ a st, Q a st → Q' a st) (hw : ∀ e st, W e st → W' e st) : r.wp Q' W' := by
  cases r with
  | ok a st => exact hq _ _ h
  | exc e st => exact hw _ _ h
  | bad => exact h
end Res

def keyD : Key → PyData
  | .inl i => .int i
  | .inr x => .str x

/-- the addresses of cells: the first k belong to callers and are neither read nor written -/
structure Cs where
  l : List Addr
  k : Nat
instance : Membership Addr Cs := ⟨fun c a => a ∈ c.l⟩
def Cs.at_ (c : Cs) (n : Nat) : Option Addr := c.l[c.k + n]?
def Cs.push (c : Cs) (p : Addr) : Cs := ⟨c.l ++ [p], c.k⟩
theorem Cs.mem_at {c : Cs} {n : Nat} {a : Addr} (h : c.at_ n = some a) : a ∈ c := List.mem_of_getElem? h
theorem Cs.mem_l {c : Cs} {a : Addr} : a ∈ c ↔ a ∈ c.l := Iff.rfl

/-! ### lists and tuples that stay as they are -/
section
variable (K : PySem.W.Frag) (ρ : Cs) (H : Hp)
def KT (a : Addr) (vs : List V) : Prop := ∃ (o : Obj) (its : Array Value) (n : Nat), K.lookup a = some o ∧ o.cls = .type "tuple" ∧ o.data = .seq its n ∧ its.size ≤ sizeLine ∧ Vals vs its.toList
def FzL (a : Addr) (vs : List V) : Prop := Rd H a (.lst vs) ∧ a ∉ ρ
def FzT (a : Addr) (vs : List V) : Prop := (H a = some (.tup vs) ∧ a ∉ ρ) ∨ KT K a vs

mutual
/-- data at a value -/
inductive DR : PyData → V → Prop
  | non : DR .none .non
  | bl (b : Bool) : DR (.bool b) (.bl b)
  | int (i : Int) : DR (.int i) (.int i)
  | str (x : Str) : DR (.str x) (.str x)
  | lst {a : Addr} {vs : List V} {ds : List PyData} : FzL ρ H a vs → DRs ds vs → DR (.list ds) (.ref a)
  | tup {a : Addr} {vs : List V} {ds : List PyData} : FzT K ρ H a vs → DRs ds vs → DR (.tuple ds) (.ref a)
  | dic {a : Addr} {kvs : List (Key × V)} {ds : List PyData} : H a = some (.dK kvs) → a ∉ ρ → DRs ds (kvs.map (·.2)) → DR (.dict ((kvs.map fun p => keyD p.1).zip ds)) (.ref a)
  | dit {a : Addr} {kvs : List (List Key × V)} {ds : List PyData} : H a = some (.dT kvs) → kvs ≠ [] → a ∉ ρ → DRs ds (kvs.map (·.2)) → DR (.dict ((kvs.map fun p => PyData.tuple (p.1.map keyD)).zip ds)) (.ref a)
inductive DRs : List PyData → List V → Prop
  | nil : DRs [] []
  | cons {d : PyData} {v : V} {ds : List PyData} {vs : List V} : DR d v → DRs ds vs → DRs (d :: ds) (v :: vs)
end
variable (mg : Str → Option Value)
mutual
inductive VR : PV → V → Prop
  | d {x : PyData} {v : V} : DR K ρ H x v → VR (.d x) v
  | cell {n : Nat} {a : Addr} : ρ.at_ n = some a → VR (.cell n) (.ref a)
  | tup {a : Addr} {vs : List V} {xs : List PV} : FzT K ρ H a vs → VRs xs vs → VR (.tup xs) (.ref a)
  | fn {x : Str} {a : Addr} : mg x = some (.ref a) → VR (.fn x) (.ref a)
inductive VRs : List PV → List V → Prop
  | nil : VRs [] []
  | cons {x : PV} {v : V} {xs : List PV} {vs : List V} : VR x v → VRs xs vs → VRs (x :: xs) (v :: vs)
end
/-- pairs of names and values, keys and values -/
def VRk {κ : Type} : List (κ × PV) → List (κ × V) → Prop := Paired fun p q => p.1 = q.1 ∧ VR K ρ H mg p.2 q.2
/-- what stands at the address of a cell -/
def OR : PO → Addr → Prop
  | .lst xs, a => ∃ vs, H a = some (.lst vs) ∧ VRs K ρ H mg xs vs
  | .dic kvs, a => ∃ ws, H a = some (.dK ws) ∧ VRk K ρ H mg kvs ws
  | .dit kvs, a => ∃ ws, H a = some (.dT ws) ∧ VRk K ρ H mg kvs ws
  | .ins c fs, a => ∃ C dx ws, mg c = some (.ref C) ∧ H a = some (.ins C dx ws) ∧ VRk K ρ H mg fs ws
  | .dicL kvs, a => ∃ od ws, H a = some (.frz od (.dK ws)) ∧ VRk K ρ H mg kvs ws
  | .ditL kvs, a => ∃ od ws, H a = some (.frz od (.dT ws)) ∧ VRk K ρ H mg kvs ws
/-- no tuple -/
def NoTup (u : HO) : Prop := ∀ xs, u ≠ .tup xs
def XR (e : PX) (c : Value) (dx : Option Addr) : Prop := mg e.cls = some c ∧ match e.fs with
  | [] => dx = none
  | f :: fs => ∃ d ws, dx = some d ∧ H d = some (.xd ws) ∧ d ∉ ρ ∧ VRk K ρ H mg (f :: fs) ws
/-- the store -/
structure RS (st : Store) : Prop where
  len : ρ.k + st.length = ρ.l.length
  nd : ρ.l.Nodup
  kn : ∀ a, a ∈ ρ → ∃ u, H a = some u ∧ NoTup u
  at_ : ∀ (n : Nat) (o : PO), st[n]? = some o → ∃ a, ρ.at_ n = some a ∧ OR K ρ H mg o a
/-- the frame -/
structure FR (fr : Fr) (σ : St) : Prop where
  len : fr.length = σ.length
  at_ : ∀ (i : Nat) (x : PV), fr[i]? = some (some x) → ∃ v, σ[i]? = some (some v) ∧ VR K ρ H mg x v
end

/-- from (ρ, H) on: what is not a cell stays, callers' cells too; new cells are new -/
structure Ext (ρ : Cs) (H : Hp) (ρ' : Cs) (H' : Hp) : Prop where
  more : ∃ m, ρ' = ⟨ρ.l ++ m, ρ.k⟩
  keep : ∀ a o, H a = some o → a ∉ ρ → H' a = some o ∧ a ∉ ρ'
  hid : ∀ i a, i < ρ.k → ρ.l[i]? = some a → H' a = H a
  frz : ∀ a o u, H a = some (.frz o u) → H' a = some (.frz o u)

theorem Ext.refl (ρ : Cs) (H : Hp) : Ext ρ H ρ H := ⟨⟨[], by simp⟩, fun a o h n => ⟨h, n⟩, fun _ _ _ _ => rfl, fun _ _ _ h => h⟩
theorem Ext.trans {ρ ρ1 ρ2 : Cs} {H H1 H2 : Hp} (a : Ext ρ H ρ1 H1) (b : Ext ρ1 H1 ρ2 H2) : Ext ρ H ρ2 H2 := by
  obtain ⟨m, rfl⟩ := a.more
  refine ⟨?_, fun c o h n => ?_, fun i c hi e => ?_, fun c o u h => b.frz c o u (a.frz c o u h)⟩
  · obtain ⟨m2, rfl⟩ := b.more
    exact ⟨m ++ m2, by rw [List.append_assoc]⟩
  · obtain ⟨h1, n1⟩ := a.keep c o h n
    exact b.keep c o h1 n1
  · rw [b.hid i c hi (by rw [List.getElem?_append_left (List.getElem?_eq_some_iff.mp e).1]; exact e), a.hid i c hi e]
/-- a new object that is no cell -/
theorem Ext.new {ρ : Cs} {H : Hp} {p : Addr} {o : HO} (h : H p = none) (n : p ∉ ρ) : Ext ρ H ρ (upd H p o) := by
  refine ⟨⟨[], by simp⟩, fun a u e n => ⟨?_, n⟩, fun i a hi e => upd_ne fun z => n (by rw [← z]; exact List.mem_of_getElem? e), fun a o u e => (upd_ne (ne_of_none e h)).trans e⟩
  rw [upd_ne (ne_of_none e h)]
  exact e
/-- a new cell -/
theorem Ext.cell {ρ : Cs} {H : Hp} {p : Addr} {o : HO} (h : H p = none) (n : p ∉ ρ) : Ext ρ H (ρ.push p) (upd H p o) := by
  refine ⟨⟨[p], rfl⟩, fun a u e n => ⟨?_, ?_⟩, fun i a hi e => upd_ne fun z => n (by rw [← z]; exact List.mem_of_getElem? e), fun a o u e => (upd_ne (ne_of_none e h)).trans e⟩
  · rw [upd_ne (ne_of_none e h)]
    exact e
  · rw [Cs.mem_l]
    show a ∉ ρ.l ++ [p]
    rw [List.mem_append, List.mem_singleton]
    exact fun q => q.elim n (ne_of_none e h)
/-- a cell changed -/
theorem Ext.set {ρ : Cs} {H : Hp} {p : Addr} {o : HO} {n : Nat} (h : ρ.at_ n = some p) (nd : ρ.l.Nodup) (mu : Mut (H p)) : Ext ρ H ρ (upd H p o) := by
  refine ⟨⟨[], by simp⟩, fun a u e n => ⟨?_, n⟩, fun i a hi e => upd_ne fun z => ?_, fun a o u e => (upd_ne fun z => by rw [z] at e; rw [e] at mu; exact mu).trans e⟩
  · rw [upd_ne (fun q => n (by rw [q]; exact Cs.mem_at h))]
    exact e
  · subst z
    have h : ρ.l[ρ.k + n]? = some a := h
    obtain ⟨l1, e1⟩ := List.getElem?_eq_some_iff.mp e
    obtain ⟨l2, e2⟩ := List.getElem?_eq_some_iff.mp h
    have := (List.getElem_inj nd).mp (e1.trans e2.symm)
    omega

section
variable {K : PySem.W.Frag} {ρ ρ' : Cs} {H H' : Hp} {mg : Str → Option Value}
theorem Rd.ext {a : Addr} {u : HO} (e : Ext ρ H ρ' H') (h : Rd H a u) (n : a ∉ ρ) : Rd H' a u ∧ a ∉ ρ' := by
  rcases h with h | ⟨o, h⟩
  · obtain ⟨h1, h2⟩ := e.keep a _ h n
    exact ⟨.inl h1, h2⟩
  · obtain ⟨h1, h2⟩ := e.keep a _ h n
    exact ⟨.inr ⟨o, h1⟩, h2⟩
theorem FzL.mono {a : Addr} {vs : List V} (e : Ext ρ H ρ' H') (h : FzL ρ H a vs) : FzL ρ' H' a vs := Rd.ext e h.1 h.2
theorem FzT.mono {a : Addr} {vs : List V} (e : Ext ρ H ρ' H') (h : FzT K ρ H a vs) : FzT K ρ' H' a vs := by
  rcases h with ⟨h, n⟩ | h
  · exact .inl (e.keep a _ h n)
  · exact .inr h
theorem FzL.sq {a : Addr} {vs : List V} (h : FzL ρ H a vs) : SqL K H a vs := .inl h.1
theorem FzT.sq {a : Addr} {vs : List V} (h : FzT K ρ H a vs) : SqT K H a vs := by
  rcases h with ⟨h, n⟩ | h
  · exact .inl (.inl h)
  · exact .inr h
/-! what is no cell stays as it is: so do values -/
theorem FzL.same {a : Addr} {vs : List V} (e : ∀ a, a ∉ ρ → H' a = H a) (h : FzL ρ H a vs) : FzL ρ H' a vs := by
  refine ⟨?_, h.2⟩
  rcases h.1 with q | ⟨o, q⟩
  · exact .inl ((e a h.2).trans q)
  · exact .inr ⟨o, (e a h.2).trans q⟩
theorem FzT.same {a : Addr} {vs : List V} (e : ∀ a, a ∉ ρ → H' a = H a) (h : FzT K ρ H a vs) : FzT K ρ H' a vs := by
  rcases h with ⟨h, n⟩ | h
  · exact .inl ⟨(e a n).trans h, n⟩
  · exact .inr h
mutual
theorem DR.same (e : ∀ a, a ∉ ρ → H' a = H a) : ∀ {d : PyData} {v : V}, DR K ρ H d v → DR K ρ H' d v
  | _, _, .non => .non
  | _, _, .bl b => .bl b
  | _, _, .int i => .int i
  | _, _, .str x => .str x
  | _, _, .lst h q => .lst (h.same e) (DRs.same e q)
  | _, _, .tup h q => .tup (h.same e) (DRs.same e q)
  | _, _, .dic h n q => .dic ((e _ n).trans h) n (DRs.same e q)
  | _, _, .dit h z n q => .dit ((e _ n).trans h) z n (DRs.same e q)
theorem DRs.same (e : ∀ a, a ∉ ρ → H' a = H a) : ∀ {ds : List PyData} {vs : List V}, DRs K ρ H ds vs → DRs K ρ H' ds vs
  | _, _, .nil => .nil
  | _, _, .cons h q => .cons (DR.same e h) (DRs.same e q)
end
mutual
theorem VR.same (e : ∀ a, a ∉ ρ → H' a = H a) : ∀ {x : PV} {v : V}, VR K ρ H mg x v → VR K ρ H' mg x v
  | _, _, .d h => .d (h.same e)
  | _, _, .cell h => .cell h
  | _, _, .tup h q => .tup (h.same e) (VRs.same e q)
  | _, _, .fn h => .fn h
theorem VRs.same (e : ∀ a, a ∉ ρ → H' a = H a) : ∀ {x : List PV} {v : List V}, VRs K ρ H mg x v → VRs K ρ H' mg x v
  | _, _, .nil => .nil
  | _, _, .cons h q => .cons (VR.same e h) (VRs.same e q)
end
theorem VRk.same {κ : Type} (e : ∀ a, a ∉ ρ → H' a = H a) {xs : List (κ × PV)} {vs : List (κ × V)} (h : VRk K ρ H mg xs vs) : VRk K ρ H' mg xs vs :=
  Paired.mapP h fun _ _ q => ⟨q.1, q.2.same e⟩
theorem OR.same {o : PO} {a : Addr} (e : ∀ a, a ∉ ρ → H' a = H a) (k : H' a = H a) (h : OR K ρ H mg o a) : OR K ρ H' mg o a := by
  cases o with
  | lst xs => obtain ⟨vs, h1, h2⟩ := h; exact ⟨vs, k.trans h1, h2.same e⟩
  | dic kvs => obtain ⟨vs, h1, h2⟩ := h; exact ⟨vs, k.trans h1, h2.same e⟩
  | dit kvs => obtain ⟨vs, h1, h2⟩ := h; exact ⟨vs, k.trans h1, h2.same e⟩
  | ins c fs => obtain ⟨C, dx, vs, h0, h1, h2⟩ := h; exact ⟨C, dx, vs, h0, k.trans h1, h2.same e⟩
  | dicL kvs => obtain ⟨od, vs, h1, h2⟩ := h; exact ⟨od, vs, k.trans h1, h2.same e⟩
  | ditL kvs => obtain ⟨od, vs, h1, h2⟩ := h; exact ⟨od, vs, k.trans h1, h2.same e⟩
mutual
theorem DR.mono (e : Ext ρ H ρ' H') : ∀ {d : PyData} {v : V}, DR K ρ H d v → DR K ρ' H' d v
  | _, _, .non => .non
  | _, _, .bl b => .bl b
  | _, _, .int i => .int i
  | _, _, .str x => .str x
  | _, _, .lst h q => .lst (h.mono e) (DRs.mono e q)
  | _, _, .tup h q => .tup (h.mono e) (DRs.mono e q)
  | _, _, .dic h n q => .dic (e.keep _ _ h n).1 (e.keep _ _ h n).2 (DRs.mono e q)
  | _, _, .dit h z n q => .dit (e.keep _ _ h n).1 z (e.keep _ _ h n).2 (DRs.mono e q)
theorem DRs.mono (e : Ext ρ H ρ' H') : ∀ {ds : List PyData} {vs : List V}, DRs K ρ H ds vs → DRs K ρ' H' ds vs
  | _, _, .nil => .nil
  | _, _, .cons h q => .cons (DR.mono e h) (DRs.mono e q)
end
mutual
theorem VR.mono (e : Ext ρ H ρ' H') : ∀ {x : PV} {v : V}, VR K ρ H mg x v → VR K ρ' H' mg x v
  | _, _, .d h => .d (h.mono e)
  | _, _, .cell h => .cell (by
      obtain ⟨m, rfl⟩ := e.more
      have h : ρ.l[ρ.k + _]? = some _ := h
      show (ρ.l ++ m)[ρ.k + _]? = some _
      rw [List.getElem?_append_left (List.getElem?_eq_some_iff.mp h).1]
      exact h)
  | _, _, .tup h q => .tup (h.mono e) (VRs.mono e q)
  | _, _, .fn h => .fn h
theorem VRs.mono (e : Ext ρ H ρ' H') : ∀ {xs : List PV} {vs : List V}, VRs K ρ H mg xs vs → VRs K ρ' H' mg xs vs
  | _, _, .nil => .nil
  | _, _, .cons h q => .cons (VR.mono e h) (VRs.mono e q)
end
theorem VRk.mono {κ : Type} (e : Ext ρ H ρ' H') {xs : List (κ × PV)} {vs : List (κ × V)} (h : VRk K ρ H mg xs vs) : VRk K ρ' H' mg xs vs :=
  Paired.mapP h fun _ _ q => ⟨q.1, q.2.mono e⟩
theorem FR.mono (e : Ext ρ H ρ' H') {fr : Fr} {σ : St} (h : FR K ρ H mg fr σ) : FR K ρ' H' mg fr σ :=
  ⟨h.len, fun i x q => let ⟨v, h1, h2⟩ := h.at_ i x q; ⟨v, h1, h2.mono e⟩⟩
theorem XR.mono (e : Ext ρ H ρ' H') {x : PX} {c : Value} {dx : Option Addr} (h : XR K ρ H mg x c dx) : XR K ρ' H' mg x c dx := by
  obtain ⟨h1, h2⟩ := h
  refine ⟨h1, ?_⟩
  cases q : x.fs with
  | nil => rw [q] at h2; exact h2
  | cons f fs =>
    rw [q] at h2
    obtain ⟨d, ws, e1, e2, e3, e4⟩ := h2
    exact ⟨d, ws, e1, (e.keep _ _ e2 e3).1, (e.keep _ _ e2 e3).2, VRk.mono e e4⟩
/-- what is said of a cell hangs on its own object and on what stays -/
theorem OR.move {o : PO} {a : Addr} (e : Ext ρ H ρ' H') (k : ∀ u, H a = some u → H' a = some u) (h : OR K ρ H mg o a) : OR K ρ' H' mg o a := by
  cases o with
  | lst xs => obtain ⟨vs, h1, h2⟩ := h; exact ⟨vs, k _ h1, h2.mono e⟩
  | dic kvs => obtain ⟨vs, h1, h2⟩ := h; exact ⟨vs, k _ h1, h2.mono e⟩
  | dit kvs => obtain ⟨vs, h1, h2⟩ := h; exact ⟨vs, k _ h1, h2.mono e⟩
  | ins c fs => obtain ⟨C, dx, vs, h0, h1, h2⟩ := h; exact ⟨C, dx, vs, h0, k _ h1, h2.mono e⟩
  | dicL kvs => obtain ⟨od, vs, h1, h2⟩ := h; exact ⟨od, vs, k _ h1, h2.mono e⟩
  | ditL kvs => obtain ⟨od, vs, h1, h2⟩ := h; exact ⟨od, vs, k _ h1, h2.mono e⟩
theorem OR.some_ {o : PO} {a : Addr} (h : OR K ρ H mg o a) : ∃ u, H a = some u ∧ NoTup u := by
  cases o with
  | lst xs => obtain ⟨vs, h1, h2⟩ := h; exact ⟨_, h1, fun _ z => nomatch z⟩
  | dic kvs => obtain ⟨vs, h1, h2⟩ := h; exact ⟨_, h1, fun _ z => nomatch z⟩
  | dit kvs => obtain ⟨vs, h1, h2⟩ := h; exact ⟨_, h1, fun _ z => nomatch z⟩
  | ins c fs => obtain ⟨C, dx, vs, h0, h1, h2⟩ := h; exact ⟨_, h1, fun _ z => nomatch z⟩
  | dicL kvs => obtain ⟨od, vs, h1, h2⟩ := h; exact ⟨_, h1, fun _ z => nomatch z⟩
  | ditL kvs => obtain ⟨od, vs, h1, h2⟩ := h; exact ⟨_, h1, fun _ z => nomatch z⟩
theorem RS.fresh {st : Store} (h : RS K ρ H mg st) {p : Addr} (n : H p = none) : p ∉ ρ := fun m => by
  obtain ⟨u, e, _⟩ := h.kn p m
  rw [n] at e
  cases e
/-- a tracked tuple is no cell -/
theorem RS.tup {st : Store} (h : RS K ρ H mg st) {p : Addr} {xs : List V} (n : H p = some (.tup xs)) : p ∉ ρ := fun m => by
  obtain ⟨u, e, t⟩ := h.kn p m
  rw [n] at e
  cases e
  exact t _ rfl
/-- nothing but what is no cell has changed -/
theorem RS.move {st : Store} (h : RS K ρ H mg st) (e : Ext ρ H ρ H') (k : ∀ a, a ∈ ρ → ∀ u, H a = some u → H' a = some u) : RS K ρ H' mg st := by
  refine ⟨h.len, h.nd, fun a ha => ?_, fun i u q => ?_⟩
  · obtain ⟨u, q, t⟩ := h.kn a ha
    exact ⟨u, k a ha u q, t⟩
  · obtain ⟨a, h1, h2⟩ := h.at_ i u q
    exact ⟨a, h1, h2.move e (k a (Cs.mem_at h1))⟩
/-- a new object that is no cell -/
theorem RS.new {st : Store} (h : RS K ρ H mg st) {p : Addr} {o : HO} (n : H p = none) : RS K ρ (upd H p o) mg st :=
  h.move (Ext.new n (h.fresh n)) fun a _ u q => by rw [upd_ne (ne_of_none q n)]; exact q
theorem RS.ext {st : Store} (h : RS K ρ H mg st) {p : Addr} {o : HO} (n : H p = none) : Ext ρ H ρ (upd H p o) := Ext.new n (h.fresh n)
theorem RS.extC {st : Store} (h : RS K ρ H mg st) {p : Addr} {o : HO} (n : H p = none) : Ext ρ H (ρ.push p) (upd H p o) := Ext.cell n (h.fresh n)
/-- a new cell -/
theorem RS.cell {st : Store} (h : RS K ρ H mg st) {p : Addr} {o : HO} {u : PO} (n : H p = none) (q : OR K (ρ.push p) (upd H p o) mg u p) : RS K (ρ.push p) (upd H p o) mg (st ++ [u]) := by
  refine ⟨?_, ?_, fun a ha => ?_, fun i w e => ?_⟩
  · have := h.len
    show ρ.k + (st ++ [u]).length = (ρ.l ++ [p]).length
    simp
    omega
  · show (ρ.l ++ [p]).Nodup
    rw [List.nodup_append]
    refine ⟨h.nd, by simp, fun a ha b hb => ?_⟩
    obtain rfl := List.mem_singleton.mp hb
    exact fun z => h.fresh n (by rw [← z]; exact ha)
  · have ha : a ∈ ρ.l ++ [p] := ha
    rcases List.mem_append.mp ha with ha | ha
    · obtain ⟨v, e, t⟩ := h.kn a ha
      exact ⟨v, by rw [upd_ne (ne_of_none e n)]; exact e, t⟩
    · rw [List.mem_singleton.mp ha]
      exact q.some_
  · have hl := h.len
    by_cases hi : i < st.length
    · rw [List.getElem?_append_left hi] at e
      obtain ⟨a, h1, h2⟩ := h.at_ i w e
      refine ⟨a, ?_, h2.move (h.extC n) fun y r => ?_⟩
      · show (ρ.l ++ [p])[ρ.k + i]? = some a
        rw [List.getElem?_append_left (by omega)]
        exact h1
      · rw [upd_ne (ne_of_none r n)]
        exact r
    · rw [List.getElem?_append_right (by omega)] at e
      have hi2 : i = st.length := by
        cases z : i - st.length with
        | zero => omega
        | succ k => rw [z] at e; simp at e
      subst hi2
      simp at e
      subst e
      refine ⟨p, ?_, q⟩
      show (ρ.l ++ [p])[ρ.k + st.length]? = some p
      rw [hl]
      simp
/-- a cell changed -/
theorem RS.set {st : Store} (h : RS K ρ H mg st) {n : Nat} {p : Addr} {o : HO} {u : PO} (hp : ρ.at_ n = some p) (q : OR K ρ (upd H p o) mg u p) : RS K ρ (upd H p o) mg (st.set n u) := by
  have hp' : ρ.l[ρ.k + n]? = some p := hp
  have hn := (List.getElem?_eq_some_iff.mp hp').1
  have hl := h.len
  refine ⟨by simpa using h.len, h.nd, fun a ha => ?_, fun i w e => ?_⟩
  · by_cases z : a = p
    · rw [z]; exact q.some_
    · rw [upd_ne z]; exact h.kn a ha
  · by_cases hi : n = i
    · subst hi
      rw [List.getElem?_set_self (by omega)] at e
      cases e
      exact ⟨p, hp, q⟩
    · rw [List.getElem?_set_ne hi] at e
      obtain ⟨a, h1, h2⟩ := h.at_ i w e
      have hne : a ≠ p := fun z => by
        subst z
        have h1 : ρ.l[ρ.k + i]? = some a := h1
        obtain ⟨l1, e1⟩ := List.getElem?_eq_some_iff.mp h1
        obtain ⟨l2, e2⟩ := List.getElem?_eq_some_iff.mp hp'
        have := (List.getElem_inj h.nd).mp (e2.trans e1.symm)
        omega
      exact ⟨a, h1, h2.same (fun b hb => upd_ne fun z => hb (by rw [z]; exact Cs.mem_at hp)) (upd_ne hne)⟩
theorem RS.nil : RS K ⟨[], 0⟩ H mg [] := ⟨rfl, List.nodup_nil, fun a ha => (nomatch ha), fun i o e => by simp at e⟩

/-- a dict whose first key is a tuple -/
def tupH : List (PyData × PyData) → Bool
  | (.tuple _, _) :: _ => true
  | _ => false
theorem tupH_dic {ds : List PyData} : ∀ {kvs : List (Key × V)}, tupH ((kvs.map fun p => keyD p.1).zip ds) = false
  | [] => rfl
  | p :: r => by
    cases ds with
    | nil => rfl
    | cons d ds =>
      obtain ⟨k, v⟩ := p
      cases k <;> rfl
/-! ### data as the library reads it -/
theorem DRs.length {ds : List PyData} {vs : List V} (h : DRs K ρ H ds vs) : ds.length = vs.length := by
  induction ds generalizing vs with
  | nil => cases h; rfl
  | cons d ds ih => cases h with | cons h1 h2 => simp [ih h2]
theorem VRs.length {ds : List PV} {vs : List V} (h : VRs K ρ H mg ds vs) : ds.length = vs.length := by
  induction ds generalizing vs with
  | nil => cases h; rfl
  | cons d ds ih => cases h with | cons h1 h2 => simp [ih h2]
theorem tupH_dit {ds : List PyData} {kvs : List (List Key × V)} (h : kvs ≠ []) (q : DRs K ρ H ds (kvs.map (·.2))) : tupH ((kvs.map fun p => PyData.tuple (p.1.map keyD)).zip ds) = true := by
  have l := q.length
  cases kvs with
  | nil => exact absurd rfl h
  | cons p r =>
    cases ds with
    | nil => simp at l
    | cons d ds => rfl
theorem DRs.get {ds : List PyData} {vs : List V} (h : DRs K ρ H ds vs) {i : Nat} {d : PyData} (e : ds[i]? = some d) : ∃ v, vs[i]? = some v ∧ DR K ρ H d v := by
  induction ds generalizing vs i with
  | nil => simp at e
  | cons d ds ih =>
    cases h with
    | cons h1 h2 =>
      cases i with
      | zero => simp at e; subst e; exact ⟨_, rfl, h1⟩
      | succ i => simpa using ih h2 (by simpa using e)
theorem VRs.get {ds : List PV} {vs : List V} (h : VRs K ρ H mg ds vs) {i : Nat} {d : PV} (e : ds[i]? = some d) : ∃ v, vs[i]? = some v ∧ VR K ρ H mg d v := by
  induction ds generalizing vs i with
  | nil => simp at e
  | cons d ds ih =>
    cases h with
    | cons h1 h2 =>
      cases i with
      | zero => simp at e; subst e; exact ⟨_, rfl, h1⟩
      | succ i => simpa using ih h2 (by simpa using e)
theorem DRs.toV {ds : List PyData} {vs : List V} (h : DRs K ρ H ds vs) : VRs K ρ H mg (ds.map .d) vs := by
  induction ds generalizing vs with
  | nil => cases h; exact .nil
  | cons d ds ih => cases h with | cons h1 h2 => exact .cons (.d h1) (ih h2)
theorem VRs.toD {ds : List PyData} {vs : List V} (h : VRs K ρ H mg (ds.map .d) vs) : DRs K ρ H ds vs := by
  induction ds generalizing vs with
  | nil => cases h; exact .nil
  | cons d ds ih =>
    cases h with
    | cons h1 h2 =>
      cases h1 with
      | d h1 => exact .cons h1 (ih h2)
theorem VRs.append {xs ys : List PV} {vs ws : List V} (h : VRs K ρ H mg xs vs) (q : VRs K ρ H mg ys ws) : VRs K ρ H mg (xs ++ ys) (vs ++ ws) := by
  induction xs generalizing vs with
  | nil => cases h; exact q
  | cons d ds ih => cases h with | cons h1 h2 => exact .cons h1 (ih h2)
theorem DRs.append {xs ys : List PyData} {vs ws : List V} (h : DRs K ρ H xs vs) (q : DRs K ρ H ys ws) : DRs K ρ H (xs ++ ys) (vs ++ ws) := by
  induction xs generalizing vs with
  | nil => cases h; exact q
  | cons d ds ih => cases h with | cons h1 h2 => exact .cons h1 (ih h2)
theorem DRs.drop {xs : List PyData} {vs : List V} (n : Nat) (h : DRs K ρ H xs vs) : DRs K ρ H (xs.drop n) (vs.drop n) := by
  induction n generalizing xs vs with
  | zero => exact h
  | succ n ih => cases h with
    | nil => exact .nil
    | cons h1 h2 => exact ih h2
theorem DRs.take {xs : List PyData} {vs : List V} (n : Nat) (h : DRs K ρ H xs vs) : DRs K ρ H (xs.take n) (vs.take n) := by
  induction n generalizing xs vs with
  | zero => exact .nil
  | succ n ih => cases h with
    | nil => exact .nil
    | cons h1 h2 => exact .cons h1 (ih h2)
end

section
variable {X : Cx} {pins : List (Addr × Obj)} {σ : St} {ρ : Cs} {H : Hp} {s : Shared}
mutual
/-- no dict within: the layer's own relation -/
theorem DR.dp : ∀ {d : PyData} {v : V}, d.plain = true → DR X.K ρ H d v → Dp X.K H v d
  | _, _, _, .non => .non
  | _, _, _, .bl b => .bl b
  | _, _, _, .int i => .int i
  | _, _, _, .str x => .str x
  | _, _, p, .lst h q => .lst h.sq (DRs.dp (by simpa [PyData.plain] using p) q)
  | _, _, p, .tup h q => .tup h.sq (DRs.dp (by simpa [PyData.plain] using p) q)
  | _, _, p, .dic h n q => by simp [PyData.plain] at p
  | _, _, p, .dit h z n q => by simp [PyData.plain] at p
theorem DRs.dp : ∀ {ds : List PyData} {vs : List V}, PyData.plainAll ds = true → DRs X.K ρ H ds vs → DpAll X.K H vs ds
  | _, _, _, .nil => .nil
  | _, _, p, .cons h q => by
    simp only [PyData.plainAll, Bool.and_eq_true] at p
    exact .cons (DR.dp p.1 h) (DRs.dp p.2 q)
end
end
end Sr
/-! Readings by what the small evaluator answers: expressions. -/
namespace Sr
open PySem L2

/-- no starred item -/
def noStar : List Expr → Bool
  | [] => true
  | .Starred _ _ :: _ => false
  | _ :: r => noStar r
theorem star_cons {e : Expr} {es : List Expr} {env : Env} (h : noStar (e :: es) = true) : starEach (e :: es) env = (false, eval e env) :: starEach es env ∧ noStar es = true := by
  cases e <;> first | exact ⟨rfl, h⟩ | cases h
theorem star_any {es : List Expr} {env : Env} {pos : Pos} (h : noStar es = true) : (backTo pos (starEach es env)).any (·.1) = false := by
  induction es with
  | nil => rfl
  | cons e es ih =>
    obtain ⟨h1, h2⟩ := star_cons (env := env) h
    rw [h1]
    show (false || (backTo pos (starEach es env)).any (·.1)) = false
    rw [ih h2]
    rfl

abbrev Den := Fr → Store → Res PV
abbrev Dens := Fr → Store → Res (List PV)
abbrev DenT := Fr → Store → Res Bool

section
variable (X : Cx) (E : WX)
def okX (σ : L2.St) (ρ : Cs) (H : Hp) : PX → Store → Prop := fun e st' => ∀ ρ' H' c dx, Ext ρ H ρ' H' → RS X.K ρ' H' X.mg st' → XR X.K ρ' H' X.mg e c dx → E c dx σ H'
def okE (σ : L2.St) (ρ : Cs) (H : Hp) (r : Res PV) (Q : VK) : Prop :=
  r.wp (fun v st' => ∀ ρ' H' x, Ext ρ H ρ' H' → RS X.K ρ' H' X.mg st' → VR X.K ρ' H' X.mg v x → Q x H') (okX X E σ ρ H)
def okEs (σ : L2.St) (ρ : Cs) (H : Hp) (r : Res (List PV)) (Q : List V → Hp → Prop) : Prop :=
  r.wp (fun v st' => ∀ ρ' H' x, Ext ρ H ρ' H' → RS X.K ρ' H' X.mg st' → VRs X.K ρ' H' X.mg v x → Q x H') (okX X E σ ρ H)
def okT (σ : L2.St) (ρ : Cs) (H : Hp) (r : Res Bool) (Q : Bool → Hp → Prop) : Prop :=
  r.wp (fun b st' => ∀ ρ' H', Ext ρ H ρ' H' → RS X.K ρ' H' X.mg st' → Q b H') (okX X E σ ρ H)
structure At (σ : L2.St) (H : Hp) (ρ : Cs) (fr : Fr) (st : Store) : Prop where
  fr : FR X.K ρ H X.mg fr σ
  rs : RS X.K ρ H X.mg st
def tE (d : Den) : TE := fun σ H Q => ∃ ρ fr st, At X σ H ρ fr st ∧ okE X E σ ρ H (d fr st) Q
def tEs (d : Dens) : TA := fun σ H Q => ∃ ρ fr st, At X σ H ρ fr st ∧ okEs X E σ ρ H (d fr st) Q
def tT (d : DenT) : TT := fun σ H Q => ∃ ρ fr st, At X σ H ρ fr st ∧ okT X E σ ρ H (d fr st) Q
end

section
variable {X : Cx} {E : WX} {σ : L2.St} {H H' : Hp} {ρ ρ' : Cs} {fr : Fr} {st st' : Store}
theorem At.step (A : At X σ H ρ fr st) (e : Ext ρ H ρ' H') (r : RS X.K ρ' H' X.mg st') : At X σ H' ρ' fr st' := ⟨A.fr.mono e, r⟩
theorem okX.mono (e : Ext ρ H ρ' H') {x : PX} {st : Store} (h : okX X E σ ρ H x st) : okX X E σ ρ' H' x st := fun ρ2 H2 c dx e2 => h ρ2 H2 c dx (e.trans e2)
theorem okE.mono (e : Ext ρ H ρ' H') {r : Res PV} {Q : VK} (h : okE X E σ ρ H r Q) : okE X E σ ρ' H' r Q :=
  Res.wp_mono h (fun _ _ h ρ2 H2 x e2 => h ρ2 H2 x (e.trans e2)) fun _ _ h => h.mono e
theorem okEs.mono (e : Ext ρ H ρ' H') {r : Res (List PV)} {Q : List V → Hp → Prop} (h : okEs X E σ ρ H r Q) : okEs X E σ ρ' H' r Q :=
  Res.wp_mono h (fun _ _ h ρ2 H2 x e2 => h ρ2 H2 x (e.trans e2)) fun _ _ h => h.mono e
theorem okT.mono (e : Ext ρ H ρ' H') {r : Res Bool} {Q : Bool → Hp → Prop} (h : okT X E σ ρ H r Q) : okT X E σ ρ' H' r Q :=
  Res.wp_mono h (fun _ _ h ρ2 H2 e2 => h ρ2 H2 (e.trans e2)) fun _ _ h => h.mono e
theorem okE.imp {r : Res PV} {Q Q' : VK} (h : okE X E σ ρ H r Q) (k : ∀ x H', Q x H' → Q' x H') : okE X E σ ρ H r Q' :=
  Res.wp_mono h (fun _ _ h ρ2 H2 x e2 r2 v2 => k _ _ (h ρ2 H2 x e2 r2 v2)) fun _ _ h => h
/-- one part, then the rest -/
theorem tE.step {d : Den} {α : Type} {f : PV → Store → Res α} {Q : α → Store → Prop} {R : VK} (A : At X σ H ρ fr st) (h : ((d fr st).bind f).wp Q (okX X E σ ρ H))
    (k : ∀ v st1 ρ1 H1 x, Ext ρ H ρ1 H1 → At X σ H1 ρ1 fr st1 → VR X.K ρ1 H1 X.mg v x → (f v st1).wp Q (okX X E σ ρ1 H1) → R x H1) : tE X E d σ H R := by
  refine ⟨ρ, fr, st, A, Res.wp_mono (Res.wp_bind h) (fun v st1 h1 ρ1 H1 x e1 r1 v1 => ?_) fun _ _ h => h⟩
  exact k v st1 ρ1 H1 x e1 (A.step e1 r1) v1 (Res.wp_mono h1 (fun _ _ q => q) fun _ _ q => q.mono e1)
theorem tEs.step {d : Dens} {α : Type} {f : List PV → Store → Res α} {Q : α → Store → Prop} {R : List V → Hp → Prop} (A : At X σ H ρ fr st) (h : ((d fr st).bind f).wp Q (okX X E σ ρ H))
    (k : ∀ v st1 ρ1 H1 x, Ext ρ H ρ1 H1 → At X σ H1 ρ1 fr st1 → VRs X.K ρ1 H1 X.mg v x → (f v st1).wp Q (okX X E σ ρ1 H1) → R x H1) : tEs X E d σ H R := by
  refine ⟨ρ, fr, st, A, Res.wp_mono (Res.wp_bind h) (fun v st1 h1 ρ1 H1 x e1 r1 v1 => ?_) fun _ _ h => h⟩
  exact k v st1 ρ1 H1 x e1 (A.step e1 r1) v1 (Res.wp_mono h1 (fun _ _ q => q) fun _ _ q => q.mono e1)
theorem tT.step {d : DenT} {α : Type} {f : Bool → Store → Res α} {Q : α → Store → Prop} {R : Bool → Hp → Prop} (A : At X σ H ρ fr st) (h : ((d fr st).bind f).wp Q (okX X E σ ρ H))
    (k : ∀ v st1 ρ1 H1, Ext ρ H ρ1 H1 → At X σ H1 ρ1 fr st1 → (f v st1).wp Q (okX X E σ ρ1 H1) → R v H1) : tT X E d σ H R := by
  refine ⟨ρ, fr, st, A, Res.wp_mono (Res.wp_bind h) (fun v st1 h1 ρ1 H1 e1 r1 => ?_) fun _ _ h => h⟩
  exact k v st1 ρ1 H1 e1 (A.step e1 r1) (Res.wp_mono h1 (fun _ _ q => q) fun _ _ q => q.mono e1)
end

/-! ### constants, names -/
def dC (v : PyData) : Den := fun _ st => .ok (.d v) st
def dVar (i : Nat) : Den := fun fr st => match fr[i]? with
  | some (some v) => .ok v st
  | _ => .bad
section
variable {X : Cx} {E : WX}
theorem se_int {i : Int} {j : Nat} {pos : Pos} : PE X (.Constant (.int i) j pos) (tE X E (dC (.int i))) := by
  refine ⟨fun pins s σ H Q I h => ?_⟩
  obtain ⟨ρ, fr, st, A, h⟩ := h
  exact pe_int.run pins s σ H Q I (h ρ H _ (Ext.refl _ _) A.rs (.d (.int i)))
theorem se_bl {i : Bool} {j : Nat} {pos : Pos} : PE X (.Constant (.bool i) j pos) (tE X E (dC (.bool i))) := by
  refine ⟨fun pins s σ H Q I h => ?_⟩
  obtain ⟨ρ, fr, st, A, h⟩ := h
  exact pe_bl.run pins s σ H Q I (h ρ H _ (Ext.refl _ _) A.rs (.d (.bl i)))
theorem se_str {i : Str} {j : Nat} {pos : Pos} : PE X (.Constant (.str i) j pos) (tE X E (dC (.str i))) := by
  refine ⟨fun pins s σ H Q I h => ?_⟩
  obtain ⟨ρ, fr, st, A, h⟩ := h
  exact pe_str.run pins s σ H Q I (h ρ H _ (Ext.refl _ _) A.rs (.d (.str i)))
theorem se_non {j : Nat} {pos : Pos} : PE X (.Constant .none j pos) (tE X E (dC .none)) := by
  refine ⟨fun pins s σ H Q I h => ?_⟩
  obtain ⟨ρ, fr, st, A, h⟩ := h
  exact pe_non.run pins s σ H Q I (h ρ H _ (Ext.refl _ _) A.rs (.d .non))
theorem se_var {i : Nat} {x : Str} {pos : Pos} (hN : X.N[i]? = some x) (hv : Vis X.env.scope x) (hd : (x == ("__debug__" : Str)) = false) (hcd : (x == ("__classdict__" : Str)) = false) : PE X (.Name x pos) (tE X E (dVar i)) := by
  refine ⟨fun pins s σ H Q I h => ?_⟩
  obtain ⟨ρ, fr, st, A, h⟩ := h
  unfold dVar at h
  split at h
  · rename_i v e
    obtain ⟨x, e1, v1⟩ := A.fr.at_ i v e
    exact (pe_var hN hv hd hcd).run pins s σ H Q I ⟨x, e1, h ρ H x (Ext.refl _ _) A.rs v1⟩
  · exact h.elim
/-- a constant of the module: data whatever the cells are -/
def GlobD (X : Cx) (x : Str) (d : PyData) : Prop := ∃ u v, X.mg x = some u ∧ RelV v u ∧ ∀ ρ H, DR X.K ρ H d v
theorem se_glob {x : Str} {d : PyData} {pos : Pos} (hg : Gl X x) (h1 : GlobD X x d) (hd : (x == ("__debug__" : Str)) = false) : PE X (.Name x pos) (tE X E (dC d)) := by
  refine ⟨fun pins s σ H Q I h => ?_⟩
  obtain ⟨ρ, fr, st, A, h⟩ := h
  obtain ⟨u, v, e, r, q⟩ := h1
  exact (pe_glob hg e r hd).run pins s σ H Q I (h ρ H v (Ext.refl _ _) A.rs (.d (q ρ H)))
def dFn (x : Str) : Den := fun _ st => .ok (.fn x) st
theorem se_fn {x : Str} {a : Addr} {pos : Pos} (hg : Gl X x) (h1 : X.mg x = some (.ref a)) (hd : (x == ("__debug__" : Str)) = false) : PE X (.Name x pos) (tE X E (dFn x)) := by
  refine ⟨fun pins s σ H Q I h => ?_⟩
  obtain ⟨ρ, fr, st, A, h⟩ := h
  exact (pe_glob (v := .ref a) hg h1 rfl hd).run pins s σ H Q I (h ρ H _ (Ext.refl _ _) A.rs (.fn h1))
end

/-! ### argument lists, displays -/
def dNil : Dens := fun _ st => .ok [] st
def dCons (d : Den) (r : Dens) : Dens := fun fr st => (d fr st).bind fun v st1 => (r fr st1).bind fun vs st2 => .ok (v :: vs) st2
/-- all are data -/
def datas : List PV → Option (List PyData)
  | [] => some []
  | .d x :: r => (datas r).map (x :: ·)
  | _ :: _ => none
theorem datas_eq : ∀ {xs : List PV} {ds : List PyData}, datas xs = some ds → xs = ds.map .d
  | [], ds, h => by
    have e : [] = ds := Option.some.inj h
    subst e
    rfl
  | .d x :: r, ds, h => by
    have h' : (datas r).map (x :: ·) = some ds := h
    cases q : datas r with
    | none => rw [q] at h'; cases h'
    | some l =>
      rw [q] at h'
      have e : x :: l = ds := Option.some.inj h'
      subst e
      rw [datas_eq q]
      rfl
  | .cell _ :: _, _, h => by cases h
  | .tup _ :: _, _, h => by cases h
  | .fn _ :: _, _, h => by cases h
@[simp] theorem datas_map (ds : List PyData) : datas (ds.map .d) = some ds := by
  induction ds with
  | nil => rfl
  | cons d ds ih => show (datas (ds.map .d)).map (d :: ·) = _; rw [ih]; rfl
/-- a tuple of these -/
def mkTup (xs : List PV) : PV := match datas xs with
  | some ds => .d (.tuple ds)
  | none => .tup xs
def sizeOk (n : Nat) : Bool := n ≤ 1000000
theorem sizeOk_le {n : Nat} (h : sizeOk n = true) : n ≤ sizeLine := by
  have h' : n ≤ 1000000 := of_decide_eq_true h
  rw [sizeLine_eq]
  omega
def dTup (d : Dens) : Den := fun fr st => (d fr st).bind fun vs st1 => if sizeOk vs.length then .ok (mkTup vs) st1 else .bad
/-- a list that is never changed -/
def dLst (d : Dens) : Den := fun fr st => (d fr st).bind fun vs st1 => match datas vs with
  | some ds => if sizeOk vs.length then .ok (.d (.list ds)) st1 else .bad
  | none => .bad
/-- a list in a cell -/
def dLstC (d : Dens) : Den := fun fr st => (d fr st).bind fun vs st1 => if sizeOk vs.length then .ok (.cell st1.length) (st1 ++ [.lst vs]) else .bad
section
variable {K : PySem.W.Frag} {ρ : Cs} {H : Hp} {mg : Str → Option Value}
theorem VR.mkTup {xs : List PV} {vs : List V} {a : Addr} (h : FzT K ρ H a vs) (q : VRs K ρ H mg xs vs) : VR K ρ H mg (mkTup xs) (.ref a) := by
  unfold Sr.mkTup
  cases e : datas xs with
  | none => exact .tup h q
  | some ds =>
    have e2 := datas_eq e
    subst e2
    exact .d (.tup h q.toD)
/-- a new object that is no cell -/
theorem new_tup {st : Store} {xs : List PV} {vs : List V} {p : Addr} (r : RS K ρ H mg st) (q : VRs K ρ H mg xs vs) (n : H p = none) : VR K ρ (upd H p (.tup vs)) mg (mkTup xs) (.ref p) :=
  .mkTup (.inl ⟨upd_same, r.fresh n⟩) (q.mono (r.ext n))
theorem new_lst {st : Store} {ds : List PyData} {vs : List V} {p : Addr} (r : RS K ρ H mg st) (q : DRs K ρ H ds vs) (n : H p = none) : DR K ρ (upd H p (.lst vs)) (.list ds) (.ref p) :=
  .lst ⟨.inl upd_same, r.fresh n⟩ (q.mono (r.ext n))
theorem RS.cellL {st : Store} {xs : List PV} {vs : List V} {p : Addr} (r : RS K ρ H mg st) (q : VRs K ρ H mg xs vs) (n : H p = none) : RS K (ρ.push p) (upd H p (.lst vs)) mg (st ++ [.lst xs]) :=
  r.cell n ⟨vs, upd_same, q.mono (r.extC n)⟩
theorem RS.cellAt {st : Store} (r : RS K ρ H mg st) {p : Addr} {H' : Hp} : VR K (ρ.push p) H' mg (.cell st.length) (.ref p) := .cell (by show (ρ.l ++ [p])[ρ.k + st.length]? = some p; rw [r.len]; simp)
end
section
variable {X : Cx} {E : WX} {e : Expr} {es : List Expr} {d : Den} {r : Dens} {pos : Pos}
theorem sa_nil : PA X [] (tEs X E dNil) := by
  refine ⟨fun p pins s σ H Q I h => ?_⟩
  obtain ⟨ρ, fr, st, A, h⟩ := h
  exact pa_nil.run p pins s σ H Q I (h ρ H [] (Ext.refl _ _) A.rs .nil)
theorem sa_cons (he : PE X e (tE X E d)) (hr : PA X es (tEs X E r)) (hs : noStar (e :: es) = true) : PA X (e :: es) (tEs X E (dCons d r)) := by
  refine ⟨fun p pins s σ H Q I h => (pa_cons he hr (star_cons hs).1).run p pins s σ H Q I ?_⟩
  obtain ⟨ρ, fr, st, A, h⟩ := h
  refine tE.step A h fun v st1 ρ1 H1 x e1 A1 v1 h1 => ?_
  refine tEs.step A1 h1 fun vs st2 ρ2 H2 xs e2 A2 v2 h2 => ?_
  exact h2 ρ2 H2 _ ((e1.trans e2)) A2.rs (.cons (v1.mono e2) v2)
theorem se_tup {k : Nat} (h : PA X es (tEs X E r)) : PE X (.Tuple es k pos) (tE X E (dTup r)) := by
  refine ⟨fun pins s σ H Q I hq => (pe_tup h).run pins s σ H Q I ?_⟩
  obtain ⟨ρ, fr, st, A, hq⟩ := hq
  refine tEs.step A hq fun vs st1 ρ1 H1 xs e1 A1 v1 h1 => ?_
  split at h1
  · rename_i hz
    exact ⟨by rw [← v1.length]; exact sizeOk_le hz, fun p n => h1 ρ1 _ _ (e1.trans (A1.rs.ext n)) (A1.rs.new n) (new_tup A1.rs v1 n)⟩
  · exact h1.elim
theorem se_lst (h : PA X es (tEs X E r)) : PE X (.List es pos) (tE X E (dLst r)) := by
  refine ⟨fun pins s σ H Q I hq => (pe_lst h).run pins s σ H Q I ?_⟩
  obtain ⟨ρ, fr, st, A, hq⟩ := hq
  refine tEs.step A hq fun vs st1 ρ1 H1 xs e1 A1 v1 h1 => ?_
  cases q : datas vs with
  | none => rw [q] at h1; exact h1.elim
  | some ds =>
    rw [q] at h1
    have e2 := datas_eq q
    subst e2
    dsimp only at h1
    split at h1
    · rename_i hz
      exact ⟨by rw [← v1.length]; exact sizeOk_le hz, fun p n => h1 ρ1 _ _ (e1.trans (A1.rs.ext n)) (A1.rs.new n) (.d (new_lst A1.rs v1.toD n))⟩
    · exact h1.elim
theorem se_lstC (h : PA X es (tEs X E r)) : PE X (.List es pos) (tE X E (dLstC r)) := by
  refine ⟨fun pins s σ H Q I hq => (pe_lst h).run pins s σ H Q I ?_⟩
  obtain ⟨ρ, fr, st, A, hq⟩ := hq
  refine tEs.step A hq fun vs st1 ρ1 H1 xs e1 A1 v1 h1 => ?_
  split at h1
  · rename_i hz
    exact ⟨by rw [← v1.length]; exact sizeOk_le hz, fun p n => h1 (ρ1.push p) _ _ (e1.trans (A1.rs.extC n)) (A1.rs.cellL v1 n) A1.rs.cellAt⟩
  · exact h1.elim
end

/-! ### operations on values -/
abbrev V1 := PV → Store → Option (PV × Store)
abbrev V2 := PV → PV → Store → Option (PV × Store)
abbrev VB := List PV → Store → Option (PV × Store)
def lift {α : Type} : Option (α × Store) → Res α
  | some (v, st) => .ok v st
  | none => .bad
section
variable (X : Cx)
/-- a value and a store as an answer -/
def okV (ρ : Cs) (H : Hp) (r : Option (PV × Store)) (Q : VK) : Prop := match r with
  | some (v, st') => ∀ ρ' H' x, Ext ρ H ρ' H' → RS X.K ρ' H' X.mg st' → VR X.K ρ' H' X.mg v x → Q x H'
  | none => False
def rV1 (f : V1) : V → Hp → VK → Prop := fun x H Q => ∃ ρ st v, RS X.K ρ H X.mg st ∧ VR X.K ρ H X.mg v x ∧ okV X ρ H (f v st) Q
def rV2 (f : V2) : R2 := fun x y H Q => ∃ ρ st v w, RS X.K ρ H X.mg st ∧ VR X.K ρ H X.mg v x ∧ VR X.K ρ H X.mg w y ∧ okV X ρ H (f v w st) Q
def rVB (f : VB) : List V → Hp → VK → Prop := fun xs H Q => ∃ ρ st vs, RS X.K ρ H X.mg st ∧ VRs X.K ρ H X.mg vs xs ∧ okV X ρ H (f vs st) Q
end
theorem okV.of {X : Cx} {E : WX} {σ : L2.St} {ρ0 ρ : Cs} {H0 H : Hp} {r : Option (PV × Store)} {Q : VK} (e : Ext ρ0 H0 ρ H)
    (h : (lift r).wp (fun v st' => ∀ ρ' H' x, Ext ρ0 H0 ρ' H' → RS X.K ρ' H' X.mg st' → VR X.K ρ' H' X.mg v x → Q x H') (okX X E σ ρ H)) : okV X ρ H r Q := by
  cases r with
  | none => exact h
  | some p => exact fun ρ' H' x e2 => h ρ' H' x (e.trans e2)
def dOp (f : V2) (a b : Den) : Den := fun fr st => (a fr st).bind fun v st1 => (b fr st1).bind fun w st2 => lift (f v w st2)
def dUn (f : V1) (a : Den) : Den := fun fr st => (a fr st).bind fun v st1 => lift (f v st1)
def dB (f : VB) (r : Dens) : Den := fun fr st => (r fr st).bind fun vs st1 => lift (f vs st1)
section
variable {X : Cx} {E : WX} {a b c : Expr} {es : List Expr} {da db dc : Den} {r : Dens} {pos : Pos}
theorem tOp_of {f : V2} {σ : L2.St} {H : Hp} {Q : VK} (h : tE X E (dOp f da db) σ H Q) : tOp (rV2 X f) (tE X E da) (tE X E db) σ H Q := by
  obtain ⟨ρ, fr, st, A, h⟩ := h
  refine tE.step A h fun v st1 ρ1 H1 x e1 A1 v1 h1 => ?_
  refine tE.step A1 h1 fun w st2 ρ2 H2 y e2 A2 v2 h2 => ?_
  exact ⟨ρ2, st2, v, w, A2.rs, v1.mono e2, v2, okV.of (e1.trans e2) h2⟩
theorem se_op {op : Operator} {f : V2} (ho : OpR X (binaryOp op) (rV2 X f)) (ha : PE X a (tE X E da)) (hb : PE X b (tE X E db)) : PE X (.BinOp a op b pos) (tE X E (dOp f da db)) :=
  ⟨fun pins s σ H Q I h => (pe_op ho ha hb).run pins s σ H Q I (tOp_of h)⟩
theorem se_cmp {op : CmpOp} {f : V2} (ho : OpR X (compareOp op) (rV2 X f)) (ha : PE X a (tE X E da)) (hb : PE X b (tE X E db)) (hm : behindInMarks op b = false) : PE X (.Compare a [op] [b] pos) (tE X E (dOp f da db)) :=
  ⟨fun pins s σ H Q I h => (pe_cmpR ho ha hb hm).run pins s σ H Q I (tOp_of h)⟩
theorem se_un {op : UnaryOp} {f : V1} (ho : UnR X (unaryOp op) (rV1 X f)) (ha : PE X a (tE X E da)) : PE X (.UnaryOp op a pos) (tE X E (dUn f da)) := by
  refine ⟨fun pins s σ H Q I h => (pe_un ho ha).run pins s σ H Q I ?_⟩
  obtain ⟨ρ, fr, st, A, h⟩ := h
  refine tE.step A h fun v st1 ρ1 H1 x e1 A1 v1 h1 => ?_
  exact ⟨ρ1, st1, v, A1.rs, v1, okV.of e1 h1⟩
theorem tCB_of {f : VB} {σ : L2.St} {H : Hp} {Q : VK} (h : tE X E (dB f r) σ H Q) : tCB (rVB X f) (tEs X E r) σ H Q := by
  obtain ⟨ρ, fr, st, A, h⟩ := h
  refine tEs.step A h fun v st1 ρ1 H1 x e1 A1 v1 h1 => ?_
  exact ⟨ρ1, st1, v, A1.rs, v1, okV.of e1 h1⟩
theorem se_blt {id : String} {x : Str} {p : Pos} {f : VB} (hc : CallR X (.builtin id) (rVB X f)) (hg : Gl X x) (hm : X.mg x = none) (hv : bootBuiltins x = some (.builtin id)) (ha : PA X (a :: es) (tEs X E r))
    (hn : x ≠ "__name__") (hdb : (x == ("__debug__" : Str)) = false) (hs : noStar (a :: es) = true) :
    PE X (.Call (.Name x p) (a :: es) [] pos) (tE X E (dB f r)) :=
  ⟨fun pins s σ H Q I h => (pe_callB hc hg hm hv ha hn hdb (star_cons hs).1 (star_any (star_cons (env := X.env) hs).2)).run pins s σ H Q I (tCB_of h)⟩
theorem se_ty {id : String} {x : Str} {p : Pos} {f : VB} (hc : CallR X (.type id) (rVB X f)) (hg : Gl X x) (hm : X.mg x = none) (hv : bootBuiltins x = some (.type id)) (ha : PA X (a :: es) (tEs X E r))
    (hn : x ≠ "__name__") (hdb : (x == ("__debug__" : Str)) = false) (hs : noStar (a :: es) = true) :
    PE X (.Call (.Name x p) (a :: es) [] pos) (tE X E (dB f r)) :=
  ⟨fun pins s σ H Q I h => (pe_callTy hc hg hm hv ha hn hdb (star_cons hs).1 (star_any (star_cons (env := X.env) hs).2)).run pins s σ H Q I (tCB_of h)⟩
end
end Sr
/-! Truth, tests, conditional expressions, chains. -/
namespace Sr
open PySem L2

def vTru (v : PV) (st : Store) : Option Bool := match v with
  | .d .none => some false
  | .d (.bool b) => some b
  | .d (.int i) => some (i != 0)
  | .d (.str y) => if sizeOk y.length then some (y.length != 0) else none
  | .d (.list xs) => some (!xs.isEmpty)
  | .d (.tuple xs) => some (!xs.isEmpty)
  | .d (.dict xs) => if tupH xs then none else some (!xs.isEmpty)
  | .tup xs => some (!xs.isEmpty)
  | .cell n => match st[n]? with
    | some (.lst xs) => some (!xs.isEmpty)
    | some (.dic kvs) => some (!kvs.isEmpty)
    | _ => none
  | .fn _ => none
theorem isEmpty_drs {K : PySem.W.Frag} {ρ : Cs} {H : Hp} {ds : List PyData} {vs : List V} (h : DRs K ρ H ds vs) : ds.isEmpty = vs.isEmpty := by cases h <;> rfl
theorem isEmpty_vrs {K : PySem.W.Frag} {ρ : Cs} {H : Hp} {mg : Str → Option Value} {ds : List PV} {vs : List V} (h : VRs K ρ H mg ds vs) : ds.isEmpty = vs.isEmpty := by cases h <;> rfl
theorem int_ne0 (n : Nat) : ((n : Int) != 0) = (n != 0) := by
  cases n with
  | zero => rfl
  | succ k => simp [bne]; omega
theorem vTru_ok {K : PySem.W.Frag} {ρ : Cs} {H : Hp} {mg : Str → Option Value} {v : PV} {st : Store} {x : V} {k : Bool} (r : RS K ρ H mg st) (h : VR K ρ H mg v x) (e : vTru v st = some k) : TruV K x H k := by
  cases h with
  | d h =>
    cases h with
    | non => exact (Option.some.inj e).symm
    | bl b => exact (Option.some.inj e).symm
    | int i => exact (Option.some.inj e).symm
    | str y =>
      have e : (if sizeOk y.length then some (y.length != 0) else none) = some k := e
      split at e
      · rename_i hz
        refine ⟨sizeOk_le hz, ?_⟩
        rw [int_ne0]
        exact (Option.some.inj e).symm
      · cases e
    | lst h q =>
      refine .inl ⟨_, h.sq, ?_⟩
      rw [← isEmpty_drs q]
      exact (Option.some.inj e).symm
    | tup h q =>
      refine .inr (.inl ⟨_, h.sq, ?_⟩)
      rw [← isEmpty_drs q]
      exact (Option.some.inj e).symm
    | dic h n q =>
      refine .inr (.inr ⟨_, h, ?_⟩)
      rename_i kvs ds
      have e : (if tupH ((kvs.map fun p => keyD p.1).zip ds) then none else some (!((kvs.map fun p => keyD p.1).zip ds).isEmpty)) = some k := e
      rw [tupH_dic, if_neg (by decide)] at e
      rw [← Option.some.inj e]
      have l := q.length
      cases kvs with
      | nil => rfl
      | cons p r =>
        cases ds with
        | nil => simp at l
        | cons => rfl
    | dit h z n q =>
      rename_i kvs ds
      have e : (if tupH ((kvs.map fun p => PyData.tuple (p.1.map keyD)).zip ds) then none else some (!((kvs.map fun p => PyData.tuple (p.1.map keyD)).zip ds).isEmpty)) = some k := e
      rw [tupH_dit z q, if_pos rfl] at e
      cases e
  | tup h q =>
    refine .inr (.inl ⟨_, h.sq, ?_⟩)
    rw [← isEmpty_vrs q]
    exact (Option.some.inj e).symm
  | fn h => cases e
  | cell h =>
    rename_i n a
    have e : (match st[n]? with
      | some (.lst xs) => some (!xs.isEmpty)
      | some (.dic kvs) => some (!kvs.isEmpty)
      | _ => none) = some k := e
    cases q : st[n]? with
    | none => rw [q] at e; cases e
    | some o =>
      rw [q] at e
      obtain ⟨b, h1, h2⟩ := r.at_ n o q
      rw [h] at h1
      cases h1
      cases o with
      | lst xs =>
        obtain ⟨vs, g1, g2⟩ := h2
        refine .inl ⟨vs, .inl (.inl g1), ?_⟩
        rw [← isEmpty_vrs g2]
        exact (Option.some.inj e).symm
      | dic kvs =>
        obtain ⟨ws, g1, g2⟩ := h2
        refine .inr (.inr ⟨ws, g1, ?_⟩)
        rw [← Option.some.inj e]
        cases g2 <;> rfl
      | _ => cases e

def dTruth (d : Den) : DenT := fun fr st => (d fr st).bind fun v st1 => match vTru v st1 with
  | some k => .ok k st1
  | none => .bad
def dBool (d : DenT) : Den := fun fr st => (d fr st).bind fun b st1 => .ok (.d (.bool b)) st1
def dNotT (d : DenT) : DenT := fun fr st => (d fr st).bind fun b st1 => .ok (!b) st1
def dAndT (a b : DenT) : DenT := fun fr st => (a fr st).bind fun k st1 => if k then b fr st1 else .ok false st1
def dOrT (a b : DenT) : DenT := fun fr st => (a fr st).bind fun k st1 => if k then .ok true st1 else b fr st1
def dAnd (a b : Den) : Den := fun fr st => (a fr st).bind fun v st1 => match vTru v st1 with
  | some true => b fr st1
  | some false => .ok v st1
  | none => .bad
def dOr (a b : Den) : Den := fun fr st => (a fr st).bind fun v st1 => match vTru v st1 with
  | some true => .ok v st1
  | some false => b fr st1
  | none => .bad
def dNot (a : Den) : Den := fun fr st => (a fr st).bind fun v st1 => match vTru v st1 with
  | some k => .ok (.d (.bool (!k))) st1
  | none => .bad
def dIf (c : DenT) (a b : Den) : Den := fun fr st => (c fr st).bind fun k st1 => if k then a fr st1 else b fr st1
/-- expressions whose test is their value's truth -/
def plainTest : Expr → Bool
  | .BoolOp _ _ _ => false
  | .UnaryOp .Not _ _ => false
  | .Compare _ _ _ _ => false
  | .IfExp _ _ _ _ => false
  | .NamedExpr _ _ _ => false
  | .Call _ _ _ _ => true
  | .Name _ _ => true
  | .Subscript _ _ _ => true
  | .Attribute _ _ _ => true
  | _ => false
section
variable {X : Cx} {E : WX} {a b c : Expr} {da db dc : Den} {ta tb : DenT} {rest : List Expr} {pos : Pos}
theorem plainTest_ok (h : plainTest a = true) : ∀ (env : Env) (whole : Sem Value), isTrue a env whole = (do let v ← whole; standAt a.pos; holding [v] (truthy v)) := by
  intro env whole
  cases a <;> first | rfl | cases h | skip
  rename_i op e p
  cases op <;> first | rfl | cases h
theorem st_truth (ha : PE X a (tE X E da)) (hp : plainTest a = true) : PT X a (tT X E (dTruth da)) := by
  refine ⟨fun pins s σ H Q I h => (pt_truth ha (plainTest_ok hp X.env)).run pins s σ H Q I ?_⟩
  obtain ⟨ρ, fr, st, A, h⟩ := h
  refine tE.step A h fun v st1 ρ1 H1 x e1 A1 v1 h1 => ?_
  cases q : vTru v st1 with
  | none => rw [q] at h1; exact h1.elim
  | some k =>
    rw [q] at h1
    exact ⟨k, vTru_ok A1.rs v1 q, h1 ρ1 H1 e1 A1.rs⟩
/-- a bool out of a value -/
def vB (v : PV) : Option Bool := match v with
  | .d (.bool b) => some b
  | _ => none
def dCmpT (d : Den) : DenT := fun fr st => (d fr st).bind fun v st1 => match vB v with
  | some k => .ok k st1
  | none => .bad
theorem st_cmp {op : CmpOp} {f : V2} (ho : OpR X (compareOp op) (rV2 X f)) (ha : PE X a (tE X E da)) (hb : PE X b (tE X E db)) (hm : behindInMarks op b = false) : PT X (.Compare a [op] [b] pos) (tT X E (dCmpT (dOp f da db))) := by
  refine ⟨fun pins s σ H Q I h => (pt_cmpR ho ha hb hm).run pins s σ H Q I ?_⟩
  show tOp (rV2 X f) (tE X E da) (tE X E db) σ H _
  refine tOp_of (E := E) ?_
  obtain ⟨ρ, fr, st, A, h⟩ := h
  refine ⟨ρ, fr, st, A, Res.wp_mono (Res.wp_bind h) (fun v st1 h1 ρ1 H1 x e1 r1 v1 => ?_) fun _ _ q => q⟩
  cases q : vB v with
  | none => rw [q] at h1; exact h1.elim
  | some k =>
    rw [q] at h1
    unfold vB at q
    split at q
    · cases q
      cases v1 with
      | d v1 => cases v1; exact ⟨_, rfl, h1 ρ1 H1 e1 r1⟩
    · cases q
theorem st_not (ha : PT X a (tT X E ta)) : PT X (.UnaryOp .Not a pos) (tT X E (dNotT ta)) := by
  refine ⟨fun pins s σ H Q I h => (pt_not ha).run pins s σ H Q I ?_⟩
  obtain ⟨ρ, fr, st, A, h⟩ := h
  exact tT.step A h fun v st1 ρ1 H1 e1 A1 h1 => h1 ρ1 H1 e1 A1.rs
theorem st_and1 (ha : PT X a (tT X E ta)) : PW X (.BoolOp .And [a] pos) (tT X E ta) := pw_and1 ha
theorem st_or1 (ha : PT X a (tT X E ta)) : PW X (.BoolOp .Or [a] pos) (tT X E ta) := pw_or1 ha
theorem st_and (ha : PT X a (tT X E ta)) (hb : PW X (.BoolOp .And (b :: rest) pos) (tT X E tb)) : PW X (.BoolOp .And (a :: b :: rest) pos) (tT X E (dAndT ta tb)) := by
  refine ⟨fun w pins s σ H Q I h => (pw_and ha hb).run w pins s σ H Q I ?_⟩
  obtain ⟨ρ, fr, st, A, h⟩ := h
  refine tT.step A h fun v st1 ρ1 H1 e1 A1 h1 => ?_
  cases v with
  | true => exact ⟨ρ1, fr, st1, A1, Res.wp_mono h1 (fun _ _ q ρ2 H2 e2 => q ρ2 H2 (e1.trans e2)) fun _ _ q => q⟩
  | false => exact h1 ρ1 H1 e1 A1.rs
theorem st_or (ha : PT X a (tT X E ta)) (hb : PW X (.BoolOp .Or (b :: rest) pos) (tT X E tb)) : PW X (.BoolOp .Or (a :: b :: rest) pos) (tT X E (dOrT ta tb)) := by
  refine ⟨fun w pins s σ H Q I h => (pw_or ha hb).run w pins s σ H Q I ?_⟩
  obtain ⟨ρ, fr, st, A, h⟩ := h
  refine tT.step A h fun v st1 ρ1 H1 e1 A1 h1 => ?_
  cases v with
  | true => exact h1 ρ1 H1 e1 A1.rs
  | false => exact ⟨ρ1, fr, st1, A1, Res.wp_mono h1 (fun _ _ q ρ2 H2 e2 => q ρ2 H2 (e1.trans e2)) fun _ _ q => q⟩
theorem se_one {op : BoolOp} (ha : PE X a (tE X E da)) : PE X (.BoolOp op [a] pos) (tE X E da) := pe_one ha
theorem se_and (ha : PE X a (tE X E da)) (hb : PE X (.BoolOp .And (b :: rest) pos) (tE X E db)) : PE X (.BoolOp .And (a :: b :: rest) pos) (tE X E (dAnd da db)) := by
  refine ⟨fun pins s σ H Q I h => (pe_andT ha hb).run pins s σ H Q I ?_⟩
  obtain ⟨ρ, fr, st, A, h⟩ := h
  refine tE.step A h fun v st1 ρ1 H1 x e1 A1 v1 h1 => ?_
  cases q : vTru v st1 with
  | none => rw [q] at h1; exact h1.elim
  | some k =>
    rw [q] at h1
    refine ⟨k, vTru_ok A1.rs v1 q, ?_⟩
    cases k with
    | true => exact ⟨ρ1, fr, st1, A1, Res.wp_mono h1 (fun _ _ q ρ2 H2 y e2 => q ρ2 H2 y (e1.trans e2)) fun _ _ q => q⟩
    | false => exact h1 ρ1 H1 x e1 A1.rs v1
theorem se_or (ha : PE X a (tE X E da)) (hb : PE X (.BoolOp .Or (b :: rest) pos) (tE X E db)) : PE X (.BoolOp .Or (a :: b :: rest) pos) (tE X E (dOr da db)) := by
  refine ⟨fun pins s σ H Q I h => (pe_orT ha hb).run pins s σ H Q I ?_⟩
  obtain ⟨ρ, fr, st, A, h⟩ := h
  refine tE.step A h fun v st1 ρ1 H1 x e1 A1 v1 h1 => ?_
  cases q : vTru v st1 with
  | none => rw [q] at h1; exact h1.elim
  | some k =>
    rw [q] at h1
    refine ⟨k, vTru_ok A1.rs v1 q, ?_⟩
    cases k with
    | false => exact ⟨ρ1, fr, st1, A1, Res.wp_mono h1 (fun _ _ q ρ2 H2 y e2 => q ρ2 H2 y (e1.trans e2)) fun _ _ q => q⟩
    | true => exact h1 ρ1 H1 x e1 A1.rs v1
theorem se_not (ha : PE X a (tE X E da)) : PE X (.UnaryOp .Not a pos) (tE X E (dNot da)) := by
  refine ⟨fun pins s σ H Q I h => (pe_notT ha).run pins s σ H Q I ?_⟩
  obtain ⟨ρ, fr, st, A, h⟩ := h
  refine tE.step A h fun v st1 ρ1 H1 x e1 A1 v1 h1 => ?_
  cases q : vTru v st1 with
  | none => rw [q] at h1; exact h1.elim
  | some k =>
    rw [q] at h1
    exact ⟨k, vTru_ok A1.rs v1 q, h1 ρ1 H1 _ e1 A1.rs (.d (.bl _))⟩
theorem se_if (hc : PT X c (tT X E ta)) (ha : PE X a (tE X E da)) (hb : PE X b (tE X E db)) : PE X (.IfExp c a b pos) (tE X E (dIf ta da db)) := by
  refine ⟨fun pins s σ H Q I h => (pe_ifExp hc ha hb).run pins s σ H Q I ?_⟩
  obtain ⟨ρ, fr, st, A, h⟩ := h
  refine tT.step A h fun v st1 ρ1 H1 e1 A1 h1 => ?_
  cases v with
  | true => exact ⟨ρ1, fr, st1, A1, Res.wp_mono h1 (fun _ _ q ρ2 H2 y e2 => q ρ2 H2 y (e1.trans e2)) fun _ _ q => q⟩
  | false => exact ⟨ρ1, fr, st1, A1, Res.wp_mono h1 (fun _ _ q ρ2 H2 y e2 => q ρ2 H2 y (e1.trans e2)) fun _ _ q => q⟩
end
end Sr
/-! Chains; statements. -/
namespace Sr
open PySem L2

def dChain (f g : V2) (a b c : Den) : Den := fun fr st => (a fr st).bind fun v st1 => (b fr st1).bind fun w st2 => (lift (f v w st2)).bind fun z st3 => match vB z with
  | some true => (c fr st3).bind fun u st4 => lift (g w u st4)
  | some false => .ok (.d (.bool false)) st3
  | none => .bad
theorem vB_bl {X : Cx} {ρ : Cs} {H : Hp} {z : PV} {x : V} {k : Bool} (h : VR X.K ρ H X.mg z x) (e : vB z = some k) : x = .bl k := by
  unfold vB at e
  split at e
  · cases e
    cases h with
    | d h => cases h; rfl
  · cases e
section
variable {X : Cx} {E : WX} {a b c : Expr} {da db dc : Den} {pos : Pos}
theorem okV.wp {ρ : Cs} {H : Hp} {r : Option (PV × Store)} {Q : PV → Store → Prop} {W : PX → Store → Prop} (h : (lift r).wp Q W) : match r with | some (v, st) => Q v st | none => False := by
  cases r with
  | none => exact h
  | some p => exact h
theorem tChain_of {f g : V2} {σ : L2.St} {H : Hp} {Q : VK} (h : tE X E (dChain f g da db dc) σ H Q) : tChain (rV2 X f) (rV2 X g) (tE X E da) (tE X E db) (tE X E dc) σ H Q := by
  obtain ⟨ρ, fr, st, A, h⟩ := h
  refine tE.step A h fun v st1 ρ1 H1 x e1 A1 v1 h1 => ?_
  refine tE.step A1 h1 fun w st2 ρ2 H2 y e2 A2 v2 h2 => ?_
  refine ⟨ρ2, st2, v, w, A2.rs, v1.mono e2, v2, ?_⟩
  have h3 := Res.wp_bind h2
  cases q : f v w st2 with
  | none => rw [q] at h3; exact h3.elim
  | some p =>
    obtain ⟨z, st3⟩ := p
    rw [q] at h3
    intro ρ3 H3 zz e3 r3 vz
    have h3 : (match vB z with
      | some true => (dc fr st3).bind fun u st4 => lift (g w u st4)
      | some false => .ok (.d (.bool false)) st3
      | none => .bad).wp _ _ := h3
    cases qb : vB z with
    | none => rw [qb] at h3; exact h3.elim
    | some k =>
      rw [qb] at h3
      refine ⟨k, vB_bl vz qb, ?_⟩
      have A3 := A2.step e3 r3
      cases k with
      | false => exact h3 ρ3 H3 _ ((e1.trans e2).trans e3) r3 (.d (.bl false))
      | true =>
        have h4 : ((dc fr st3).bind fun u st4 => lift (g w u st4)).wp _ (okX X E σ ρ3 H3) := Res.wp_mono h3 (fun _ _ q => q) fun _ _ q => q.mono e3
        refine tE.step A3 h4 fun u st4 ρ4 H4 xu e4 A4 vu h5 => ?_
        exact ⟨ρ4, st4, w, u, A4.rs, (v2.mono e3).mono e4, vu, okV.of (((e1.trans e2).trans e3).trans e4) h5⟩
theorem se_chain {op op' : CmpOp} {f g : V2} (ho : OpR X (compareOp op) (rV2 X f)) (ho' : OpR X (compareOp op') (rV2 X g)) (ha : PE X a (tE X E da)) (hb : PE X b (tE X E db)) (hc : PE X c (tE X E dc)) (hm : lastMarks [op, op'] [b, c] = false) :
    PE X (.Compare a [op, op'] [b, c] pos) (tE X E (dChain f g da db dc)) := ⟨fun pins s σ H Q I h => (pe_chain ho ho' ha hb hc hm).run pins s σ H Q I (tChain_of h)⟩
theorem st_chain {op op' : CmpOp} {f g : V2} (ho : OpR X (compareOp op) (rV2 X f)) (ho' : OpR X (compareOp op') (rV2 X g)) (ha : PE X a (tE X E da)) (hb : PE X b (tE X E db)) (hc : PE X c (tE X E dc)) (hm : lastMarks [op, op'] [b, c] = false) :
    PT X (.Compare a [op, op'] [b, c] pos) (tT X E (dCmpT (dChain f g da db dc))) := by
  refine ⟨fun pins s σ H Q I h => (pt_chain ho ho' ha hb hc hm).run pins s σ H Q I ?_⟩
  show tChain (rV2 X f) (rV2 X g) (tE X E da) (tE X E db) (tE X E dc) σ H _
  refine tChain_of ?_
  obtain ⟨ρ, fr, st, A, h⟩ := h
  refine ⟨ρ, fr, st, A, Res.wp_mono (Res.wp_bind h) (fun v st1 h1 ρ1 H1 x e1 r1 v1 => ?_) fun _ _ q => q⟩
  cases q : vB v with
  | none => rw [q] at h1; exact h1.elim
  | some k =>
    rw [q] at h1
    exact ⟨k, vB_bl v1 q, h1 ρ1 H1 e1 r1⟩
end

/-! ### statements -/
inductive RO where
  | nx (fr : Fr) (st : Store)
  | rt (v : PV) (st : Store)
  | bk (fr : Fr) (st : Store)
  | ct (fr : Fr) (st : Store)
  | ex (e : PX) (fr : Fr) (st : Store)
  | bad
abbrev DS := Fr → Store → RO
section
variable (X : Cx) (E : WX)
def okS (ρ : Cs) (H : Hp) (r : RO) (D : Ends) : Prop := match r with
  | .nx fr' st' => ∀ ρ' H' σ', Ext ρ H ρ' H' → At X σ' H' ρ' fr' st' → D.nx σ' H'
  | .bk fr' st' => ∀ ρ' H' σ', Ext ρ H ρ' H' → At X σ' H' ρ' fr' st' → D.bk σ' H'
  | .ct fr' st' => ∀ ρ' H' σ', Ext ρ H ρ' H' → At X σ' H' ρ' fr' st' → D.ct σ' H'
  | .rt v st' => ∀ ρ' H' x, Ext ρ H ρ' H' → RS X.K ρ' H' X.mg st' → VR X.K ρ' H' X.mg v x → D.rt x H'
  | .ex e fr' st' => ∀ ρ' H' σ' c dx, Ext ρ H ρ' H' → At X σ' H' ρ' fr' st' → XR X.K ρ' H' X.mg e c dx → E c dx σ' H'
  | .bad => False
def tS (d : DS) : TS := fun D σ H => ∃ ρ fr st, At X σ H ρ fr st ∧ okS X E ρ H (d fr st) D
end
def ofR {α : Type} (fr : Fr) (r : Res α) (k : α → Store → RO) : RO := match r with
  | .ok a st => k a st
  | .exc e st => .ex e fr st
  | .bad => .bad
section
variable {X : Cx} {E : WX} {σ : L2.St} {H H' : Hp} {ρ ρ' : Cs} {fr : Fr} {st st' : Store}
theorem okS.mono (e : Ext ρ H ρ' H') {r : RO} {D : Ends} (h : okS X E ρ H r D) : okS X E ρ' H' r D := by
  cases r with
  | nx fr st => exact fun ρ2 H2 σ2 e2 => h ρ2 H2 σ2 (e.trans e2)
  | bk fr st => exact fun ρ2 H2 σ2 e2 => h ρ2 H2 σ2 (e.trans e2)
  | ct fr st => exact fun ρ2 H2 σ2 e2 => h ρ2 H2 σ2 (e.trans e2)
  | rt v st => exact fun ρ2 H2 x e2 => h ρ2 H2 x (e.trans e2)
  | ex x fr st => exact fun ρ2 H2 σ2 c dx e2 => h ρ2 H2 σ2 c dx (e.trans e2)
  | bad => exact h
theorem okS_ofR {α : Type} {r : Res α} {k : α → Store → RO} {D : Ends} (h : okS X E ρ H (ofR fr r k) D) (F : FR X.K ρ H X.mg fr σ) : r.wp (fun a st => okS X E ρ H (k a st) D) (okX X E σ ρ H) := by
  cases r with
  | ok a st => exact h
  | exc e st => exact fun ρ2 H2 c dx e2 r2 => h ρ2 H2 σ c dx e2 ⟨F.mono e2, r2⟩
  | bad => exact h
theorem tE.stepS {d : Den} {f : PV → Store → RO} {D : Ends} {R : VK} (A : At X σ H ρ fr st) (h : okS X E ρ H (ofR fr (d fr st) f) D)
    (k : ∀ v st1 ρ1 H1 x, Ext ρ H ρ1 H1 → At X σ H1 ρ1 fr st1 → VR X.K ρ1 H1 X.mg v x → okS X E ρ1 H1 (f v st1) D → R x H1) : tE X E d σ H R :=
  ⟨ρ, fr, st, A, Res.wp_mono (okS_ofR h A.fr) (fun v st1 h1 ρ1 H1 x e1 r1 v1 => k v st1 ρ1 H1 x e1 (A.step e1 r1) v1 (h1.mono e1)) fun _ _ h => h⟩
theorem tT.stepS {d : DenT} {f : Bool → Store → RO} {D : Ends} {R : Bool → Hp → Prop} (A : At X σ H ρ fr st) (h : okS X E ρ H (ofR fr (d fr st) f) D)
    (k : ∀ v st1 ρ1 H1, Ext ρ H ρ1 H1 → At X σ H1 ρ1 fr st1 → okS X E ρ1 H1 (f v st1) D → R v H1) : tT X E d σ H R :=
  ⟨ρ, fr, st, A, Res.wp_mono (okS_ofR h A.fr) (fun v st1 h1 ρ1 H1 e1 r1 => k v st1 ρ1 H1 e1 (A.step e1 r1) (h1.mono e1)) fun _ _ h => h⟩
end
def sNext : DS := fun fr st => .nx fr st
def sSeq (a b : DS) : DS := fun fr st => match a fr st with
  | .nx fr1 st1 => b fr1 st1
  | r => r
def sIf (c : DenT) (a b : DS) : DS := fun fr st => ofR fr (c fr st) fun k st1 => if k then a fr st1 else b fr st1
def sRet (d : Den) : DS := fun fr st => ofR fr (d fr st) fun v st1 => .rt v st1
def sRetN : DS := fun fr st => .rt (.d .none) st
def sExpr (d : Den) : DS := fun fr st => ofR fr (d fr st) fun _ st1 => .nx fr st1
def sBreak : DS := fun fr st => .bk fr st
def sCont : DS := fun fr st => .ct fr st
def sSet (i : Nat) (d : Den) : DS := fun fr st => ofR fr (d fr st) fun v st1 => .nx (fr.set i (some v)) st1
section
variable {X : Cx} {E : WX} {e c : Expr} {stm : Stmt} {rest body orelse : List Stmt} {d : Den} {dt : DenT} {a b : DS} {pos : Pos}
theorem ss_nil : PSs X [] (tS X E sNext) := by
  refine ⟨fun pins s σ H D I h => pss_nil.run pins s σ H D I ?_⟩
  obtain ⟨ρ, fr, st, A, h⟩ := h
  exact h ρ H σ (Ext.refl _ _) A
theorem ss_cons (h1 : PS X stm (tS X E a)) (h2 : PSs X rest (tS X E b)) : PSs X (stm :: rest) (tS X E (sSeq a b)) := by
  refine ⟨fun pins s σ H D I h => (pss_cons h1 h2).run pins s σ H D I ?_⟩
  obtain ⟨ρ, fr, st, A, h⟩ := h
  refine ⟨ρ, fr, st, A, ?_⟩
  unfold sSeq at h
  cases q : a fr st with
  | nx fr1 st1 => rw [q] at h; exact fun ρ1 H1 σ1 e1 A1 => ⟨ρ1, fr1, st1, A1, h.mono e1⟩
  | rt v st1 => rw [q] at h; exact h
  | bk fr1 st1 => rw [q] at h; exact h
  | ct fr1 st1 => rw [q] at h; exact h
  | ex x fr1 st1 => rw [q] at h; exact h
  | bad => rw [q] at h; exact h
theorem ss_pass : PS X (.Pass pos) (tS X E sNext) := by
  refine ⟨fun pins s σ H D I h => ps_pass.run pins s σ H D I ?_⟩
  obtain ⟨ρ, fr, st, A, h⟩ := h
  exact h ρ H σ (Ext.refl _ _) A
theorem ss_break : PS X (.Break pos) (tS X E sBreak) := by
  refine ⟨fun pins s σ H D I h => ps_break.run pins s σ H D I ?_⟩
  obtain ⟨ρ, fr, st, A, h⟩ := h
  exact h ρ H σ (Ext.refl _ _) A
theorem ss_cont : PS X (.Continue pos) (tS X E sCont) := by
  refine ⟨fun pins s σ H D I h => ps_continue.run pins s σ H D I ?_⟩
  obtain ⟨ρ, fr, st, A, h⟩ := h
  exact h ρ H σ (Ext.refl _ _) A
theorem ss_expr (he : PE X e (tE X E d)) (hs : swapsWith e none pos.line X.env = pure false) : PS X (.Expr e pos) (tS X E (sExpr d)) := by
  refine ⟨fun pins s σ H D I h => (ps_expr he hs).run pins s σ H D I ?_⟩
  obtain ⟨ρ, fr, st, A, h⟩ := h
  exact tE.stepS A h fun v st1 ρ1 H1 x e1 A1 v1 h1 => h1 ρ1 H1 σ (Ext.refl _ _) A1
theorem ss_ret (he : PE X e (tE X E d)) : PS X (.Return (some e) pos) (tS X E (sRet d)) := by
  refine ⟨fun pins s σ H D I h => (ps_ret he).run pins s σ H D I ?_⟩
  obtain ⟨ρ, fr, st, A, h⟩ := h
  exact tE.stepS A h fun v st1 ρ1 H1 x e1 A1 v1 h1 => h1 ρ1 H1 x (Ext.refl _ _) A1.rs v1
theorem ss_retN : PS X (.Return none pos) (tS X E sRetN) := by
  refine ⟨fun pins s σ H D I h => ps_retN.run pins s σ H D I ?_⟩
  obtain ⟨ρ, fr, st, A, h⟩ := h
  exact h ρ H _ (Ext.refl _ _) A.rs (.d .non)
theorem ss_if (hc : PT X c (tT X E dt)) (ha : PSs X body (tS X E a)) (hb : PSs X orelse (tS X E b)) : PS X (.If c body orelse pos) (tS X E (sIf dt a b)) := by
  refine ⟨fun pins s σ H D I h => (ps_if hc ha hb).run pins s σ H D I ?_⟩
  obtain ⟨ρ, fr, st, A, h⟩ := h
  refine tT.stepS A h fun v st1 ρ1 H1 e1 A1 h1 => ?_
  cases v with
  | true => exact ⟨ρ1, fr, st1, A1, h1⟩
  | false => exact ⟨ρ1, fr, st1, A1, h1⟩
theorem FR.set {K : PySem.W.Frag} {ρ : Cs} {H : Hp} {mg : Str → Option Value} {fr : Fr} {σ : L2.St} (F : FR K ρ H mg fr σ) (i : Nat) {v : PV} {x : V} (h : VR K ρ H mg v x) : FR K ρ H mg (fr.set i (some v)) (σ.set i (some x)) := by
  refine ⟨by simp [F.len], fun j y e => ?_⟩
  by_cases hij : i = j
  · subst hij
    by_cases hi : i < fr.length
    · rw [List.getElem?_set_self hi] at e
      cases e
      exact ⟨x, by rw [List.getElem?_set_self (by rw [← F.len]; exact hi)], h⟩
    · rw [List.getElem?_eq_none (by simpa using hi)] at e
      cases e
  · rw [List.getElem?_set_ne hij] at e
    obtain ⟨v', h1, h2⟩ := F.at_ j y e
    exact ⟨v', by rw [List.getElem?_set_ne hij]; exact h1, h2⟩
theorem ss_set {i : Nat} {x : Str} {pos' : Pos} (hN : X.N.Nodup) (hi : X.N[i]? = some x) (hx : Loc X.env.scope x) (he : PE X e (tE X E d)) (hs : swapsWith e (some (.Name x pos')) pos.line X.env = pure false) (hf : X.fn x = true ∨ X.env.scope.names.lookup x = some .local) :
    PS X (.Assign [.Name x pos'] e pos) (tS X E (sSet i d)) := by
  refine ⟨fun pins s σ H D I h => (ps_set hN hi hx he hs hf).run pins s σ H D I ?_⟩
  obtain ⟨ρ, fr, st, A, h⟩ := h
  exact tE.stepS A h fun v st1 ρ1 H1 x e1 A1 v1 h1 => h1 ρ1 H1 _ (Ext.refl _ _) ⟨A1.fr.set i v1, A1.rs⟩
end

/-! ### targets -/
abbrev DG := PV → Fr → Store → Option (Fr × Store)
abbrev DGs := List PV → Fr → Store → Option (Fr × Store)
section
variable (X : Cx)
def okG (ρ : Cs) (H : Hp) (r : Option (Fr × Store)) (Q : L2.St → Hp → Prop) : Prop := match r with
  | some (fr', st') => ∀ ρ' H' σ', Ext ρ H ρ' H' → At X σ' H' ρ' fr' st' → Q σ' H'
  | none => False
def tG (g : DG) : TG := fun x σ H Q => ∃ ρ fr st v, At X σ H ρ fr st ∧ VR X.K ρ H X.mg v x ∧ okG X ρ H (g v fr st) Q
def tGs (g : DGs) : TGs := fun xs σ H Q => ∃ ρ fr st vs, At X σ H ρ fr st ∧ VRs X.K ρ H X.mg vs xs ∧ okG X ρ H (g vs fr st) Q
end
def gSlot (i : Nat) : DG := fun v fr st => some (fr.set i (some v), st)
def gsNil : DGs := fun vs fr st => match vs with
  | [] => some (fr, st)
  | _ => none
def gsCons (g : DG) (r : DGs) : DGs := fun vs fr st => match vs with
  | [] => none
  | v :: vs => match g v fr st with
    | some (fr1, st1) => r vs fr1 st1
    | none => none
/-- the items of a tuple -/
def tupItems (v : PV) : Option (List PV) := match v with
  | .d (.tuple ds) => some (ds.map .d)
  | .tup xs => some xs
  | _ => none
def gTupl (n : Nat) (r : DGs) : DG := fun v fr st => match tupItems v with
  | some xs => if xs.length = n then r xs fr st else none
  | none => none
theorem tupItems_ok {K : PySem.W.Frag} {ρ : Cs} {H : Hp} {mg : Str → Option Value} {v : PV} {x : V} {xs : List PV} (h : VR K ρ H mg v x) (e : tupItems v = some xs) : ∃ a vs, x = .ref a ∧ FzT K ρ H a vs ∧ VRs K ρ H mg xs vs := by
  cases h with
  | d h =>
    cases h with
    | tup h q =>
      have e2 := Option.some.inj e
      subst e2
      exact ⟨_, _, rfl, h, q.toV⟩
    | _ => cases e
  | tup h q =>
    have e2 := Option.some.inj e
    subst e2
    exact ⟨_, _, rfl, h, q⟩
  | cell h => cases e
  | fn h => cases e
section
variable {X : Cx} {E : WX} {e : Expr} {es : List Expr} {g : DG} {r : DGs} {d : Den} {pos : Pos}
theorem okG.mono {ρ ρ' : Cs} {H H' : Hp} (e : Ext ρ H ρ' H') {r : Option (Fr × Store)} {Q : L2.St → Hp → Prop} (h : okG X ρ H r Q) : okG X ρ' H' r Q := by
  cases r with
  | none => exact h
  | some p => exact fun ρ2 H2 σ2 e2 => h ρ2 H2 σ2 (e.trans e2)
theorem sg_slot {i : Nat} {x : Str} (hN : X.N.Nodup) (hi : X.N[i]? = some x) (hx : Loc X.env.scope x) (hf : X.fn x = true ∨ X.env.scope.names.lookup x = some .local) : PG X (.Name x pos) (tG X (gSlot i)) := by
  refine ⟨fun pins s σ H v u Q I rx h => (pg_name hN hi hx hf).run pins s σ H v u Q I rx ?_⟩
  obtain ⟨ρ, fr, st, w, A, vw, h⟩ := h
  exact h ρ H _ (Ext.refl _ _) ⟨A.fr.set i vw, A.rs⟩
theorem sgs_nil : PGs X [] (tGs X gsNil) := by
  refine ⟨fun pins s σ H vs us Q I rx h => pgs_nil.run pins s σ H vs us Q I rx ?_⟩
  obtain ⟨ρ, fr, st, w, A, vw, h⟩ := h
  cases vw with
  | nil => exact ⟨rfl, h ρ H σ (Ext.refl _ _) A⟩
  | cons h1 h2 => exact h.elim
theorem sgs_cons (h1 : PG X e (tG X g)) (h2 : PGs X es (tGs X r)) (hs : (assignEach (e :: es) X.env).map (·.2) = assign e X.env :: (assignEach es X.env).map (·.2)) : PGs X (e :: es) (tGs X (gsCons g r)) := by
  refine ⟨fun pins s σ H vs us Q I rx h => (pgs_cons h1 h2 hs).run pins s σ H vs us Q I rx ?_⟩
  obtain ⟨ρ, fr, st, w, A, vw, h⟩ := h
  cases vw with
  | nil => exact h.elim
  | cons q1 q2 =>
    rename_i w x ws vs
    refine ⟨x, vs, rfl, ρ, fr, st, w, A, q1, ?_⟩
    have h : okG X ρ H (match g w fr st with
      | some (fr1, st1) => r ws fr1 st1
      | none => none) Q := h
    cases q : g w fr st with
    | none => rw [q] at h; exact h.elim
    | some p =>
      rw [q] at h
      exact fun ρ1 H1 σ1 e1 A1 => ⟨ρ1, p.1, p.2, ws, A1, q2.mono e1, okG.mono e1 h⟩
theorem sg_tup {k n : Nat} (hc : X.calm = true) (h : PGs X es (tGs X r)) (hn : (assignEach es X.env).length = n) (hst : (assignEach es X.env).findIdx? (·.1) = none) : PG X (.Tuple es k pos) (tG X (gTupl n r)) := by
  refine ⟨fun pins s σ H v u Q I rx hq => (pg_tup hc h hn hst).run pins s σ H v u Q I rx ?_⟩
  obtain ⟨ρ, fr, st, w, A, vw, hq⟩ := hq
  unfold gTupl at hq
  cases q : tupItems w with
  | none => rw [q] at hq; exact hq.elim
  | some xs =>
    rw [q] at hq
    dsimp only at hq
    split at hq
    · rename_i hl
      obtain ⟨a, vs, rfl, h1, h2⟩ := tupItems_ok vw q
      exact ⟨a, vs, rfl, h1.sq, by rw [← h2.length, hl], ρ, fr, st, xs, A, h2, hq⟩
    · exact hq.elim
/-- target = e -/
def sAsg (d : Den) (g : DG) : DS := fun fr st => ofR fr (d fr st) fun v st1 => match g v fr st1 with
  | some (fr2, st2) => .nx fr2 st2
  | none => .bad
theorem ss_asg {tg : Expr} (he : PE X e (tE X E d)) (hg : PG X tg (tG X g)) (hs : swapsWithSole [tg] e pos.line X.env = pure false) (hw : swappedStores [tg] e X.env = pure none)
    (h1 : (assignEach [tg] X.env).map (·.2) = [assign tg X.env]) : PS X (.Assign [tg] e pos) (tS X E (sAsg d g)) := by
  refine ⟨fun pins s σ H D I h => (ps_asg he hg hs hw h1).run pins s σ H D I ?_⟩
  obtain ⟨ρ, fr, st, A, h⟩ := h
  refine tE.stepS A h fun v st1 ρ1 H1 x e1 A1 v1 h1 => ?_
  refine ⟨ρ1, fr, st1, v, A1, v1, ?_⟩
  cases q : g v fr st1 with
  | none => rw [q] at h1; exact h1.elim
  | some p => rw [q] at h1; exact h1
end
end Sr
/-! What is walked; for; comprehensions. -/
namespace Sr
open PySem L2

/-- what a for walks: values that stay, or a cell's list as it stands at each turn -/
inductive Src where
  | vals (xs : List PV)
  | live (n : Nat) (fuel : Nat) (num : Bool)
/-- the item of a turn: none: it is not known; some none: there is no further one -/
def Src.item (s : Src) (i : Nat) (st : Store) : Option (Option PV) := match s with
  | .vals xs => some xs[i]?
  | .live n _ false => match st[n]? with
    | some (.lst ys) => some ys[i]?
    | _ => none
  | .live n _ true => match st[n]? with
    | some (.lst ys) => some (ys[i]?.map fun y => mkTup [.d (.int (i : Nat)), y])
    | _ => none
abbrev DI := Fr → Store → Res Src

/-- an address forgotten -/
def del (H : Hp) : Option Addr → Hp
  | none => H
  | some D => fun b => if b = D then none else H b
theorem del_some {H : Hp} {D : Option Addr} {a : Addr} {o : HO} (h : del H D a = some o) : H a = some o := by
  cases D with
  | none => exact h
  | some d =>
    have h : (if a = d then none else H a) = some o := h
    split at h
    · cases h
    · exact h
theorem del_self {H : Hp} {d : Addr} : del H (some d) d = none := if_pos rfl
theorem del_ne {H : Hp} {d a : Addr} (h : a ≠ d) : del H (some d) a = H a := if_neg h
theorem sqL_del {K : PySem.W.Frag} {H : Hp} {D : Option Addr} {a : Addr} {vs : List V} (h : SqL K (del H D) a vs) : SqL K H a vs := by
  rcases h with (h | ⟨o, h⟩) | h
  · exact .inl (.inl (del_some h))
  · exact .inl (.inr ⟨o, del_some h⟩)
  · exact .inr h
theorem sqT_del {K : PySem.W.Frag} {H : Hp} {D : Option Addr} {a : Addr} {vs : List V} (h : SqT K (del H D) a vs) : SqT K H a vs := by
  rcases h with (h | ⟨o, h⟩) | h
  · exact .inl (.inl (del_some h))
  · exact .inl (.inr ⟨o, del_some h⟩)
  · exact .inr h
theorem del_upd {H : Hp} {D : Option Addr} {T : Addr} {o : HO} (h : ∀ d, D = some d → T ≠ d) : del (upd H T o) D = upd (del H D) T o := by
  cases D with
  | none => rfl
  | some d =>
    funext b
    show (if b = d then none else upd H T o b) = (if b = T then some o else del H (some d) b)
    by_cases h1 : b = T
    · subst h1
      rw [if_neg (h d rfl), if_pos rfl, upd_same]
    · rw [if_neg h1, upd_ne h1]
      rfl
/-- J walks the source from (ρ0, H0) on; D: an address that the source does not know -/
def Wk (X : Cx) (J : It) (s : Src) (ρ0 : Cs) (H0 : Hp) : Prop := ∀ (i : Nat) (ρ : Cs) (H : Hp) (D : Option Addr) (st : Store), (∀ d, D = some d → ∃ o, H d = some o) → Ext ρ0 H0 ρ (del H D) → RS X.K ρ (del H D) X.mg st →
  (∀ v, s.item i st = some (some v) → J.go i H ∧ ∀ x H', J.yld i H x H' → Ext ρ (del H D) ρ (del H' D) ∧ RS X.K ρ (del H' D) X.mg st ∧ VR X.K ρ (del H' D) X.mg v x ∧ ∀ d, D = some d → H' d = H d) ∧ (s.item i st = some none → J.stop i H)
def tI (X : Cx) (E : WX) (d : DI) : TI := fun σ H R => ∃ ρ fr st, At X σ H ρ fr st ∧
  (d fr st).wp (fun s st' => ∀ ρ' H' J, Ext ρ H ρ' H' → RS X.K ρ' H' X.mg st' → Wk X J s ρ' H' → R J H') (okX X E σ ρ H)

/-! ### the sources -/
/-- the items of a value that is walked: a list, a tuple, a text, a cell -/
def srcOf (v : PV) (st : Store) : Option Src := match v with
  | .d (.list ds) => some (.vals (ds.map .d))
  | .d (.tuple ds) => some (.vals (ds.map .d))
  | .tup xs => some (.vals xs)
  | .d (.str x) => some (.vals (x.cps.toList.map fun c => .d (.str ⟨#[c]⟩)))
  | .cell n => match st[n]? with
    | some (.lst ys) => some (.live n (ys.length + 1) false)
    | _ => none
  | _ => none
def dIt (d : Den) : DI := fun fr st => (d fr st).bind fun v st1 => match srcOf v st1 with
  | some s => .ok s st1
  | none => .bad
section
variable {X : Cx} {E : WX} {e tg : Expr} {d : Den} {pos : Pos}
theorem PI.or {w1 w2 : TI} (h1 : PI X tg e w1) (h2 : PI X tg e w2) : PI X tg e (fun σ H R => w1 σ H R ∨ w2 σ H R) := by
  refine ⟨fun pins s σ H R I h => ?_⟩
  rcases h with h | h
  · exact h1.run pins s σ H R I h
  · exact h2.run pins s σ H R I h
theorem vals_item {xs : List PV} {i : Nat} {st : Store} {v : PV} (h : (Src.vals xs).item i st = some (some v)) : xs[i]? = some v := Option.some.inj h
theorem vals_stop {xs : List PV} {i : Nat} {st : Store} (h : (Src.vals xs).item i st = some none) : xs.length ≤ i := by
  have h2 : xs[i]? = none := Option.some.inj h
  exact List.getElem?_eq_none_iff.mp h2
theorem wk_list {ρ0 : Cs} {H0 : Hp} {a : Addr} {vs : List V} {xs : List PV} (h : FzL ρ0 H0 a vs) (q : VRs X.K ρ0 H0 X.mg xs vs) : Wk X (Itl X.K a) (.vals xs) ρ0 H0 := by
  intro i ρ H D st hD e r
  have sq := sqL_del (K := X.K) (h.mono e).sq
  refine ⟨fun v hv => ?_, fun hs => ⟨vs, sq, by rw [← q.length]; exact vals_stop hs⟩⟩
  obtain ⟨x, hx, rx⟩ := q.get (vals_item hv)
  refine ⟨⟨vs, x, sq, hx⟩, fun y H' hy => ?_⟩
  obtain ⟨e1, hy⟩ := hy
  subst e1
  have e2 := Option.some.inj ((hy vs sq).symm.trans hx)
  subst e2
  exact ⟨Ext.refl _ _, r, rx.mono e, fun _ _ => rfl⟩
theorem wk_tup {ρ0 : Cs} {H0 : Hp} {a : Addr} {vs : List V} {xs : List PV} (h : FzT X.K ρ0 H0 a vs) (q : VRs X.K ρ0 H0 X.mg xs vs) : Wk X (Itt X.K a) (.vals xs) ρ0 H0 := by
  intro i ρ H D st hD e r
  have sq := sqT_del (h.mono e).sq
  refine ⟨fun v hv => ?_, fun hs => ⟨vs, sq, by rw [← q.length]; exact vals_stop hs⟩⟩
  obtain ⟨x, hx, rx⟩ := q.get (vals_item hv)
  refine ⟨⟨vs, x, sq, hx⟩, fun y H' hy => ?_⟩
  obtain ⟨e1, hy⟩ := hy
  subst e1
  have e2 := Option.some.inj ((hy vs sq).symm.trans hx)
  subst e2
  exact ⟨Ext.refl _ _, r, rx.mono e, fun _ _ => rfl⟩
theorem wk_str {ρ0 : Cs} {H0 : Hp} {x : Str} : Wk X (Its x) (.vals (x.cps.toList.map fun c => .d (.str ⟨#[c]⟩))) ρ0 H0 := by
  intro i ρ H D st hD e r
  refine ⟨fun v hv => ?_, fun hs => ?_⟩
  · have h := vals_item hv
    rw [List.getElem?_map] at h
    cases q : x.cps.toList[i]? with
    | none => rw [q] at h; cases h
    | some c =>
      rw [q] at h
      have h := Option.some.inj h
      subst h
      have q2 : x.cps[i]? = some c := by rw [← Array.getElem?_toList]; exact q
      refine ⟨?_, fun y H' hy => ?_⟩
      · show i < x.cps.size
        have := (List.getElem?_eq_some_iff.mp q).1
        simpa using this
      · obtain ⟨e1, c', h1, h2⟩ := hy
        subst e1
        rw [q2] at h1
        cases h1
        subst h2
        exact ⟨Ext.refl _ _, r, .d (.str _), fun _ _ => rfl⟩
  · have h := vals_stop hs
    show x.cps.size ≤ i
    simpa using h
theorem wk_live {ρ0 : Cs} {H0 : Hp} {a : Addr} {n k : Nat} (h : ρ0.at_ n = some a) : Wk X (Itl X.K a) (.live n k false) ρ0 H0 := by
  intro i ρ H D st hD e r
  have hn : ρ.at_ n = some a := by
    obtain ⟨m, rfl⟩ := e.more
    have h : ρ0.l[ρ0.k + n]? = some a := h
    show (ρ0.l ++ m)[ρ0.k + n]? = some a
    rw [List.getElem?_append_left (List.getElem?_eq_some_iff.mp h).1]
    exact h
  have look : ∀ {o : Option PV}, (Src.live n k false).item i st = some o → ∃ ys vs, H a = some (.lst vs) ∧ VRs X.K ρ (del H D) X.mg ys vs ∧ ys[i]? = o := fun {o} q => by
    have q : (match st[n]? with
      | some (.lst ys) => some ys[i]?
      | _ => none) = some o := q
    cases z : st[n]? with
    | none => rw [z] at q; cases q
    | some u =>
      rw [z] at q
      cases u with
      | lst ys =>
        obtain ⟨b, h1, vs, h2, h3⟩ := r.at_ n _ z
        rw [hn] at h1
        cases h1
        exact ⟨ys, vs, del_some h2, h3, Option.some.inj q⟩
      | _ => cases q
  refine ⟨fun v hv => ?_, fun hs => ?_⟩
  · obtain ⟨ys, vs, h2, h3, h4⟩ := look hv
    obtain ⟨x, hx, rx⟩ := h3.get h4
    refine ⟨⟨vs, x, .of h2, hx⟩, fun y H' hy => ?_⟩
    obtain ⟨e1, hy⟩ := hy
    subst e1
    have e2 := Option.some.inj ((hy vs (.of h2)).symm.trans hx)
    subst e2
    exact ⟨Ext.refl _ _, r, rx, fun _ _ => rfl⟩
  · obtain ⟨ys, vs, h2, h3, h4⟩ := look hs
    exact ⟨vs, .of h2, by rw [← h3.length]; exact List.getElem?_eq_none_iff.mp h4⟩
theorem tE.of_ok {σ : L2.St} {H : Hp} {ρ : Cs} {fr : Fr} {st st1 : Store} {v : PV} {R : VK} (A : At X σ H ρ fr st) (q : d fr st = .ok v st1) (k : ∀ ρ1 H1 x, Ext ρ H ρ1 H1 → RS X.K ρ1 H1 X.mg st1 → VR X.K ρ1 H1 X.mg v x → R x H1) : tE X E d σ H R :=
  ⟨ρ, fr, st, A, by rw [q]; exact k⟩
/-- any expression -/
theorem si_any (he : PE X e (tE X E d)) : PI X tg e (tI X E (dIt d)) := by
  refine ⟨fun pins s σ H R I h => (PI.or (pi_list he) (PI.or (pi_tup he) (pi_str he))).run pins s σ H R I ?_⟩
  obtain ⟨ρ, fr, st, A, h⟩ := h
  have hw := Res.wp_bind h
  cases q : d fr st with
  | bad => rw [q] at hw; exact hw.elim
  | exc x st1 =>
    rw [q] at hw
    exact .inl ⟨ρ, fr, st, A, by rw [q]; exact hw⟩
  | ok v st1 =>
    rw [q] at hw
    have hw : (match srcOf v st1 with
      | some s => Res.ok s st1
      | none => .bad).wp _ _ := hw
    cases z : srcOf v st1 with
    | none => rw [z] at hw; exact hw.elim
    | some sr =>
      rw [z] at hw
      have hw : ∀ ρ' H' J, Ext ρ H ρ' H' → RS X.K ρ' H' X.mg st1 → Wk X J sr ρ' H' → R J H' := hw
      cases v with
      | fn _ => cases z
      | cell n =>
        refine .inl (tE.of_ok A q fun ρ1 H1 x e1 r1 v1 => ?_)
        cases v1 with
        | cell hc =>
          have z : (match st1[n]? with
            | some (.lst ys) => some (Src.live n (ys.length + 1) false)
            | _ => none) = some sr := z
          cases y : st1[n]? with
          | none => rw [y] at z; cases z
          | some u =>
            rw [y] at z
            cases u with
            | lst ys =>
              have z := Option.some.inj z
              subst z
              obtain ⟨b, h1, vs, h2, h3⟩ := r1.at_ n _ y
              rw [hc] at h1
              cases h1
              exact ⟨_, rfl, ⟨vs, .of h2⟩, hw ρ1 H1 _ e1 r1 (wk_live hc)⟩
            | _ => cases z
      | tup xs =>
        refine .inr (.inl (tE.of_ok A q fun ρ1 H1 x e1 r1 v1 => ?_))
        have z := Option.some.inj z
        subst z
        cases v1 with
        | tup h1 h2 => exact ⟨_, rfl, ⟨_, h1.sq⟩, hw ρ1 H1 _ e1 r1 (wk_tup h1 h2)⟩
      | d v =>
        cases v with
        | list ds =>
          refine .inl (tE.of_ok A q fun ρ1 H1 x e1 r1 v1 => ?_)
          have z := Option.some.inj z
          subst z
          cases v1 with
          | d v1 =>
            cases v1 with
            | lst h1 h2 => exact ⟨_, rfl, ⟨_, h1.sq⟩, hw ρ1 H1 _ e1 r1 (wk_list h1 h2.toV)⟩
        | tuple ds =>
          refine .inr (.inl (tE.of_ok A q fun ρ1 H1 x e1 r1 v1 => ?_))
          have z := Option.some.inj z
          subst z
          cases v1 with
          | d v1 =>
            cases v1 with
            | tup h1 h2 => exact ⟨_, rfl, ⟨_, h1.sq⟩, hw ρ1 H1 _ e1 r1 (wk_tup h1 h2.toV)⟩
        | str y =>
          refine .inr (.inr (tE.of_ok A q fun ρ1 H1 x e1 r1 v1 => ?_))
          have z := Option.some.inj z
          subst z
          cases v1 with
          | d v1 =>
            cases v1 with
            | str => exact ⟨_, rfl, hw ρ1 H1 _ e1 r1 wk_str⟩
        | none => cases z
        | bool b => cases z
        | int i => cases z
        | dict kvs => cases z
/-! range -/
def rangeVals (lo : Int) (n : Nat) : List PV := (List.range n).map fun i => .d (.int (lo + (i : Nat)))
def inB (i : Int) : Bool := (-1000000 ≤ i : Bool) && (i ≤ 1000000 : Bool)
theorem inB_ok {i : Int} (h : inB i = true) : -1000000 ≤ i ∧ i ≤ 1000000 := by
  unfold inB at h
  simpa using h
def dRange1 (d : Dens) : DI := fun fr st => (d fr st).bind fun vs st1 => match vs with
  | [.d (.int j)] => if inB j then .ok (.vals (rangeVals 0 j.toNat)) st1 else .bad
  | _ => .bad
def dRange2 (d : Dens) : DI := fun fr st => (d fr st).bind fun vs st1 => match vs with
  | [.d (.int i), .d (.int j)] => if inB i && inB j then .ok (.vals (rangeVals i (j - i).toNat)) st1 else .bad
  | _ => .bad
theorem wk_range {ρ0 : Cs} {H0 : Hp} {lo : Int} {n : Nat} : Wk X (Itr lo n) (.vals (rangeVals lo n)) ρ0 H0 := by
  intro i ρ H D st hD e r
  refine ⟨fun v hv => ?_, fun hs => ?_⟩
  · have h := vals_item hv
    unfold rangeVals at h
    rw [List.getElem?_map] at h
    cases q : (List.range n)[i]? with
    | none => rw [q] at h; cases h
    | some c =>
      rw [q] at h
      have h := Option.some.inj h
      subst h
      have hi : i < n := by simpa using (List.getElem?_eq_some_iff.mp q).1
      have hc : c = i := by
        rw [List.getElem?_range hi] at q
        exact (Option.some.inj q).symm
      subst hc
      refine ⟨hi, fun y H' hy => ?_⟩
      obtain ⟨e1, h2⟩ := hy
      subst e1 h2
      exact ⟨Ext.refl _ _, r, .d (.int _), fun _ _ => rfl⟩
  · have h := vals_stop hs
    show n ≤ i
    simpa [rangeVals] using h
variable {r : Dens} {a b : Expr} {p : Pos}
theorem VRs.one {K : PySem.W.Frag} {ρ : Cs} {H : Hp} {mg : Str → Option Value} {x : PV} {vs : List V} (h : VRs K ρ H mg [x] vs) : ∃ v, vs = [v] ∧ VR K ρ H mg x v := by
  cases h with
  | cons h1 h2 => cases h2; exact ⟨_, rfl, h1⟩
theorem VRs.two {K : PySem.W.Frag} {ρ : Cs} {H : Hp} {mg : Str → Option Value} {x y : PV} {vs : List V} (h : VRs K ρ H mg [x, y] vs) : ∃ v w, vs = [v, w] ∧ VR K ρ H mg x v ∧ VR K ρ H mg y w := by
  cases h with
  | cons h1 h2 =>
    obtain ⟨w, rfl, h3⟩ := h2.one
    exact ⟨_, w, rfl, h1, h3⟩
theorem VR.int {K : PySem.W.Frag} {ρ : Cs} {H : Hp} {mg : Str → Option Value} {i : Int} {v : V} (h : VR K ρ H mg (.d (.int i)) v) : v = .int i := by
  cases h with
  | d h => cases h; rfl
theorem VR.str {K : PySem.W.Frag} {ρ : Cs} {H : Hp} {mg : Str → Option Value} {i : Str} {v : V} (h : VR K ρ H mg (.d (.str i)) v) : v = .str i := by
  cases h with
  | d h => cases h; rfl
theorem si_range1 (hg : Gl X "range") (hm : X.mg "range" = none) (ha : PA X [a] (tEs X E r)) (hs : noStar [a] = true) : PI X tg (.Call (.Name "range" p) [a] [] pos) (tI X E (dRange1 r)) := by
  refine ⟨fun pins s σ H R I h => (pi_range1 hg hm ha (by rw [(star_cons hs).1]; rfl)).run pins s σ H R I ?_⟩
  obtain ⟨ρ, fr, st, A, h⟩ := h
  refine tEs.step A h fun v st1 ρ1 H1 x e1 A1 v1 h1 => ?_
  split at h1
  · rename_i j
    obtain ⟨y, rfl, hy⟩ := v1.one
    rw [hy.int]
    split at h1
    · rename_i hb
      have hb := inB_ok hb
      exact ⟨j, rfl, by omega, by omega, h1 ρ1 H1 _ e1 A1.rs wk_range⟩
    · exact h1.elim
  · exact h1.elim
theorem si_range2 (hg : Gl X "range") (hm : X.mg "range" = none) (ha : PA X [a, b] (tEs X E r)) (hs : noStar [a, b] = true) : PI X tg (.Call (.Name "range" p) [a, b] [] pos) (tI X E (dRange2 r)) := by
  have h2 := (star_cons (env := X.env) hs).2
  refine ⟨fun pins s σ H R I h => (pi_range2 hg hm ha (by rw [(star_cons hs).1, (star_cons h2).1]; rfl) (by rw [(star_cons h2).1]; rfl)).run pins s σ H R I ?_⟩
  obtain ⟨ρ, fr, st, A, h⟩ := h
  refine tEs.step A h fun v st1 ρ1 H1 x e1 A1 v1 h1 => ?_
  split at h1
  · rename_i i j
    obtain ⟨y, z, rfl, hy, hz⟩ := v1.two
    rw [hy.int, hz.int]
    split at h1
    · rename_i hb
      rw [Bool.and_eq_true] at hb
      have hb1 := inB_ok hb.1
      have hb2 := inB_ok hb.2
      exact ⟨i, j, rfl, ⟨by omega, by omega, by omega, by omega⟩, h1 ρ1 H1 _ e1 A1.rs wk_range⟩
    · exact h1.elim
  · exact h1.elim
/-! enumerate of a list -/
def enumVals (xs : List PV) : List PV := xs.zipIdx.map fun p => mkTup [.d (.int (p.2 : Nat)), p.1]
def listItems (v : PV) : Option (List PV) := match v with
  | .d (.list ds) => some (ds.map .d)
  | _ => none
def dEnum (d : Dens) : DI := fun fr st => (d fr st).bind fun vs st1 => match vs with
  | [v] => match listItems v with
    | some xs => .ok (.vals (enumVals xs)) st1
    | none => .bad
  | _ => .bad
theorem listItems_ok {K : PySem.W.Frag} {ρ : Cs} {H : Hp} {mg : Str → Option Value} {v : PV} {x : V} {xs : List PV} (h : VR K ρ H mg v x) (e : listItems v = some xs) : ∃ a vs, x = .ref a ∧ FzL ρ H a vs ∧ VRs K ρ H mg xs vs := by
  cases h with
  | d h =>
    cases h with
    | lst h q =>
      have e2 := Option.some.inj e
      subst e2
      exact ⟨_, _, rfl, h, q.toV⟩
    | _ => cases e
  | tup h q => cases e
  | cell h => cases e
  | fn h => cases e
theorem wk_enum {ρ0 : Cs} {H0 : Hp} {a : Addr} {vs : List V} {xs : List PV} (h : FzL ρ0 H0 a vs) (q : VRs X.K ρ0 H0 X.mg xs vs) : Wk X (Ite X.K a) (.vals (enumVals xs)) ρ0 H0 := by
  intro i ρ H D st hD e r
  have sq := sqL_del (K := X.K) (h.mono e).sq
  refine ⟨fun v hv => ?_, fun hs => ⟨vs, sq, by have hl := vals_stop hs; rw [← q.length]; simpa [enumVals] using hl⟩⟩
  have h1 := vals_item hv
  unfold enumVals at h1
  rw [List.getElem?_map, List.getElem?_zipIdx] at h1
  cases z : xs[i]? with
  | none => rw [z] at h1; cases h1
  | some w =>
    rw [z] at h1
    have h1 := Option.some.inj h1
    subst h1
    obtain ⟨x, hx, rx⟩ := q.get z
    refine ⟨⟨vs, x, sq, hx⟩, fun y H' hy => ?_⟩
    obtain ⟨T, x', rfl, nT, rfl, hy⟩ := hy
    have e2 := Option.some.inj ((hy vs sq).symm.trans hx)
    subst e2
    have nD : ∀ d, D = some d → T ≠ d := fun d hd z => by
      obtain ⟨o, ho⟩ := hD d hd
      rw [← z, nT] at ho
      cases ho
    have nT2 : del H D T = none := by
      cases q : del H D T with
      | none => rfl
      | some o =>
        have := del_some q
        rw [nT] at this
        cases this
    rw [del_upd nD]
    refine ⟨r.ext nT2, r.new nT2, ?_, fun d hd => upd_ne (Ne.symm (nD d hd))⟩
    have hz : ((0 + i : Nat) : Int) = (i : Nat) := by omega
    show VR _ _ _ _ (mkTup [.d (.int ((0 + i : Nat) : Int)), w]) _
    rw [hz]
    exact new_tup r (.cons (.d (.int _)) (.cons (rx.mono e) .nil)) nT2
theorem si_enum {elts : List Expr} {kk : Nat} {tpos : Pos} (hg : Gl X "enumerate") (hm : X.mg "enumerate" = none) (ha : PA X [a] (tEs X E r)) (hs : noStar [a] = true) : PI X (.Tuple elts kk tpos) (.Call (.Name "enumerate" p) [a] [] pos) (tI X E (dEnum r)) := by
  refine ⟨fun pins s σ H R I h => (pi_enum hg hm ha (by rw [(star_cons hs).1]; rfl)).run pins s σ H R I ?_⟩
  obtain ⟨ρ, fr, st, A, h⟩ := h
  refine tEs.step A h fun v st1 ρ1 H1 x e1 A1 v1 h1 => ?_
  split at h1
  · rename_i w
    obtain ⟨y, rfl, hy⟩ := v1.one
    cases z : listItems w with
    | none => rw [z] at h1; exact h1.elim
    | some xs =>
      rw [z] at h1
      obtain ⟨a, vs, rfl, h2, h3⟩ := listItems_ok hy z
      exact ⟨a, vs, rfl, h2.sq, h1 ρ1 H1 _ e1 A1.rs (wk_enum h2 h3)⟩
  · exact h1.elim
end
end Sr
/-! for, while, comprehensions. -/
namespace Sr
open PySem L2

/-- behind a turn: on, or out -/
def behind (r : RO) (k : DS) : RO := match r with
  | .nx fr st => k fr st
  | .ct fr st => k fr st
  | .bk fr st => .nx fr st
  | r => r
def turnS (g : DG) (b : DS) (v : PV) (fr : Fr) (st : Store) : RO := match g v fr st with
  | some (fr1, st1) => b fr1 st1
  | none => .bad
def loopV (g : DG) (b : DS) : List PV → DS
  | [] => fun fr st => .nx fr st
  | v :: r => fun fr st => behind (turnS g b v fr st) (loopV g b r)
def loopF (g : DG) (b : DS) (s : Src) : Nat → Nat → DS
  | 0, _ => fun _ _ => .bad
  | k + 1, i => fun fr st => match s.item i st with
    | none => .bad
    | some none => .nx fr st
    | some (some v) => behind (turnS g b v fr st) (loopF g b s k (i + 1))
def sFor (d : DI) (g : DG) (b : DS) : DS := fun fr st => ofR fr (d fr st) fun s st1 => match s with
  | .vals xs => loopV g b xs fr st1
  | .live n k num => loopF g b (.live n k num) k 0 fr st1
section
variable {X : Cx} {E : WX} {tg iter : Expr} {body : List Stmt} {d : DI} {g : DG} {b : DS} {pos : Pos}
theorem behind_ok {D D' : Ends} {ρ : Cs} {H : Hp} {r : RO} {k : DS} (h : okS X E ρ H (behind r k) D) (N : L2.St → Hp → Prop)
    (hn : ∀ ρ' H' σ' fr' st', Ext ρ H ρ' H' → At X σ' H' ρ' fr' st' → okS X E ρ' H' (k fr' st') D → N σ' H') : okS X E ρ H r { D with nx := N, ct := N, bk := D.nx } := by
  cases r with
  | nx fr st => exact fun ρ' H' σ' e A => hn ρ' H' σ' fr st e A (okS.mono e h)
  | ct fr st => exact fun ρ' H' σ' e A => hn ρ' H' σ' fr st e A (okS.mono e h)
  | bk fr st => exact h
  | rt v st => exact h
  | ex x fr st => exact h
  | bad => exact h
theorem turn_ok {D : Ends} {ρ : Cs} {H : Hp} {σ : L2.St} {fr : Fr} {st : Store} {v : PV} {x : V} {tb : TS} (A : At X σ H ρ fr st) (hv : VR X.K ρ H X.mg v x) (h : okS X E ρ H (turnS g b v fr st) D) :
    tG X g x σ H fun σ2 H2 => tS X E b D σ2 H2 := by
  refine ⟨ρ, fr, st, v, A, hv, ?_⟩
  unfold turnS at h
  cases q : g v fr st with
  | none => rw [q] at h; exact h.elim
  | some p =>
    rw [q] at h
    exact fun ρ1 H1 σ1 e1 A1 => ⟨ρ1, p.1, p.2, A1, okS.mono e1 h⟩
theorem ss_for (hp : PassesOwn (model X.prog X.w) X.A X.env X.xe) (hc : X.calm = true) (hi : PI X tg iter (tI X E d)) (hg : PG X tg (tG X g)) (hb : PSs X body (tS X E b))
    (hs : ∀ x, foldedSetIterable iter X.env x = pure x) : PS X (.For tg iter body [] pos) (tS X E (sFor d g b)) := by
  refine ⟨fun pins s σ H D I h => (ps_for hp hc hi hg hb hs).run pins s σ H D I ?_⟩
  obtain ⟨ρ, fr, st, A, h⟩ := h
  refine ⟨ρ, fr, st, A, Res.wp_mono (okS_ofR h A.fr) (fun sr st1 h1 ρ1 H1 J e1 r1 wk => ?_) fun _ _ q => q⟩
  have A1 := A.step e1 r1
  have h1 := okS.mono e1 h1
  cases sr with
  | vals xs =>
    refine ⟨fun i m σ' H' => m = xs.length - i ∧ i ≤ xs.length ∧ ∃ ρ' fr' st', Ext ρ1 H1 ρ' H' ∧ At X σ' H' ρ' fr' st' ∧ okS X E ρ' H' (loopV g b (xs.drop i) fr' st') D, ⟨xs.length, by simp, Nat.zero_le _, ρ1, fr, st1, Ext.refl _ _, A1, h1⟩, ?_⟩
    rintro i m σ2 H2 ⟨rfl, hi, ρ2, fr2, st2, e2, A2, h2⟩
    obtain ⟨wk1, wk2⟩ := wk i ρ2 H2 none st2 (fun _ z => nomatch z) e2 A2.rs
    by_cases hlt : i < xs.length
    · have hd : xs.drop i = xs[i] :: xs.drop (i + 1) := List.drop_eq_getElem_cons hlt
      rw [hd] at h2
      obtain ⟨g1, g2⟩ := wk1 xs[i] (by show some xs[i]? = _; rw [List.getElem?_eq_getElem hlt])
      refine .inr ⟨g1, fun σ' H' => ∃ ρ' fr' st', Ext ρ2 H2 ρ' H' ∧ At X σ' H' ρ' fr' st' ∧ okS X E ρ' H' (loopV g b (xs.drop (i + 1)) fr' st') D, fun σ' H' ⟨ρ', fr', st', e', A', h'⟩ => ?_, fun x H' y => ?_⟩
      · exact ⟨xs.length - (i + 1), by omega, rfl, hlt, ρ', fr', st', e2.trans e', A', h'⟩
      · obtain ⟨e3, r3, v3, _⟩ := g2 x H' y
        have A3 := A2.step e3 r3
        refine turn_ok (tb := tS X E b) A3 v3 (behind_ok (D' := D) (okS.mono e3 h2) _ fun ρ' H' σ' fr' st' e' A' h' => ⟨ρ', fr', st', e3.trans e', A', h'⟩)
    · have he : i = xs.length := by omega
      subst he
      refine .inl ⟨wk2 (by show some xs[xs.length]? = _; rw [List.getElem?_eq_none (Nat.le_refl _)]), ?_⟩
      rw [List.drop_length] at h2
      exact h2 ρ2 H2 σ2 (Ext.refl _ _) A2
  | live n k num =>
    refine ⟨fun i m σ' H' => ∃ ρ' fr' st', Ext ρ1 H1 ρ' H' ∧ At X σ' H' ρ' fr' st' ∧ okS X E ρ' H' (loopF g b (.live n k num) m i fr' st') D, ⟨k, ρ1, fr, st1, Ext.refl _ _, A1, h1⟩, ?_⟩
    rintro i m σ2 H2 ⟨ρ2, fr2, st2, e2, A2, h2⟩
    obtain ⟨wk1, wk2⟩ := wk i ρ2 H2 none st2 (fun _ z => nomatch z) e2 A2.rs
    cases m with
    | zero => exact h2.elim
    | succ m =>
      have h2 : okS X E ρ2 H2 (match (Src.live n k num).item i st2 with
        | none => .bad
        | some none => .nx fr2 st2
        | some (some v) => behind (turnS g b v fr2 st2) (loopF g b (.live n k num) m (i + 1))) D := h2
      cases q : (Src.live n k num).item i st2 with
      | none => rw [q] at h2; exact h2.elim
      | some o =>
        rw [q] at h2
        cases o with
        | none => exact .inl ⟨wk2 q, h2 ρ2 H2 σ2 (Ext.refl _ _) A2⟩
        | some v =>
          obtain ⟨g1, g2⟩ := wk1 v q
          refine .inr ⟨g1, fun σ' H' => ∃ ρ' fr' st', Ext ρ2 H2 ρ' H' ∧ At X σ' H' ρ' fr' st' ∧ okS X E ρ' H' (loopF g b (.live n k num) m (i + 1) fr' st') D, fun σ' H' ⟨ρ', fr', st', e', A', h'⟩ => ?_, fun x H' y => ?_⟩
          · exact ⟨m, Nat.lt_succ_self _, ρ', fr', st', e2.trans e', A', h'⟩
          · obtain ⟨e3, r3, v3, _⟩ := g2 x H' y
            have A3 := A2.step e3 r3
            refine turn_ok (tb := tS X E b) A3 v3 (behind_ok (D' := D) (okS.mono e3 h2) _ fun ρ' H' σ' fr' st' e' A' h' => ⟨ρ', fr', st', e3.trans e', A', h'⟩)

/-! ### while -/
def loopW (c : DenT) (b : DS) : Nat → DS
  | 0 => fun _ _ => .bad
  | k + 1 => fun fr st => ofR fr (c fr st) fun t st1 => if t then behind (b fr st1) (loopW c b k) else .nx fr st1
theorem ss_while {c : Expr} {dc : DenT} {k : Nat} (hp : PassesOwn (model X.prog X.w) X.A X.env X.xe) (hc : PT X c (tT X E dc)) (hb : PSs X body (tS X E b)) : PS X (.While c body [] pos) (tS X E (loopW dc b k)) := by
  refine ⟨fun pins s σ H D I h => (ps_while hp hc hb).run pins s σ H D I ?_⟩
  obtain ⟨ρ, fr, st, A, h⟩ := h
  refine ⟨fun m σ' H' => ∃ ρ' fr' st', At X σ' H' ρ' fr' st' ∧ okS X E ρ' H' (loopW dc b m fr' st') D, ⟨k, ρ, fr, st, A, h⟩, ?_⟩
  rintro m σ2 H2 ⟨ρ2, fr2, st2, A2, h2⟩
  cases m with
  | zero => exact h2.elim
  | succ m =>
    refine tT.stepS A2 h2 fun v st3 ρ3 H3 e3 A3 h3 => ?_
    cases v with
    | false => exact h3 ρ3 H3 σ2 (Ext.refl _ _) A3
    | true =>
      refine ⟨fun σ' H' => ∃ ρ' fr' st', At X σ' H' ρ' fr' st' ∧ okS X E ρ' H' (loopW dc b m fr' st') D, fun σ' H' q => ⟨m, Nat.lt_succ_self _, q⟩, ?_⟩
      exact ⟨ρ3, fr2, st3, A3, behind_ok (D' := D) h3 _ fun ρ' H' σ' fr' st' e' A' h' => ⟨ρ', fr', st', A', h'⟩⟩
end
end Sr
/-! A tracked list set aside while an expression runs; list comprehensions. -/
namespace Sr
open PySem L2

section
variable {X : Cx} {pins : List (Addr × Obj)} {σ : L2.St} {H : Hp} {s : Shared}
/-- a list, a dict by ints and texts -/
def LD (o : HO) : Prop := (∃ acc, o = .lst acc) ∨ (∃ kvs, o = .dK kvs) ∨ o = .dT []
theorem LD.ne {o : HO} (h : LD o) : (∀ xs, o ≠ .tup xs) ∧ (∀ b u, o ≠ .frz b u) ∧ (∀ ps, o ≠ .tbl ps) ∧ ∀ a, o ≠ .own a := by
  rcases h with ⟨x, rfl⟩ | ⟨x, rfl⟩ | rfl <;> exact ⟨fun _ => nofun, fun _ _ => nofun, fun _ => nofun, fun _ => nofun⟩
theorem LD.obj {P : Program} {w : World} {H : Hp} {h : Heap} {D : Addr} {o : HO} (l : LD o) (k : ObjOk P w H h D o) : ∃ ob : Obj, h.get? D = some ob ∧ (∀ v, ob.data ≠ .cell v) := by
  rcases l with ⟨x, rfl⟩ | ⟨x, rfl⟩ | rfl
  · obtain ⟨hz, its, n, r, e⟩ := k
    exact ⟨_, e, fun v z => by cases z⟩
  · obtain ⟨hz, _, vs, _, ob, es, ep, e, _, hd, _⟩ := k
    exact ⟨ob, e, fun v z => by rw [z] at hd; cases hd⟩
  · obtain ⟨hz, _, vs, _, ob, es, ep, e, _, hd, _⟩ := k
    exact ⟨ob, e, fun v z => by rw [z] at hd; cases hd⟩
theorem LD.same {P : Program} {w : World} {H H' : Hp} {h h' : Heap} {D : Addr} {o : HO} {ob : Obj} (l : LD o) (k : ObjOk P w H h D o) (e1 : h.get? D = some ob) (e2 : h'.get? D = some ob) : ObjOk P w H' h' D o := by
  rcases l with ⟨x, rfl⟩ | ⟨x, rfl⟩ | rfl
  · obtain ⟨hz, its, n, r, e⟩ := k
    rw [e1] at e
    cases e
    exact ⟨hz, its, n, r, e2⟩
  · obtain ⟨hz, hs, vs, hv, ob', es, ep, e, rest⟩ := k
    rw [e1] at e
    cases e
    exact ⟨hz, hs, vs, hv, ob, es, ep, e2, rest⟩
  · obtain ⟨hz, hs, vs, hv, ob', es, ep, e, rest⟩ := k
    rw [e1] at e
    cases e
    cases hv
    exact ⟨hz, hs, [], .nil, ob, es, ep, e2, rest⟩
/-- a tracked list or dict is forgotten and pinned -/
theorem hide {D : Addr} {od : HO} (ld : LD od) (I : Inv X pins σ H s) (hD : H D = some od) : ∃ ob : Obj, s.heap.get? D = some ob ∧ Inv X ((D, ob) :: pins) σ (del H (some D)) s ∧ ObjOk X.prog X.w H s.heap D od := by
  have kD := I.hok D _ hD
  obtain ⟨ob, e, noc⟩ := ld.obj kD
  obtain ⟨ne1, ne2, ne3, ne4⟩ := ld.ne
  have sub : ∀ {a : Addr} {o : HO}, del H (some D) a = some o → H a = some o := fun h => del_some h
  have back : ∀ {a : Addr} {o : HO}, H a = some o → a ≠ D → del H (some D) a = some o := fun h n => by rw [del_ne n]; exact h
  have noneD : ∀ {a : Addr}, H a = none → del H (some D) a = none := fun {a} h => by
    cases q : del H (some D) a with
    | none => rfl
    | some o => rw [sub q] at h; cases h
  refine ⟨_, e, ⟨I.ok, I.os, I.bare, ⟨I.base.keep, I.base.slot, fun b o h1 h2 h3 => noneD (I.base.free b o h1 h2 h3), I.base.there, fun b xs h => ?_, fun b o u h => ?_, fun b ps h => ?_⟩, I.loc, I.cell, noneD I.free, fun x c h => noneD (I.freeC x c h), fun p hp => ?_, fun a o h => ?_, I.len⟩, kD⟩
  · have h1 := I.base.tups b xs h
    exact back h1 fun z => by rw [z, hD] at h1; exact ne1 _ (Option.some.inj h1)
  · have h1 := I.base.frzs b o u h
    exact back h1 fun z => by rw [z, hD] at h1; exact ne2 _ _ (Option.some.inj h1)
  · obtain ⟨m, h1⟩ := I.base.tbls b ps h
    exact ⟨m, back h1 fun z => by rw [z, hD] at h1; exact ne3 _ (Option.some.inj h1)⟩
  · have hp' : p ∈ X.pn ++ pins ∨ p = (D, ob) := by
      rcases List.mem_append.mp hp with h | h
      · exact .inl (List.mem_append_left _ h)
      · rcases List.mem_cons.mp h with h | h
        · exact .inr h
        · exact .inl (List.mem_append_right _ h)
    rcases hp' with h | h
    · obtain ⟨h1, h2, h3⟩ := I.pin p h
      exact ⟨h1, noneD h2, h3⟩
    · subst h
      refine ⟨e, del_self, fun z => ?_, fun z => ?_, fun v z => ?_⟩
      · have z : D = X.env.locals := z
        have h1 := I.free
        rw [← z, hD] at h1
        cases h1
      · obtain ⟨_, o, ho, _⟩ := I.ok.funs.mem z
        have h1 := I.base.free D o ho (I.ok.frf D z) fun q => I.ok.exfs D q z
        rw [hD] at h1
        cases h1
      · exact noc v z
  · refine (I.hok a o (sub h)).stay (fun b u _ q => q) (fun b q => back q fun z => ?_) fun b xs q => back q fun z => ?_
    · rw [z, hD] at q; exact ne4 _ (Option.some.inj q)
    · rw [z, hD] at q; exact ne1 _ (Option.some.inj q)
/-- .. and known again -/
theorem unhide {D : Addr} {ob : Obj} {od : HO} {σ' : L2.St} {H' : Hp} {s' : Shared} (ld : LD od) (I : Inv X pins σ H s) (hD : H D = some od) (he : s.heap.get? D = some ob) (I' : Inv X ((D, ob) :: pins) σ' H' s') : Inv X pins σ' (upd H' D od) s' := by
  obtain ⟨p1, p2, p3, p4, p5⟩ := I'.pin (D, ob) (List.mem_append_right _ List.mem_cons_self)
  have p1 : s'.heap.get? D = some ob := p1
  have p2 : H' D = none := p2
  have up : ∀ {a : Addr} {o : HO}, H' a = some o → upd H' D od a = some o := fun {a o} h => by
    rw [upd_ne (fun z => by rw [z, p2] at h; cases h)]; exact h
  have not0 : ∀ {o : Obj}, X.s_0.heap.get? D = some o → X.H_0 D = none → D ∉ X.ex → False := fun h1 h2 h3 => by
    have := I.base.free D _ h1 h2 h3
    rw [hD] at this; cases this
  refine ⟨I'.ok, I'.os, I'.bare, ⟨I'.base.keep, I'.base.slot, fun b o h1 h2 h3 => ?_, I'.base.there, fun b xs h => up (I'.base.tups b xs h), fun b o u h => up (I'.base.frzs b o u h), fun b ps h => ?_⟩, I'.loc, I'.cell, ?_, fun x c h => ?_, fun p hp => ?_, fun a o h => ?_, I'.len⟩
  · have hb : b ≠ D := fun z => by subst z; exact not0 h1 h2 h3
    rw [upd_ne hb]
    exact I'.base.free b o h1 h2 h3
  · obtain ⟨m, h1⟩ := I'.base.tbls b ps h
    exact ⟨m, up h1⟩
  · rw [upd_ne (Ne.symm p3)]
    exact I'.free
  · have hc : c ≠ D := fun z => by
      have h1 := I.freeC x c h
      rw [z, hD] at h1; cases h1
    rw [upd_ne hc]
    exact I'.freeC x c h
  · obtain ⟨h1, h2, h3⟩ := I'.pin p ((List.mem_append.mp hp).elim (fun z => List.mem_append_left _ z) fun z => List.mem_append_right _ (List.mem_cons_of_mem _ z))
    have hb : p.1 ≠ D := fun z => by
      have := (I.pin p hp).2.1
      rw [z, hD] at this; cases this
    rw [upd_ne hb]
    exact ⟨h1, h2, h3⟩
  · by_cases ha : a = D
    · subst ha
      rw [upd_same] at h
      cases h
      exact ld.same (I.hok a _ hD) he p1
    · rw [upd_ne ha] at h
      exact (I'.hok a o h).stay (fun b u _ q => q) (fun b q => up q) fun b xs q => up q
end
section
variable {X : Cx} {e : Expr} {te : TE} {tt : TT} {ifs : List Expr}
def tHide (te : TE) : TE := fun σ H Q => ∃ D acc, H D = some (.lst acc) ∧ te σ (del H (some D)) fun y H' => H' D = none → Q y (upd H' D (.lst acc))
def tHideT (tt : TT) : TT := fun σ H Q => ∃ D acc, H D = some (.lst acc) ∧ tt σ (del H (some D)) fun y H' => H' D = none → Q y (upd H' D (.lst acc))
theorem pe_hide (h : PE X e te) : PE X e (tHide te) := by
  refine ⟨fun pins s σ H Q I hq => ?_⟩
  obtain ⟨D, acc, hD, hq⟩ := hq
  obtain ⟨ob, he, I1, _⟩ := hide (.inl ⟨acc, rfl⟩) I hD
  refine thn (h.run _ s σ _ _ I1 hq) fun u s1 ⟨v, H1, J, r, q⟩ => ?_
  have p2 : H1 D = none := (J.pin (D, ob) (List.mem_append_right _ List.mem_cons_self)).2.1
  exact ⟨v, _, unhide (.inl ⟨acc, rfl⟩) I hD he J, r, q p2⟩
theorem pts_hide (h : PTs X ifs tt) : PTs X ifs (tHideT tt) := by
  refine ⟨fun pins s σ H Q I hq => ?_⟩
  obtain ⟨D, acc, hD, hq⟩ := hq
  obtain ⟨ob, he, I1, _⟩ := hide (.inl ⟨acc, rfl⟩) I hD
  refine thn (h.run _ s σ _ _ I1 hq) fun u s1 ⟨H1, J, q⟩ => ?_
  have p2 : H1 D = none := (J.pin (D, ob) (List.mem_append_right _ List.mem_cons_self)).2.1
  exact ⟨_, unhide (.inl ⟨acc, rfl⟩) I hD he J, q p2⟩
end

/-! ### a comprehension's target: a name, a tuple of names -/
inductive Tg where
  | one (i : Nat)
  | two (is : List Nat)
def Tg.slots : Tg → List Nat
  | .one i => [i]
  | .two is => is
def setAll : List Nat → List PV → Fr → Option Fr
  | [], [], fr => some fr
  | i :: is, v :: vs, fr => setAll is vs (fr.set i (some v))
  | _, _, _ => none
def Tg.put (t : Tg) (v : PV) (fr : Fr) : Option Fr := match t with
  | .one i => some (fr.set i (some v))
  | .two is => match tupItems v with
    | some xs => setAll is xs fr
    | none => none
def gAll : List Nat → TGs
  | [] => gNil
  | i :: is => gCons (gName i) (gAll is)
def Tg.rd (K : PySem.W.Frag) : Tg → TG
  | .one i => gName i
  | .two is => gTup K is.length (gAll is)
def wipeF (fr : Fr) : List Nat → Fr
  | [] => fr
  | v :: vs => (wipeF fr vs).set v none
theorem wipe_set {σ : L2.St} {i : Nat} {x : Option V} : ∀ {vs : List Nat}, i ∈ vs → wipe (σ.set i x) vs = wipe σ vs
  | v :: vs, h => by
    unfold wipe
    by_cases hi : i ∈ vs
    · rw [wipe_set hi]
    · have hv : i = v := by
        rcases List.mem_cons.mp h with z | z
        · exact z
        · exact absurd z hi
      subst hv
      have : ∀ {ws : List Nat}, i ∉ ws → wipe (σ.set i x) ws = (wipe σ ws).set i x := by
        intro ws
        induction ws with
        | nil => intro _; rfl
        | cons w ws ih =>
          intro hw
          unfold wipe
          rw [ih (fun z => hw (List.mem_cons_of_mem _ z)), List.set_comm _ _ (fun z => hw (by rw [z]; exact List.mem_cons_self))]
      rw [this hi, List.set_set]
theorem FR.wipe {K : PySem.W.Frag} {ρ : Cs} {H : Hp} {mg : Str → Option Value} {fr : Fr} {σ : L2.St} (F : FR K ρ H mg fr σ) : ∀ vs : List Nat, FR K ρ H mg (wipeF fr vs) (L2.wipe σ vs)
  | [] => F
  | v :: vs => by
    have G := FR.wipe F vs
    refine ⟨by show ((wipeF fr vs).set v none).length = ((L2.wipe σ vs).set v none).length; rw [List.length_set, List.length_set]; exact G.len, fun j y e => ?_⟩
    have e : ((wipeF fr vs).set v none)[j]? = some (some y) := e
    show ∃ w, ((L2.wipe σ vs).set v none)[j]? = some (some w) ∧ _
    by_cases hj : v = j
    · subst hj
      by_cases hv : v < (wipeF fr vs).length
      · rw [List.getElem?_set_self hv] at e; cases e
      · rw [List.getElem?_eq_none (by simpa using hv)] at e; cases e
    · rw [List.getElem?_set_ne hj] at e ⊢
      exact G.at_ j y e
section
variable {X : Cx} {ρ : Cs} {H : Hp} {K : PySem.W.Frag} {mg : Str → Option Value}
theorem setAll_ok {vs : List Nat} {σ0 : L2.St} {Q : L2.St → Hp → Prop} {H2 : Hp} : ∀ {is : List Nat} {xs : List PV} {fr fr1 : Fr} {ws : List V} {σ : L2.St}, setAll is xs fr = some fr1 → FR K ρ H mg fr σ → VRs K ρ H mg xs ws → (∀ i ∈ is, i ∈ vs) → wipe σ vs = wipe σ0 vs →
    (∀ σ', wipe σ' vs = wipe σ0 vs → FR K ρ H mg fr1 σ' → Q σ' H2) → gAll is ws σ H2 Q
  | [], [], fr, fr1, ws, σ, e, F, q, _, hw, k => by
    cases q
    have e := Option.some.inj e
    subst e
    exact ⟨rfl, k σ hw F⟩
  | i :: is, v :: xs, fr, fr1, ws, σ, e, F, q, hs, hw, k => by
    cases q with
    | cons q1 q2 =>
      rename_i x ws
      exact ⟨x, ws, rfl, setAll_ok e (F.set i q1) q2 (fun j hj => hs j (List.mem_cons_of_mem _ hj)) (by rw [wipe_set (hs i List.mem_cons_self)]; exact hw) k⟩
  | [], _ :: _, _, _, _, _, e, _, _, _, _, _ => by cases e
  | _ :: _, [], _, _, _, _, e, _, _, _, _, _ => by cases e
theorem setAll_len : ∀ {is : List Nat} {xs : List PV} {fr fr1 : Fr}, setAll is xs fr = some fr1 → xs.length = is.length
  | [], [], _, _, _ => rfl
  | i :: is, v :: xs, fr, fr1, e => by
    have := setAll_len (is := is) (xs := xs) (show setAll is xs (fr.set i (some v)) = some fr1 from e)
    simp [this]
  | [], _ :: _, _, _, e => by cases e
  | _ :: _, [], _, _, e => by cases e
theorem put_ok {t : Tg} {vs : List Nat} {v : PV} {x : V} {fr fr1 : Fr} {σ : L2.St} {H2 : Hp} {Q : L2.St → Hp → Prop} (e : t.put v fr = some fr1) (F : FR K ρ H mg fr σ) (q : VR K ρ H mg v x) (sub : ∀ a o, H a = some o → H2 a = some o) (hs : ∀ i ∈ t.slots, i ∈ vs)
    (k : ∀ σ', wipe σ' vs = wipe σ vs → FR K ρ H mg fr1 σ' → Q σ' H2) : t.rd K x σ H2 Q := by
  cases t with
  | one i =>
    have e := Option.some.inj e
    subst e
    exact k _ (wipe_set (hs i List.mem_cons_self)) (F.set i q)
  | two is =>
    have e : (match tupItems v with
      | some xs => setAll is xs fr
      | none => none) = some fr1 := e
    cases z : tupItems v with
    | none => rw [z] at e; cases e
    | some xs =>
      rw [z] at e
      obtain ⟨a, ws, rfl, h1, h2⟩ := tupItems_ok q z
      have sq : SqT K H2 a ws := by
        rcases h1.sq with (h | ⟨o, h⟩) | h
        · exact .inl (.inl (sub _ _ h))
        · exact .inl (.inr ⟨o, sub _ _ h⟩)
        · exact .inr h
      exact ⟨a, ws, rfl, sq, by rw [← h2.length, setAll_len e], setAll_ok e F h2 hs rfl k⟩
end

/-! ### list comprehensions -/
def noX {α : Type} (r : Res α) : Res α := match r with
  | .ok a st => .ok a st
  | _ => .bad
theorem noX_wp {α : Type} {r : Res α} {Q : α → Store → Prop} {W W' : PX → Store → Prop} (h : (noX r).wp Q W) : r.wp Q W' := by
  cases r with
  | ok a st => exact h
  | exc e st => exact h.elim
  | bad => exact h.elim
def dYes : DenT := fun _ st => .ok true st
/-- one turn: the value, if the test lets it -/
def turnC (t : Tg) (c : DenT) (e : Den) (fr0 : Fr) (v : PV) (st : Store) : Res (Option PV) := match t.put v fr0 with
  | none => .bad
  | some fr1 => (noX (c fr1 st)).bind fun k st1 => if k then (noX (e fr1 st1)).bind fun y st2 => .ok (some y) st2 else .ok none st1
def consO (y : Option PV) (ys : List PV) : List PV := match y with
  | some y => y :: ys
  | none => ys
def loopC (t : Tg) (c : DenT) (e : Den) (fr0 : Fr) : List PV → Store → Res (List PV)
  | [], st => .ok [] st
  | v :: r, st => (turnC t c e fr0 v st).bind fun y st1 => (loopC t c e fr0 r st1).bind fun ys st2 => .ok (consO y ys) st2
def loopCF (t : Tg) (c : DenT) (e : Den) (fr0 : Fr) (s : Src) : Nat → Nat → Store → Res (List PV)
  | 0, _, _ => .bad
  | k + 1, i, st => match s.item i st with
    | none => .bad
    | some none => .ok [] st
    | some (some v) => (turnC t c e fr0 v st).bind fun y st1 => (loopCF t c e fr0 s k (i + 1) st1).bind fun ys st2 => .ok (consO y ys) st2
def loopCS (t : Tg) (c : DenT) (e : Den) (fr0 : Fr) (s : Src) (st : Store) : Res (List PV) := match s with
  | .vals xs => if sizeOk xs.length then loopC t c e fr0 xs st else .bad
  | .live n k num => if sizeOk k then loopCF t c e fr0 (.live n k num) k 0 st else .bad
/-- [e for t in s if c]; m: a cell -/
def dComp (m : Bool) (t : Tg) (vs : List Nat) (d : DI) (c : DenT) (e : Den) : Den := fun fr st => (d fr st).bind fun s st1 => (loopCS t c e (wipeF fr vs) s st1).bind fun ys st2 =>
  if m then .ok (.cell st2.length) (st2 ++ [.lst ys]) else match datas ys with
    | some ds => .ok (.d (.list ds)) st2
    | none => .bad
abbrev E0 : WX := fun _ _ _ _ => False
section
variable {X : Cx} {E : WX} {tg iter elt : Expr} {ifs : List Expr} {scope : Scope} {own : List (Str × Nat)} {d : DI} {t : Tg} {c : DenT} {de : Den} {pos : Pos}
theorem wipe_idem {σ : L2.St} : ∀ (vs : List Nat), wipe (wipe σ vs) vs = wipe σ vs := by
  intro vs
  have : ∀ (ws us : List Nat), (∀ w ∈ ws, w ∈ us) → wipe (wipe σ ws) us = wipe σ us := by
    intro ws
    induction ws with
    | nil => intro us _; rfl
    | cons w ws ih =>
      intro us h
      show wipe ((wipe σ ws).set w none) us = _
      rw [wipe_set (h w List.mem_cons_self)]
      exact ih us fun z hz => h z (List.mem_cons_of_mem _ hz)
  exact this vs vs fun _ h => h
/-- one turn of the block -/
theorem turnC_ok {ρ : Cs} {H' : Hp} {D : Addr} {acc : List V} {fr0 : Fr} {σ : L2.St} {vs : List Nat} {v : PV} {x : V} {st : Store} {F : Option PV → Store → Prop} {W : PX → Store → Prop} {Nx : Hp → Prop} (hD : H' D = some (.lst acc)) (hz : acc.length < sizeLine)
    (A : At X (wipe σ vs) (del H' (some D)) ρ fr0 st) (hv : VR X.K ρ (del H' (some D)) X.mg v x) (hs : ∀ i ∈ t.slots, i ∈ vs) (h : (turnC t c de fr0 v st).wp F W)
    (k : ∀ (o : Option PV) (st' : Store) (ρ' : Cs) (H2 : Hp) (acc' : List V), F o st' → Ext ρ (del H' (some D)) ρ' (del H2 (some D)) → RS X.K ρ' (del H2 (some D)) X.mg st' → H2 D = some (.lst acc') →
      (match o with
        | none => acc' = acc
        | some y => ∃ z, acc' = acc ++ [z] ∧ VR X.K ρ' (del H2 (some D)) X.mg y z) → Nx H2) :
    t.rd X.K x (wipe σ vs) H' fun σ2 H2 => wipe σ2 vs = wipe σ vs ∧ tHideT (tT X E0 c) σ2 H2 fun b H3 =>
      if b = true then tHide (tE X E0 de) σ2 H3 fun y H4 => ∃ acc, H4 D = some (.lst acc) ∧ acc.length < sizeLine ∧ Nx (upd H4 D (.lst (acc ++ [y]))) else Nx H3 := by
  unfold turnC at h
  cases q : t.put v fr0 with
  | none => rw [q] at h; exact h.elim
  | some fr1 =>
    rw [q] at h
    refine put_ok q A.fr hv (fun a o e => del_some e) hs fun σ' hw F' => ⟨hw.trans (wipe_idem vs), D, acc, hD, ?_⟩
    have h1 := noX_wp (W' := okX X E0 σ' ρ (del H' (some D))) (Res.wp_bind h)
    refine ⟨ρ, fr1, st, ⟨F', A.rs⟩, Res.wp_mono h1 (fun b st1 h2 ρ1 H1 e1 r1 n1 => ?_) fun _ _ z => z⟩
    have d1 : del (upd H1 D (.lst acc)) (some D) = H1 := by
      funext a
      by_cases ha : a = D
      · subst ha; rw [del_self, n1]
      · rw [del_ne ha, upd_ne ha]
    have A1 : At X σ' H1 ρ1 fr1 st1 := ⟨F'.mono e1, r1⟩
    cases b with
    | false =>
      exact k none st1 ρ1 (upd H1 D (.lst acc)) acc h2 (by rw [d1]; exact e1) (by rw [d1]; exact r1) upd_same rfl
    | true =>
      have h3 := noX_wp (W' := okX X E0 σ' ρ1 H1) (Res.wp_bind h2)
      refine ⟨D, acc, upd_same, ?_⟩
      rw [d1]
      refine ⟨ρ1, fr1, st1, A1, Res.wp_mono h3 (fun y st2 h4 ρ2 H2 z e2 r2 v2 n2 => ?_) fun _ _ z => z⟩
      have d2 : del (upd (upd H2 D (.lst acc)) D (.lst (acc ++ [z]))) (some D) = H2 := by
        funext a
        by_cases ha : a = D
        · subst ha; rw [del_self, n2]
        · rw [del_ne ha, upd_ne ha, upd_ne ha]
      refine ⟨acc, upd_same, hz, k (some y) st2 ρ2 _ (acc ++ [z]) h4 (by rw [d2]; exact e1.trans e2) (by rw [d2]; exact r2) upd_same ⟨z, rfl, by rw [d2]; exact v2⟩⟩
theorem VRs.snoc {K : PySem.W.Frag} {ρ : Cs} {H : Hp} {mg : Str → Option Value} {xs : List PV} {vs : List V} {x : PV} {v : V} (h : VRs K ρ H mg xs vs) (q : VR K ρ H mg x v) : VRs K ρ H mg (xs ++ [x]) (vs ++ [v]) := h.append (.cons q .nil)
/-- what the loop leaves, as the comprehension's reading wants it -/
theorem lc_of {σ : L2.St} {H : Hp} {Q : VK} {m : Bool} {vs : List Nat} (hs : ∀ i ∈ t.slots, i ∈ vs) (h : tE X E (dComp m t vs d c de) σ H Q) :
    tLc (tI X E d) (t.rd X.K) (tHideT (tT X E0 c)) (tHide (tE X E0 de)) vs σ H Q := by
  obtain ⟨ρ, fr, st, A, h⟩ := h
  refine ⟨ρ, fr, st, A, Res.wp_mono (Res.wp_bind h) (fun sr st1 h1 ρ1 H1 J e1 r1 wk D nD => ?_) fun _ _ z => z⟩
  have A1 := A.step e1 r1
  -- the end: the new list
  have fin : ∀ (ys : List PV) (st2 : Store) (ρ2 : Cs) (H2 : Hp) (acc : List V), H2 D = some (.lst acc) → Ext ρ1 H1 ρ2 (del H2 (some D)) → RS X.K ρ2 (del H2 (some D)) X.mg st2 → VRs X.K ρ2 (del H2 (some D)) X.mg ys acc →
      (if m then Res.ok (PV.cell st2.length) (st2 ++ [.lst ys]) else match datas ys with
        | some ds => Res.ok (.d (.list ds)) st2
        | none => .bad).wp (fun v st' => ∀ ρ' H' x, Ext ρ H ρ' H' → RS X.K ρ' H' X.mg st' → VR X.K ρ' H' X.mg v x → Q x H') (okX X E σ ρ H) → Q (.ref D) H2 := by
    intro ys st2 ρ2 H2 acc hD e2 r2 v2 hq
    have eu : upd (del H2 (some D)) D (.lst acc) = H2 := by
      funext a
      by_cases ha : a = D
      · subst ha; rw [upd_same, hD]
      · rw [upd_ne ha, del_ne ha]
    have nn : del H2 (some D) D = none := del_self
    cases m with
    | true =>
      have hq : ∀ ρ' H' x, Ext ρ H ρ' H' → RS X.K ρ' H' X.mg (st2 ++ [.lst ys]) → VR X.K ρ' H' X.mg (.cell st2.length) x → Q x H' := hq
      rw [← eu]
      exact hq (ρ2.push D) _ _ ((e1.trans e2).trans (r2.extC nn)) (r2.cellL v2 nn) r2.cellAt
    | false =>
      cases q : datas ys with
      | none => rw [q] at hq; exact hq.elim
      | some ds =>
        rw [q] at hq
        have e3 := datas_eq q
        subst e3
        have hq : ∀ ρ' H' x, Ext ρ H ρ' H' → RS X.K ρ' H' X.mg st2 → VR X.K ρ' H' X.mg (.d (.list ds)) x → Q x H' := hq
        rw [← eu]
        exact hq ρ2 _ _ ((e1.trans e2).trans (r2.ext nn)) (r2.new nn) (.d (new_lst r2 v2.toD nn))
  have d0 : del (upd H1 D (.lst [])) (some D) = H1 := by
    funext a
    by_cases ha : a = D
    · subst ha; rw [del_self, nD]
    · rw [del_ne ha, upd_ne ha]
  cases sr with
  | vals xs =>
    have h1 := Res.wp_bind h1
    have h1 : (if sizeOk xs.length then loopC t c de (wipeF fr vs) xs st1 else .bad).wp _ _ := h1
    split at h1
    · rename_i hz
      have hz := sizeOk_le hz
      refine ⟨fun i n H2 => n = xs.length - i ∧ i ≤ xs.length ∧ ∃ ρ2 st2 acc ys, H2 D = some (.lst acc) ∧ Ext ρ1 H1 ρ2 (del H2 (some D)) ∧ RS X.K ρ2 (del H2 (some D)) X.mg st2 ∧ VRs X.K ρ2 (del H2 (some D)) X.mg ys acc ∧ acc.length ≤ i ∧
        (loopC t c de (wipeF fr vs) (xs.drop i) st2).wp (fun zs st3 => (if m then Res.ok (PV.cell st3.length) (st3 ++ [.lst (ys ++ zs)]) else match datas (ys ++ zs) with
          | some ds => Res.ok (.d (.list ds)) st3
          | none => .bad).wp (fun v st' => ∀ ρ' H' x, Ext ρ H ρ' H' → RS X.K ρ' H' X.mg st' → VR X.K ρ' H' X.mg v x → Q x H') (okX X E σ ρ H)) (fun _ _ => True),
        ⟨xs.length, by simp, Nat.zero_le _, ρ1, st1, [], [], upd_same, by rw [d0]; exact Ext.refl _ _, by rw [d0]; exact r1, .nil, Nat.zero_le _, Res.wp_mono h1 (fun _ _ q => q) fun _ _ _ => trivial⟩, ?_⟩
      rintro i n H2 ⟨rfl, hi, ρ2, st2, acc, ys, hD, e2, r2, v2, hl, hq⟩
      obtain ⟨wk1, wk2⟩ := wk i ρ2 H2 (some D) st2 (fun d' z => by cases z; exact ⟨_, hD⟩) e2 r2
      by_cases hlt : i < xs.length
      · have hd : xs.drop i = xs[i] :: xs.drop (i + 1) := List.drop_eq_getElem_cons hlt
        rw [hd] at hq
        obtain ⟨g1, g2⟩ := wk1 xs[i] (by show some xs[i]? = _; rw [List.getElem?_eq_getElem hlt])
        refine .inr ⟨g1, fun H' => ∃ ρ2 st2 acc ys, H' D = some (.lst acc) ∧ Ext ρ1 H1 ρ2 (del H' (some D)) ∧ RS X.K ρ2 (del H' (some D)) X.mg st2 ∧ VRs X.K ρ2 (del H' (some D)) X.mg ys acc ∧ acc.length ≤ i + 1 ∧
          (loopC t c de (wipeF fr vs) (xs.drop (i + 1)) st2).wp (fun zs st3 => (if m then Res.ok (PV.cell st3.length) (st3 ++ [.lst (ys ++ zs)]) else match datas (ys ++ zs) with
            | some ds => Res.ok (.d (.list ds)) st3
            | none => .bad).wp (fun v st' => ∀ ρ' H' x, Ext ρ H ρ' H' → RS X.K ρ' H' X.mg st' → VR X.K ρ' H' X.mg v x → Q x H') (okX X E σ ρ H)) (fun _ _ => True),
          fun H' q => ⟨xs.length - (i + 1), by omega, rfl, hlt, q⟩, fun x H' y => ?_⟩
        obtain ⟨e3, r3, v3, dd⟩ := g2 x H' y
        have hD' : H' D = some (.lst acc) := (dd D rfl).trans hD
        have F3 : FR X.K ρ2 (del H' (some D)) X.mg (wipeF fr vs) (wipe σ vs) := ((A1.fr.mono e2).mono e3).wipe vs
        refine (turnC_ok hD' (by omega) ⟨F3, r3⟩ v3 hs (Res.wp_bind hq) fun o st4 ρ4 H4 acc4 hF e4 r4 hD4 ho => ?_)
        have hF := Res.wp_bind hF
        cases o with
        | none =>
          have ho : acc4 = acc := ho
          subst ho
          exact ⟨ρ4, st4, acc4, ys, hD4, (e2.trans e3).trans e4, r4, (v2.mono e3).mono e4, by omega, hF⟩
        | some y1 =>
          obtain ⟨z, rfl, vz⟩ := ho
          refine ⟨ρ4, st4, acc ++ [z], ys ++ [y1], hD4, (e2.trans e3).trans e4, r4, ((v2.mono e3).mono e4).snoc vz, by simp; omega, Res.wp_mono hF (fun zs st5 q => ?_) fun _ _ q => q⟩
          have e5 : ys ++ [y1] ++ zs = ys ++ (y1 :: zs) := by simp
          rw [e5]
          exact q
      · have he : i = xs.length := by omega
        subst he
        refine .inl ⟨wk2 (by show some xs[xs.length]? = _; rw [List.getElem?_eq_none (Nat.le_refl _)]), ?_⟩
        rw [List.drop_length] at hq
        have hq : (if m then Res.ok (PV.cell st2.length) (st2 ++ [.lst (ys ++ [])]) else match datas (ys ++ []) with
          | some ds => Res.ok (.d (.list ds)) st2
          | none => .bad).wp _ _ := hq
        rw [List.append_nil] at hq
        exact fin ys st2 ρ2 H2 acc hD e2 r2 v2 hq
    · exact h1.elim
  | live nn k num =>
    have h1 := Res.wp_bind h1
    have h1 : (if sizeOk k then loopCF t c de (wipeF fr vs) (.live nn k num) k 0 st1 else .bad).wp _ _ := h1
    split at h1
    · rename_i hz
      have hz := sizeOk_le hz
      refine ⟨fun i n H2 => i + n = k ∧ ∃ ρ2 st2 acc ys, H2 D = some (.lst acc) ∧ Ext ρ1 H1 ρ2 (del H2 (some D)) ∧ RS X.K ρ2 (del H2 (some D)) X.mg st2 ∧ VRs X.K ρ2 (del H2 (some D)) X.mg ys acc ∧ acc.length ≤ i ∧
        (loopCF t c de (wipeF fr vs) (.live nn k num) n i st2).wp (fun zs st3 => (if m then Res.ok (PV.cell st3.length) (st3 ++ [.lst (ys ++ zs)]) else match datas (ys ++ zs) with
          | some ds => Res.ok (.d (.list ds)) st3
          | none => .bad).wp (fun v st' => ∀ ρ' H' x, Ext ρ H ρ' H' → RS X.K ρ' H' X.mg st' → VR X.K ρ' H' X.mg v x → Q x H') (okX X E σ ρ H)) (fun _ _ => True),
        ⟨k, by simp, ρ1, st1, [], [], upd_same, by rw [d0]; exact Ext.refl _ _, by rw [d0]; exact r1, .nil, Nat.zero_le _, Res.wp_mono h1 (fun _ _ q => q) fun _ _ _ => trivial⟩, ?_⟩
      rintro i n H2 ⟨hi, ρ2, st2, acc, ys, hD, e2, r2, v2, hl, hq⟩
      obtain ⟨wk1, wk2⟩ := wk i ρ2 H2 (some D) st2 (fun d' z => by cases z; exact ⟨_, hD⟩) e2 r2
      cases n with
      | zero => exact hq.elim
      | succ n =>
        have hq : (match (Src.live nn k num).item i st2 with
          | none => Res.bad
          | some none => .ok [] st2
          | some (some v) => (turnC t c de (wipeF fr vs) v st2).bind fun y st1 => (loopCF t c de (wipeF fr vs) (.live nn k num) n (i + 1) st1).bind fun ys st2 => .ok (consO y ys) st2).wp _ _ := hq
        cases qi : (Src.live nn k num).item i st2 with
        | none => rw [qi] at hq; exact hq.elim
        | some oi =>
          rw [qi] at hq
          cases oi with
          | none =>
            have hq : (if m then Res.ok (PV.cell st2.length) (st2 ++ [.lst (ys ++ [])]) else match datas (ys ++ []) with
              | some ds => Res.ok (.d (.list ds)) st2
              | none => .bad).wp _ _ := hq
            rw [List.append_nil] at hq
            exact .inl ⟨wk2 qi, fin ys st2 ρ2 H2 acc hD e2 r2 v2 hq⟩
          | some vi =>
            obtain ⟨g1, g2⟩ := wk1 vi qi
            refine .inr ⟨g1, fun H' => ∃ ρ2 st2 acc ys, H' D = some (.lst acc) ∧ Ext ρ1 H1 ρ2 (del H' (some D)) ∧ RS X.K ρ2 (del H' (some D)) X.mg st2 ∧ VRs X.K ρ2 (del H' (some D)) X.mg ys acc ∧ acc.length ≤ i + 1 ∧
              (loopCF t c de (wipeF fr vs) (.live nn k num) n (i + 1) st2).wp (fun zs st3 => (if m then Res.ok (PV.cell st3.length) (st3 ++ [.lst (ys ++ zs)]) else match datas (ys ++ zs) with
                | some ds => Res.ok (.d (.list ds)) st3
                | none => .bad).wp (fun v st' => ∀ ρ' H' x, Ext ρ H ρ' H' → RS X.K ρ' H' X.mg st' → VR X.K ρ' H' X.mg v x → Q x H') (okX X E σ ρ H)) (fun _ _ => True),
              fun H' q => ⟨n, Nat.lt_succ_self _, by omega, q⟩, fun x H' y => ?_⟩
            obtain ⟨e3, r3, v3, dd⟩ := g2 x H' y
            have hD' : H' D = some (.lst acc) := (dd D rfl).trans hD
            have F3 : FR X.K ρ2 (del H' (some D)) X.mg (wipeF fr vs) (wipe σ vs) := ((A1.fr.mono e2).mono e3).wipe vs
            refine (turnC_ok hD' (by omega) ⟨F3, r3⟩ v3 hs (Res.wp_bind hq) fun o st4 ρ4 H4 acc4 hF e4 r4 hD4 ho => ?_)
            have hF := Res.wp_bind hF
            cases o with
            | none =>
              have ho : acc4 = acc := ho
              subst ho
              exact ⟨ρ4, st4, acc4, ys, hD4, (e2.trans e3).trans e4, r4, (v2.mono e3).mono e4, by omega, hF⟩
            | some y1 =>
              obtain ⟨z, rfl, vz⟩ := ho
              refine ⟨ρ4, st4, acc ++ [z], ys ++ [y1], hD4, (e2.trans e3).trans e4, r4, ((v2.mono e3).mono e4).snoc vz, by simp; omega, Res.wp_mono hF (fun zs st5 q => ?_) fun _ _ q => q⟩
              have e5 : ys ++ [y1] ++ zs = ys ++ (y1 :: zs) := by simp
              rw [e5]
              exact q
    · exact h1.elim
/-- a comprehension as a value -/
theorem se_comp {m : Bool} (hc : X.calm = true) (hN : X.N.Nodup) (hi : PI X tg iter (tI X E d)) (ok : BlkOk X.N X.env.scope scope own) (hs : ∀ i ∈ t.slots, i ∈ own.map (·.2))
    (hg : ∀ (s : Shared) (H : Hp) (C : Addr) (cl : List (Str × Addr)) (fp : List Addr), PG (X.blk s H scope (compEnvC scope cl C X.env) fp) tg (t.rd X.K))
    (ht : ∀ (s : Shared) (H : Hp) (C : Addr) (cl : List (Str × Addr)) (fp : List Addr), PTs (X.blk s H scope (compEnvC scope cl C X.env) fp) ifs (tT X E0 c))
    (he : ∀ (s : Shared) (H : Hp) (C : Addr) (cl : List (Str × Addr)) (fp : List Addr), PE (X.blk s H scope (compEnvC scope cl C X.env) fp) elt (tE X E0 de)) (hf : ∀ x, foldedSetIterable iter X.env x = pure x) :
    PE X (.ListComp elt [⟨tg, iter, ifs, 0⟩] scope pos) (tE X E (dComp m t (own.map (·.2)) d c de)) :=
  ⟨fun pins s σ H Q I h => (pe_lc hc hN hi ok hg (fun s H C cl fp => pts_hide (ht s H C cl fp)) (fun s H C cl fp => pe_hide (he s H C cl fp)) hf).run pins s σ H Q I (lc_of hs h)⟩
end
end Sr
/-! The binding of arguments; the text's own defs: what they keep, their calls. -/
namespace Sr
open PySem L2

/-! ### binding -/
/-- parameters by their names alone -/
structure Plain (p : Arguments) (ps : List Str) : Prop where
  po : p.posonlyargs = []
  ar : p.args.map (·.arg) = ps
  va : p.vararg = none
  ko : p.kwonlyargs = []
  kd : p.kw_defaults = []
  kw : p.kwarg = none
  df : p.defaults = []
/-- each keyword's name is a parameter that was not given yet -/
def kwFit (ps : List Str) : List (Str × Value) → List (Str × Value) → Bool
  | _, [] => true
  | slots, (k, v) :: r => ps.contains k && (slots.lookup k).isNone && kwFit ps (slots ++ [(k, v)]) r
def bound (ps : List Str) (slots : List (Str × Value)) : List (Str × Value) := ps.filterMap fun n => (slots.lookup n).map (n, ·)
theorem kw_loop (ps : List Str) {f : Str × Value → List (Str × Value) × List (Str × Value) → Sem (ForInStep (List (Str × Value) × List (Str × Value)))} : ∀ (kw slots extra : List (Str × Value)), kwFit ps slots kw = true →
    (∀ k v (sl ex : List (Str × Value)), ps.contains k = true → (sl.lookup k).isNone = true → f (k, v) (sl, ex) = pure (.yield (sl ++ [(k, v)], ex))) →
    forIn kw (slots, extra) f = (pure (slots ++ kw, extra) : Sem _)
  | [], slots, extra, _, _ => by rw [List.forIn_nil, List.append_nil]
  | (k, v) :: r, slots, extra, h, hf => by
    simp only [kwFit, Bool.and_eq_true] at h
    rw [List.forIn_cons, hf k v slots extra h.1.1 h.1.2]
    show forIn r _ f = _
    rw [kw_loop ps r (slots ++ [(k, v)]) extra h.2 hf, List.append_assoc]
    rfl
theorem bind_ok {fd : FuncData} {args : Args} {ps : List Str} (P : Plain fd.params ps) (hd : fd.defaults = .none) (hl : args.pos.length ≤ ps.length) (hk : kwFit ps (ps.zip args.pos) args.kw = true)
    (hm : (ps.filter fun n => ((ps.zip args.pos ++ args.kw).lookup n).isNone) = []) : bindArgs fd args = pure (bound ps (ps.zip args.pos ++ args.kw)) := by
  obtain ⟨p1, p2, p3, p4, p5, p6, p7⟩ := P
  unfold bindArgs
  simp only [p1, p2, p3, p4, p6, hd, List.map_nil, List.nil_append, List.append_nil]
  rw [kw_loop ps args.kw (ps.zip args.pos) [] hk (fun k v sl ex h1 h2 => by
    simp only [h1, Bool.true_or, if_true]
    have h3 : (sl.lookup k).isSome = false := by
      cases q : sl.lookup k with
      | none => rfl
      | some x => rw [q] at h2; cases h2
    rw [h3]
    rfl)]
  simp only [pure_bind]
  have hs : seqItems? Value.none = pure none := rfl
  rw [hs]
  simp only [pure_bind, Option.getD_none, List.length_nil, Nat.zero_sub, List.drop_nil, Nat.sub_zero]
  have h1 : ¬ (args.pos.length > ps.length) := by omega
  have h2 : (ps.take ps.length).filter (fun n => ((ps.zip args.pos ++ args.kw).lookup n).isNone) = [] := by rw [List.take_length]; exact hm
  simp [h1, hm, bound]
theorem zip_lookup {ps : List Str} {us : List Value} (nd : ps.Nodup) (hl : us.length = ps.length) : bound ps (ps.zip us) = ps.zip us ∧ ∀ n ∈ ps, ((ps.zip us).lookup n).isSome = true := by
  have gen : ∀ (ps : List Str) (us : List Value) (pre : List (Str × Value)), (∀ n ∈ ps, pre.lookup n = none) → ps.Nodup → us.length = ps.length →
      bound ps (pre ++ ps.zip us) = ps.zip us ∧ ∀ n ∈ ps, ((pre ++ ps.zip us).lookup n).isSome = true := by
    intro ps
    induction ps with
    | nil => intro us pre _ _ _; exact ⟨rfl, fun n h => nomatch h⟩
    | cons p ps ih =>
      intro us pre hp nd hl
      cases us with
      | nil => simp at hl
      | cons u us =>
        obtain ⟨n1, n2⟩ := List.nodup_cons.mp nd
        have e : (p :: ps).zip (u :: us) = (p, u) :: ps.zip us := rfl
        have lk : ∀ n, n ≠ p → (pre ++ (p, u) :: ps.zip us).lookup n = ((pre ++ [(p, u)]) ++ ps.zip us).lookup n := fun n _ => by rw [List.append_assoc]; rfl
        have l0 : (pre ++ (p, u) :: ps.zip us).lookup p = some u := by
          rw [List.lookup_append, hp p List.mem_cons_self, List.lookup_cons_self]
          rfl
        have hp2 : ∀ n ∈ ps, (pre ++ [(p, u)]).lookup n = none := fun n hn => by
          have hne : (n == p) = false := beq_eq_false_iff_ne.mpr fun z => n1 (by rw [← z]; exact hn)
          rw [List.lookup_append, hp n (List.mem_cons_of_mem _ hn), List.lookup_cons, hne]
          rfl
        obtain ⟨i1, i2⟩ := ih us (pre ++ [(p, u)]) hp2 n2 (by simpa using hl)
        rw [List.append_assoc] at i1 i2
        refine ⟨?_, fun n hn => ?_⟩
        · rw [e]
          have e2 : bound (p :: ps) (pre ++ (p, u) :: ps.zip us) = (p, u) :: bound ps (pre ++ (p, u) :: ps.zip us) := by
            unfold bound
            rw [List.filterMap_cons, l0]
            rfl
          rw [e2]
          exact congrArg ((p, u) :: ·) i1
        · rw [e]
          rcases List.mem_cons.mp hn with z | z
          · rw [z, l0]; rfl
          · exact i2 n z
  have := gen ps us [] (fun _ _ => rfl) nd hl
  simpa using this
theorem binds_pos {K : PySem.W.Frag} {fd : FuncData} {ps : List Str} (P : Plain fd.params ps) (hd : fd.defaults = .none) (nd : ps.Nodup) : Binds K fd ps [] := by
  refine Binds.all fun us hl => ?_
  obtain ⟨h1, h2⟩ := zip_lookup nd hl
  rw [bind_ok (args := ⟨us, []⟩) P hd (by show us.length ≤ _; omega) rfl (by
    show (ps.filter fun n => ((ps.zip us ++ []).lookup n).isNone) = []
    rw [List.append_nil, List.filter_eq_nil_iff]
    intro n hn
    have := h2 n hn
    cases q : (ps.zip us).lookup n with
    | none => rw [q] at this; cases this
    | some v => simp)]
  show pure (bound ps (ps.zip us ++ [])) = _
  rw [List.append_nil, h1]
/-! keywords -/
theorem bound_zip {slots : List (Str × Value)} : ∀ {ps : List Str} {full : List Value}, ps.length = full.length → (∀ (i : Nat) (p : Str) (v : Value), ps[i]? = some p → full[i]? = some v → slots.lookup p = some v) → bound ps slots = ps.zip full
  | [], [], _, _ => rfl
  | [], _ :: _, h, _ => by simp at h
  | _ :: _, [], h, _ => by simp at h
  | p :: ps, v :: full, h, k => by
    have e : bound (p :: ps) slots = (p, v) :: bound ps slots := by
      unfold bound
      rw [List.filterMap_cons, k 0 p v rfl rfl]
      rfl
    rw [e, bound_zip (by simpa using h) fun i q u h1 h2 => k (i + 1) q u (by simpa using h1) (by simpa using h2)]
    rfl
theorem lookup_zip {α : Type} : ∀ {ps : List Str} {us : List α} {i : Nat} {p : Str} {v : α}, ps.Nodup → ps[i]? = some p → us[i]? = some v → (ps.zip us).lookup p = some v
  | [], _, _, _, _, _, h, _ => by simp at h
  | _ :: _, [], _, _, _, _, _, h => by simp at h
  | q :: ps, u :: us, 0, p, v, _, h1, h2 => by
    simp at h1 h2
    subst h1 h2
    exact List.lookup_cons_self
  | q :: ps, u :: us, i + 1, p, v, nd, h1, h2 => by
    obtain ⟨n1, n2⟩ := List.nodup_cons.mp nd
    have h1 : ps[i]? = some p := by simpa using h1
    have hne : (p == q) = false := beq_eq_false_iff_ne.mpr fun z => n1 (by rw [← z]; exact List.mem_of_getElem? h1)
    show List.lookup p ((q, u) :: ps.zip us) = _
    rw [List.lookup_cons, hne]
    exact lookup_zip n2 h1 (by simpa using h2)
theorem lookup_zip_none {α : Type} : ∀ {ps : List Str} {us : List α} {p : Str}, (∀ i, i < us.length → ps[i]? ≠ some p) → (ps.zip us).lookup p = none
  | [], _, _, _ => rfl
  | _ :: _, [], _, _ => rfl
  | q :: ps, u :: us, p, h => by
    have hne : (p == q) = false := beq_eq_false_iff_ne.mpr fun z => h 0 (by simp) (by simp [z])
    show List.lookup p ((q, u) :: ps.zip us) = _
    rw [List.lookup_cons, hne]
    exact lookup_zip_none fun i hi => by simpa using h (i + 1) (by simpa using hi)
/-- the keywords' values in the order of the parameters that lack -/
def inOrder {α : Type} (zs : List α) (os : List Nat) : List α := os.filterMap fun j => zs[j]?
/-- n positional values, keywords ks, whose places are os -/
def kwGood (ps ks : List Str) (n : Nat) (os : List Nat) : Bool := decide (ks.Nodup) && decide (os.length = ks.length) && decide (n + ks.length = ps.length) && os.all (fun j => decide (j < ks.length)) &&
  (List.range os.length).all (fun i => decide (ps[n + i]? = (os[i]?).bind fun j => ks[j]?)) && ks.all (fun k => ps.contains k && !(ps.take n).contains k) && ps.all (fun p => (ps.take n).contains p || ks.contains p)
theorem inOrder_length {α : Type} {zs : List α} : ∀ {os : List Nat}, (∀ j ∈ os, j < zs.length) → (inOrder zs os).length = os.length ∧ ∀ (i : Nat), (inOrder zs os)[i]? = (os[i]?).bind fun j => zs[j]?
  | [], _ => ⟨rfl, fun i => by simp [inOrder]⟩
  | j :: os, h => by
    obtain ⟨h1, h2⟩ := inOrder_length (zs := zs) (os := os) fun k hk => h k (List.mem_cons_of_mem _ hk)
    have hj0 : j < zs.length := h j List.mem_cons_self
    have hj : zs[j]? = some (zs[j]'hj0) := List.getElem?_eq_getElem hj0
    have e : inOrder zs (j :: os) = (zs[j]'hj0) :: inOrder zs os := by
      unfold inOrder
      rw [List.filterMap_cons, hj]
    rw [e]
    refine ⟨by simp [h1], fun i => ?_⟩
    cases i with
    | zero => simp [hj]
    | succ i => simpa using h2 i
theorem Vals.inOrder {vs : List V} {us : List Value} (r : Vals vs us) (os : List Nat) : Vals (inOrder vs os) (inOrder us os) := by
  induction os with
  | nil => exact .nil
  | cons j os ih =>
    unfold Sr.inOrder at ih ⊢
    rw [List.filterMap_cons, List.filterMap_cons]
    cases q : vs[j]? with
    | none => rw [r.none_of q]; exact ih
    | some x =>
      obtain ⟨u, hu, ru⟩ := r.get q
      rw [hu]
      exact .cons ru ih
theorem kw_fits {ps : List Str} : ∀ {ks : List Str} {ws : List Value} {slots : List (Str × Value)}, ks.length = ws.length → ks.Nodup → (∀ k ∈ ks, ps.contains k = true ∧ slots.lookup k = none) → kwFit ps slots (ks.zip ws) = true
  | [], [], _, _, _, _ => rfl
  | [], _ :: _, _, h, _, _ => by simp at h
  | _ :: _, [], _, h, _, _ => by simp at h
  | k :: ks, w :: ws, slots, h, nd, hk => by
    obtain ⟨n1, n2⟩ := List.nodup_cons.mp nd
    obtain ⟨k1, k2⟩ := hk k List.mem_cons_self
    show (ps.contains k && (slots.lookup k).isNone && kwFit ps (slots ++ [(k, w)]) (ks.zip ws)) = true
    rw [k1, k2, kw_fits (by simpa using h) n2 fun q hq => ?_]
    · rfl
    · obtain ⟨q1, q2⟩ := hk q (List.mem_cons_of_mem _ hq)
      have hne : (q == k) = false := beq_eq_false_iff_ne.mpr fun z => n1 (by rw [← z]; exact hq)
      exact ⟨q1, by rw [List.lookup_append, q2, List.lookup_cons, hne]; rfl⟩
theorem binds_kw {K : PySem.W.Frag} {fd : FuncData} {ps ks : List Str} {n : Nat} {os : List Nat} (P : Plain fd.params ps) (hd : fd.defaults = .none) (nd : ps.Nodup) (hg : kwGood ps ks n os = true) {us ws : List Value} (hu : us.length = n) (hw : ws.length = ks.length) (s : Shared) :
    BindsTo s fd ⟨us, ks.zip ws⟩ (ps.zip (us ++ inOrder ws os)) := by
  unfold kwGood at hg
  simp only [Bool.and_eq_true, decide_eq_true_eq, List.all_eq_true, Bool.or_eq_true, Bool.not_eq_true'] at hg
  obtain ⟨⟨⟨⟨⟨⟨g1, g2⟩, g3⟩, g4⟩, g5⟩, g6⟩, g7⟩ := hg
  have hl : us.length ≤ ps.length := by omega
  have out : ∀ k, (ps.take n).contains k = false → (ps.zip us).lookup k = none := fun k hk => lookup_zip_none fun i hi z => by
    have : k ∈ ps.take n := List.mem_of_getElem? (i := i) (by rw [List.getElem?_take_of_lt (by omega)]; exact z)
    rw [List.contains_iff_mem.mpr this] at hk
    cases hk
  have i0 := inOrder_length (zs := ws) (os := os) fun j hj => by rw [hw]; exact g4 j hj
  have lk : ∀ (i : Nat) (p : Str) (v : Value), ps[i]? = some p → (us ++ inOrder ws os)[i]? = some v → (ps.zip us ++ ks.zip ws).lookup p = some v := by
    intro i p v h1 h2
    rw [List.lookup_append]
    by_cases hi : i < us.length
    · rw [List.getElem?_append_left hi] at h2
      rw [lookup_zip nd h1 h2]
      rfl
    · rw [List.getElem?_append_right (by omega), i0.2] at h2
      have hi2 : i - us.length < os.length := by
        cases q : os[i - us.length]? with
        | none => rw [q] at h2; cases h2
        | some j => exact (List.getElem?_eq_some_iff.mp q).1
      have e := g5 (i - us.length) (List.mem_range.mpr hi2)
      have ei : n + (i - us.length) = i := by omega
      rw [ei, h1] at e
      cases q : os[i - us.length]? with
      | none => rw [q] at h2; cases h2
      | some j =>
        rw [q] at h2 e
        have h2 : ws[j]? = some v := h2
        have e : some p = ks[j]? := e
        have hk : p ∈ ks := List.mem_of_getElem? e.symm
        rw [out p (g6 p hk).2, lookup_zip g1 e.symm h2]
        rfl
  have hz : ps.length = (us ++ inOrder ws os).length := by rw [List.length_append, i0.1]; omega
  refine .of_eq ?_
  rw [bind_ok (args := ⟨us, ks.zip ws⟩) P hd hl (kw_fits hw.symm g1 fun k hk => ⟨(g6 k hk).1, out k (g6 k hk).2⟩) ?_]
  · show pure (bound ps (ps.zip us ++ ks.zip ws)) = _
    rw [bound_zip hz lk]
  · rw [List.filter_eq_nil_iff]
    intro p hp
    obtain ⟨i, hi, e⟩ := List.getElem_of_mem hp
    have h1 : ps[i]? = some p := by rw [List.getElem?_eq_getElem hi, e]
    have hi2 : i < (us ++ inOrder ws os).length := by omega
    have := lk i p _ h1 (List.getElem?_eq_getElem hi2)
    simp [this]

/-! ### the text's own defs -/
/-- as FnOk, where no repr runs around -/
structure FnG (P : Program) (w : World) (K : PySem.W.Frag) (mg : Str → Option Value) (base : Heap) (k : Nat) (f : Addr) (fd : FuncData) (ps : List Str) (sp : Sp) : Prop where
  len : ∀ vs H Q E, sp vs H Q E → vs.length = ps.length
  run : ∀ (A : Around) (outer : List Env) (s : Shared) (H : Hp) (args : Args) (us : List Value) (vs : List V) (Q : VK) (E : XK), Room k A → A.guards = some [] → Env0 P w K mg base A outer s H → BindsTo s fd args (ps.zip us) → Vals vs us → sp vs H Q E →
    codeAny (model P w) A (.call (.ref f) args) (CR (CX P w) outer P w H s Q E) s
/-- what a def keeps: it answers as F does -/
def spF (K : PySem.W.Frag) (mg : Str → Option Value) (n : Nat) (F : List PV → Store → Res PV) : Sp := fun vs H Q E => vs.length = n ∧ ∃ ρ st args, RS K ρ H mg st ∧ VRs K ρ H mg args vs ∧
  (F args st).wp (fun v st' => ∀ ρ' H' x, Ext ρ H ρ' H' → RS K ρ' H' mg st' → VR K ρ' H' mg v x → Q x H') fun e st' => ∀ ρ' H' c dx, Ext ρ H ρ' H' → RS K ρ' H' mg st' → XR K ρ' H' mg e c dx → E c dx H'
section
variable {X : Cx} {E : WX} {k : Nat} {f : Addr} {fd : FuncData} {ps : List Str}
theorem call_fn {sp : Sp} {pins : List (Addr × Obj)} {σ : L2.St} {H : Hp} {s : Shared} {Q : VK} {pos : List Value} {kw : List (Str × Value)} {us : List Value} {vs : List V} (G : FnG X.prog X.w X.K X.mg X.base k f fd ps sp) (hr : Room k X.A) (hgd : X.A.guards = some []) (tk : Takes X E)
    (I : Inv X pins σ H s) (hb : BindsTo s fd ⟨pos, kw⟩ (ps.zip us)) (r : Vals vs us) (h : sp vs H Q fun c dx H' => E c dx σ H') : wpAny (model X.prog X.w) X.A (call (.ref f) pos kw) (EP X pins σ Q) X.xe s := by
  refine wpAny_call (codeAny_mono (G.run X.A X.stack s H ⟨pos, kw⟩ us vs Q _ hr hgd I.env0 hb r h) fun r s' hq => ?_)
  cases r with
  | error e => exact tk e s' (XE.of_call I (fun _ _ _ z => z) hq)
  | ok fl =>
    cases fl with
    | ret u => exact I.after hq
    | next => exact False.elim hq
    | brk => exact False.elim hq
    | cont => exact False.elim hq
end
end Sr
/-! Defs by their bodies; calls in the caller's store and in a store of their own. -/
namespace Sr
open PySem L2
open PyProof.Rows (envOfC)

/-! ### a def by its body -/
def startF (n : Nat) (args : List PV) : Fr := args.map some ++ List.replicate (n - args.length) none
/-- what a body's answer is to the caller -/
def retF (r : RO) : Res PV := match r with
  | .rt v st => .ok v st
  | .nx _ st => .ok (.d .none) st
  | .ex e _ st => .exc e st
  | _ => .bad
def bodyF (n np : Nat) (d : DS) : List PV → Store → Res PV := fun args st => if args.length = np then retF (d (startF n args) st) else .bad
theorem FR.start {K : PySem.W.Frag} {ρ : Cs} {H : Hp} {mg : Str → Option Value} {N : List Str} {args : List PV} {vs : List V} (h : VRs K ρ H mg args vs) : FR K ρ H mg (startF N.length args) (L2.start N vs) := by
  have hl := h.length
  refine ⟨by unfold startF L2.start; simp [hl], fun i x e => ?_⟩
  unfold startF at e
  unfold L2.start
  by_cases hi : i < args.length
  · rw [List.getElem?_append_left (by simpa using hi), List.getElem?_map] at e
    cases q : args[i]? with
    | none => rw [q] at e; cases e
    | some y =>
      rw [q] at e
      cases e
      obtain ⟨v, h1, h2⟩ := h.get q
      exact ⟨v, by rw [List.getElem?_append_left (by rw [List.length_map, ← hl]; exact hi), List.getElem?_map, h1]; rfl, h2⟩
  · rw [List.getElem?_append_right (by simpa using hi), List.getElem?_replicate] at e
    split at e <;> cases e
section
variable {P : Program} {w : World} {K : PySem.W.Frag} {mg : Str → Option Value} {base : Heap} {k : Nat} {f : Addr} {fd : FuncData} {x qual : Str} {params : Arguments} {body : List Stmt} {scope : Scope} {N ps : List Str} {d : DS}
theorem fnG_of (D : FunD K x qual params body scope [] [] f fd) (S : FnScope N ps scope)
    (hb : ∀ (cv : Value) (A : Around) (o : List Env) (s : Shared) (H : Hp) (W : XK), Room k (A.deeper (envOfC qual scope s.heap.objs.size f cv)) → (A.deeper (envOfC qual scope s.heap.objs.size f cv)).guards = some [] →
      PSs (cxOf (CX P w) P w K mg base N qual scope f cv A o s H W) body (tS (cxOf (CX P w) P w K mg base N qual scope f cv A o s H W) (fun c dx _ H' => W c dx H') d)) :
    FnG P w K mg base (k + 1) f fd ps (spF K mg ps.length (bodyF N.length ps.length d)) := by
  obtain ⟨oc, od, dV, kV, doc, pm, an, cv, ct, osl, rfl, lk, hcd, _, _⟩ := D.ex
  refine ⟨fun vs H Q E h => h.1, ?_⟩
  intro A o s H args us vs Q W hr hgd e0 hbd rv hsp
  obtain ⟨hl, ρ, st, as, r0, v0, hq⟩ := hsp
  have keep : ∀ b ob, base.get? b = some ob → s.heap.get? b = some ob := fun b ob z => (e0.bs b ob z).1
  have inK : K.In s.heap := e0.mod.kin.keeps keep
  have lim := e0.mod.nolimit.keeps keep
  have kinds : ∀ y ∈ ps.zip us, scope.names.lookup y.1 = some .local ∨ (scope.names.lookup y.1 = some .cell ∧ ((cellsFrom (s.heap.objs.size + 1) scope.names []).lookup y.1).isSome = true) := by
    rintro ⟨n, v⟩ hy
    rcases S.par n (List.of_mem_zip hy).1 with z | z
    · exact Or.inl z
    · exact Or.inr ⟨z, PySem.W.cellsFrom_some _ _ _ (Or.inl z)⟩
  refine codeAny_call_function hr.depth (inK f _ lk) rfl S.co S.gen rfl (PySem.W.codeRec_of inK hcd) (hbd _ _ _ _ ?_)
  refine wpAny_newFunctionEnv_cells S.kind kinds fun env henv s1 hin => ?_
  cases henv
  refine ⟨lim.keeps hin.toInCall.keep, codeAny_func ?_⟩
  have gd : (A.deeper (envOfC qual scope s.heap.objs.size f cv)).guards = some [] := hgd
  have body_ok := hb cv A o s H W (hr.deeper _) gd
  have J := inv_start (CX := CX P w) (E := W) S hr.hd e0 hl rv hin
  have hal : as.length = ps.length := by rw [v0.length]; exact hl
  have hq2 : okS (cxOf (CX P w) P w K mg base N qual scope f cv A o s H W) (fun c dx _ H' => W c dx H') ρ H (d (startF N.length as) st) { nx := fun _ H' => Q .non H', rt := Q } := by
    unfold bodyF at hq
    rw [if_pos hal] at hq
    cases z : d (startF N.length as) st with
    | rt v st' => rw [z] at hq; exact hq
    | nx fr st' => rw [z] at hq; exact fun ρ' H' σ' e A' => hq ρ' H' _ e A'.rs (.d .non)
    | ex e fr st' => rw [z] at hq; exact fun ρ' H' σ' c dx e A' x => hq ρ' H' c dx e A'.rs x
    | bk fr st' => rw [z] at hq; exact hq.elim
    | ct fr st' => rw [z] at hq; exact hq.elim
    | bad => rw [z] at hq; exact hq.elim
  refine wpAny_mono (body_ok.run [] s1 (L2.start N vs) H { nx := fun _ H' => Q .non H', rt := Q } J ⟨ρ, startF N.length as, st, ⟨FR.start v0, r0⟩, hq2⟩) (fun fl s2 h2 => ?_) fun e s2 h2 => h2
  have done : ∀ {σ2 : L2.St} {H2 : Hp} {v : V} {u : Value}, Inv (cxOf (CX P w) P w K mg base N qual scope f cv A o s H W) [] σ2 H2 s2 → RelV v u → Q v H2 → CE o P w H s Q u s2 := fun {_ H2 v _} I rv q => ⟨v, H2, I.os, I.bare, I.base, I.hok, rv, q⟩
  cases fl with
  | next =>
    obtain ⟨_, _, I, q⟩ := h2
    exact done (v := .non) I rfl q
  | ret u =>
    obtain ⟨_, _, _, I, r2, q⟩ := h2
    exact done I r2 q
  | brk =>
    obtain ⟨_, _, _, q⟩ := h2
    cases q
  | cont =>
    obtain ⟨_, _, _, q⟩ := h2
    cases q
end

/-! ### calls -/
/-- what the store holds, as data -/
def frzL (f : PV → Option PyData) : List PV → Option (List PyData)
  | [] => some []
  | v :: r => match f v with
    | some d => (frzL f r).map (d :: ·)
    | none => none
def frz : Nat → Store → PV → Option PyData
  | 0, _, v => match v with
    | .d x => some x
    | _ => none
  | k + 1, st, v => match v with
    | .d x => some x
    | .tup xs => (frzL (frz k st) xs).map .tuple
    | .cell n => match st[n]? with
      | some (.lst xs) => (frzL (frz k st) xs).map .list
      | some (.dic kvs) => (frzL (frz k st) (kvs.map (·.2))).map fun ds => .dict ((kvs.map fun p => keyD p.1).zip ds)
      | _ => none
    | .fn _ => none
section
variable {K : PySem.W.Frag} {ρ ρc : Cs} {H : Hp} {mg : Str → Option Value}
theorem FzL.sub (s : ∀ a, a ∈ ρ → a ∈ ρc) {a : Addr} {vs : List V} (h : FzL ρc H a vs) : FzL ρ H a vs := ⟨h.1, fun z => h.2 (s a z)⟩
theorem FzT.sub (s : ∀ a, a ∈ ρ → a ∈ ρc) {a : Addr} {vs : List V} (h : FzT K ρc H a vs) : FzT K ρ H a vs := by
  rcases h with ⟨h, n⟩ | h
  · exact .inl ⟨h, fun z => n (s a z)⟩
  · exact .inr h
mutual
theorem DR.sub (s : ∀ a, a ∈ ρ → a ∈ ρc) : ∀ {d : PyData} {v : V}, DR K ρc H d v → DR K ρ H d v
  | _, _, .non => .non
  | _, _, .bl b => .bl b
  | _, _, .int i => .int i
  | _, _, .str x => .str x
  | _, _, .lst h q => .lst (h.sub s) (DRs.sub s q)
  | _, _, .tup h q => .tup (h.sub s) (DRs.sub s q)
  | _, _, .dic h n q => .dic h (fun z => n (s _ z)) (DRs.sub s q)
  | _, _, .dit h z0 n q => .dit h z0 (fun z => n (s _ z)) (DRs.sub s q)
theorem DRs.sub (s : ∀ a, a ∈ ρ → a ∈ ρc) : ∀ {ds : List PyData} {vs : List V}, DRs K ρc H ds vs → DRs K ρ H ds vs
  | _, _, .nil => .nil
  | _, _, .cons h q => .cons (DR.sub s h) (DRs.sub s q)
end
theorem VRk.keys {κ : Type} {kvs : List (κ × PV)} {ws : List (κ × V)} (h : VRk K ρ H mg kvs ws) : kvs.map (·.1) = ws.map (·.1) ∧ VRs K ρ H mg (kvs.map (·.2)) (ws.map (·.2)) := by
  induction h with
  | nil => exact ⟨rfl, .nil⟩
  | cons r t ih => exact ⟨by rw [List.map_cons, List.map_cons, r.1, ih.1], .cons r.2 ih.2⟩
/-- cells of one's own, read for good -/
theorem frz_ok {st : Store} (r : RS K ρc H mg st) (s : ∀ a, a ∈ ρ → a ∈ ρc) (own : ∀ n a, ρc.at_ n = some a → a ∉ ρ) : ∀ {k : Nat} {v : PV} {x : V} {d : PyData}, VR K ρc H mg v x → frz k st v = some d → DR K ρ H d x := by
  have data : ∀ {y d : PyData} {x : V}, VR K ρc H mg (.d y) x → some y = some d → DR K ρ H d x := fun {y d x} h e => by
    have e := Option.some.inj e
    subst e
    cases h with
    | d h => exact h.sub s
  intro k
  induction k with
  | zero =>
    intro v x d h e
    cases v with
    | d y => exact data h e
    | cell n => cases e
    | tup xs => cases e
    | fn z => cases e
  | succ k ih =>
    have all : ∀ {xs : List PV} {vs : List V} {ds : List PyData}, VRs K ρc H mg xs vs → frzL (frz k st) xs = some ds → DRs K ρ H ds vs := by
      intro xs
      induction xs with
      | nil =>
        intro vs ds h e
        have e : some [] = some ds := e
        have e := Option.some.inj e
        subst e
        cases h
        exact .nil
      | cons v xs ihx =>
        intro vs ds h e
        cases h with
        | cons h1 h2 =>
          have e : (match frz k st v with
            | some d => (frzL (frz k st) xs).map (d :: ·)
            | none => none) = some ds := e
          cases q : frz k st v with
          | none => rw [q] at e; cases e
          | some d1 =>
            rw [q] at e
            have e : (frzL (frz k st) xs).map (d1 :: ·) = some ds := e
            cases q2 : frzL (frz k st) xs with
            | none => rw [q2] at e; cases e
            | some ds2 =>
              rw [q2] at e
              have e : some (d1 :: ds2) = some ds := e
              have e := Option.some.inj e
              subst e
              exact .cons (ih h1 q) (ihx h2 q2)
    intro v x d h e
    cases v with
    | d y => exact data h e
    | fn z => cases e
    | tup xs =>
      have e : (frzL (frz k st) xs).map .tuple = some d := e
      cases q : frzL (frz k st) xs with
      | none => rw [q] at e; cases e
      | some ds =>
        rw [q] at e
        have e : some (PyData.tuple ds) = some d := e
        have e := Option.some.inj e
        subst e
        cases h with
        | tup h1 h2 => exact .tup (h1.sub s) (all h2 q)
    | cell n =>
      have e : (match st[n]? with
        | some (.lst xs) => (frzL (frz k st) xs).map .list
        | some (.dic kvs) => (frzL (frz k st) (kvs.map (·.2))).map fun ds => .dict ((kvs.map fun p => keyD p.1).zip ds)
        | _ => none) = some d := e
      cases h with
      | cell hc =>
        rename_i a
        cases q : st[n]? with
        | none => rw [q] at e; cases e
        | some o =>
          rw [q] at e
          obtain ⟨b, h1, h2⟩ := r.at_ n o q
          rw [hc] at h1
          cases h1
          have na := own n a hc
          cases o with
          | lst xs =>
            obtain ⟨vs, g1, g2⟩ := h2
            have e : (frzL (frz k st) xs).map .list = some d := e
            cases q : frzL (frz k st) xs with
            | none => rw [q] at e; cases e
            | some ds =>
              rw [q] at e
              have e : some (PyData.list ds) = some d := e
              have e := Option.some.inj e
              subst e
              exact .lst ⟨.inl g1, na⟩ (all g2 q)
          | dic kvs =>
            obtain ⟨ws, g1, g2⟩ := h2
            have e : ((frzL (frz k st) (kvs.map (·.2))).map fun ds => PyData.dict ((kvs.map fun p => keyD p.1).zip ds)) = some d := e
            obtain ⟨k1, k2⟩ := g2.keys
            cases q : frzL (frz k st) (kvs.map (·.2)) with
            | none => rw [q] at e; cases e
            | some ds =>
              rw [q] at e
              have e : some (PyData.dict ((kvs.map fun p => keyD p.1).zip ds)) = some d := e
              have e := Option.some.inj e
              subst e
              have ek : (kvs.map fun p => keyD p.1) = ws.map fun p => keyD p.1 := by
                have z := congrArg (List.map keyD) k1
                rw [List.map_map, List.map_map] at z
                exact z
              rw [ek]
              exact .dic g1 na (all k2 q)
          | _ => cases e
end
/-- a call in a store of its own: data in, data out -/
def isData : PV → Bool
  | .d _ => true
  | _ => false
def isoF (F : List PV → Store → Res PV) : List PV → Store → Res PV := fun vs st => if vs.all isData then match F vs [] with
    | .ok v st' => match frz 6 st' v with
      | some d => .ok (.d d) st
      | none => .bad
    | .exc e _ => if e.fs.all fun p => isData p.2 then .exc e st else .bad
    | .bad => .bad
  else .bad
section
variable {K : PySem.W.Frag} {mg : Str → Option Value}
theorem datas_sub {ρ ρ' : Cs} {H : Hp} (s : ∀ a, a ∈ ρ' → a ∈ ρ) : ∀ {xs : List PV} {vs : List V}, xs.all isData = true → VRs K ρ H mg xs vs → VRs K ρ' H mg xs vs
  | _, _, _, .nil => .nil
  | x :: xs, _, h, .cons h1 h2 => by
    simp only [List.all_cons, Bool.and_eq_true] at h
    refine .cons ?_ (datas_sub s h.2 h2)
    cases x with
    | d y => cases h1 with | d h1 => exact .d (h1.sub s)
    | _ => cases h.1
theorem spF_iso {n : Nat} {F : List PV → Store → Res PV} {vs : List V} {H : Hp} {Q : VK} {E : XK} (h : spF K mg n (isoF F) vs H Q E) : spF K mg n F vs H Q E := by
  obtain ⟨hl, ρ, st, as, r, v, h⟩ := h
  unfold isoF at h
  split at h
  · rename_i hd
    have same : ∀ a, a ∈ (⟨ρ.l, ρ.l.length⟩ : Cs) ↔ a ∈ ρ := fun a => Iff.rfl
    refine ⟨hl, ⟨ρ.l, ρ.l.length⟩, [], as, ⟨rfl, r.nd, r.kn, fun i o e => by simp at e⟩, datas_sub (ρ := ρ) (ρ' := ⟨ρ.l, ρ.l.length⟩) (fun a z => z) hd v, ?_⟩
    -- back in the caller's store
    have back : ∀ {ρ' : Cs} {H' : Hp}, Ext ⟨ρ.l, ρ.l.length⟩ H ρ' H' → Ext ρ H ρ H' ∧ RS K ρ H' mg st := fun {ρ' H'} e => by
      obtain ⟨m, rfl⟩ := e.more
      have hid : ∀ a, a ∈ ρ → H' a = H a := fun a ha => by
        obtain ⟨i, hi, q⟩ := List.getElem_of_mem (Cs.mem_l.mp ha)
        exact e.hid i a hi (by rw [List.getElem?_eq_getElem hi, q])
      have e1 : Ext ρ H ρ H' := ⟨⟨[], by simp⟩, fun a o h1 h2 => ⟨(e.keep a o h1 h2).1, h2⟩, fun i a hi q => hid a (List.mem_of_getElem? q), e.frz⟩
      exact ⟨e1, r.move e1 fun a ha u q => by rw [hid a ha]; exact q⟩
    cases z : F as [] with
    | bad => rw [z] at h; exact h.elim
    | exc e st' =>
      rw [z] at h
      dsimp only at h
      split at h
      · rename_i hf
        intro ρ' H' c dx e1 r1 x1
        obtain ⟨e2, r2⟩ := back e1
        obtain ⟨m, rfl⟩ := e1.more
        refine h ρ H' c dx e2 r2 ⟨x1.1, ?_⟩
        have x2 := x1.2
        cases q : e.fs with
        | nil => rw [q] at x2; exact x2
        | cons f fs =>
          rw [q] at x2 hf
          obtain ⟨d, ws, a1, a2, a3, a4⟩ := x2
          refine ⟨d, ws, a1, a2, fun y => a3 (List.mem_append_left _ (Cs.mem_l.mp y)), ?_⟩
          have pd : ∀ {l : List (Str × PV)} {ws : List (Str × V)}, (l.all fun p => isData p.2) = true → VRk K ⟨ρ.l ++ m, ρ.l.length⟩ H' mg l ws → VRk K ρ H' mg l ws := by
            intro l ws hl hr
            induction hr with
            | nil => exact .nil
            | cons r1 t ih =>
              simp only [List.all_cons, Bool.and_eq_true] at hl
              refine .cons ⟨r1.1, ?_⟩ (ih hl.2)
              rename_i p q l1 l2
              obtain ⟨pn, pv⟩ := p
              cases pv with
              | d y =>
                cases r1.2 with
                | d g => exact .d (g.sub fun a ha => List.mem_append_left _ (Cs.mem_l.mp ha))
              | _ => cases hl.1
          exact pd hf a4
      · exact h.elim
    | ok v1 st' =>
      rw [z] at h
      dsimp only at h
      cases q : frz 6 st' v1 with
      | none => rw [q] at h; exact h.elim
      | some d =>
        rw [q] at h
        intro ρ' H' x e1 r1 x1
        obtain ⟨e2, r2⟩ := back e1
        obtain ⟨m, rfl⟩ := e1.more
        refine h ρ H' x e2 r2 (.d (frz_ok (ρ := ρ) r1 (fun a ha => List.mem_append_left _ (Cs.mem_l.mp ha)) (fun i a hi ha => ?_) x1 q))
        have hi : (ρ.l ++ m)[ρ.l.length + i]? = some a := hi
        have nd : (ρ.l ++ m).Nodup := r1.nd
        obtain ⟨j, hj, ej⟩ := List.getElem_of_mem (Cs.mem_l.mp ha)
        obtain ⟨l2, e3⟩ := List.getElem?_eq_some_iff.mp hi
        have l1 : j < (ρ.l ++ m).length := by rw [List.length_append]; omega
        have e4 : (ρ.l ++ m)[j] = a := by rw [List.getElem_append_left hj]; exact ej
        have := (List.getElem_inj nd).mp (e4.trans e3.symm)
        omega
  · exact h.elim
theorem FnG.iso {P : Program} {w : World} {base : Heap} {k : Nat} {f : Addr} {fd : FuncData} {ps : List Str} {n : Nat} {F : List PV → Store → Res PV} (G : FnG P w K mg base k f fd ps (spF K mg n F)) : FnG P w K mg base k f fd ps (spF K mg n (isoF F)) :=
  ⟨fun vs H Q E h => G.len vs H Q E (spF_iso h), fun A o s H args us vs Q E hr hg e0 hb r h => G.run A o s H args us vs Q E hr hg e0 hb r (spF_iso h)⟩
end
def dCall (F : List PV → Store → Res PV) (r : Dens) : Den := fun fr st => (r fr st).bind F
def dCallK (F : List PV → Store → Res PV) (r rk : Dens) (os : List Nat) : Den := fun fr st => (r fr st).bind fun vs st1 => (rk fr st1).bind fun zs st2 => F (vs ++ inOrder zs os) st2
section
variable {X : Cx} {E : WX} {k n : Nat} {f : Addr} {fd : FuncData} {ps : List Str} {F : List PV → Store → Res PV} {x : Str} {p pos : Pos} {a : Expr} {es : List Expr} {r rk : Dens}
theorem spF_of {ρ0 ρ : Cs} {H0 H : Hp} {σ : L2.St} {vs : List V} {as : List PV} {st : Store} {Q : VK} (hn : as.length = n) (rs : RS X.K ρ H X.mg st) (e : Ext ρ0 H0 ρ H) (v : VRs X.K ρ H X.mg as vs)
    (h : (F as st).wp (fun v st' => ∀ ρ' H' x, Ext ρ0 H0 ρ' H' → RS X.K ρ' H' X.mg st' → VR X.K ρ' H' X.mg v x → Q x H') (okX X E σ ρ H)) : spF X.K X.mg n F vs H Q fun c dx H' => E c dx σ H' :=
  ⟨by rw [← v.length]; exact hn, ρ, st, as, rs, v, Res.wp_mono h (fun v st' q ρ' H' x e2 => q ρ' H' x (e.trans e2)) fun _ _ q => q⟩
/-- answers none to other numbers of arguments -/
def Narrow (n : Nat) (F : List PV → Store → Res PV) : Prop := ∀ as st, as.length ≠ n → F as st = .bad
theorem narrow_wp {as : List PV} {st : Store} {Q : PV → Store → Prop} {W : PX → Store → Prop} (hN : Narrow n F) (h : (F as st).wp Q W) : as.length = n := by
  by_cases z : as.length = n
  · exact z
  · rw [hN as st z] at h
    exact h.elim
theorem narrow_body {N np : Nat} {d : DS} : Narrow np (bodyF N np d) := fun as st h => if_neg h
theorem narrow_iso (hN : Narrow n F) : Narrow n (isoF F) := fun as st h => by
  unfold isoF
  rw [hN as [] h]
  split <;> rfl
theorem se_call (G : FnG X.prog X.w X.K X.mg X.base k f fd ps (spF X.K X.mg n F)) (hN : Narrow n F) (hr : Room k X.A) (hgd : X.A.guards = some []) (tk : Takes X E) (hg : Gl X x) (hm : X.mg x = some (.ref f)) (hk : PySem.W.keepIn X.K (.ref f) = true) (hb : Binds X.K fd ps [])
    (ha : PA X (a :: es) (tEs X E r)) (hdb : (x == ("__debug__" : Str)) = false) (hs : noStar (a :: es) = true) : PE X (.Call (.Name x p) (a :: es) [] pos) (tE X E (dCall F r)) := by
  refine ⟨fun pins s σ H Q I h => ?_⟩
  refine wpAny_Call_Name_kw (ld_glob I hg hm ?_ hdb)
  refine PySem.W.callWith_K (h₀ := X.base) I.ok.mod.kin hk ?_ (star_cons hs).1 (star_any (star_cons (env := X.env) hs).2)
  obtain ⟨ρ, fr, st, A, h⟩ := h
  refine thn (ha.run pos pins s σ H (fun vs H1 => spF X.K X.mg n F vs H1 Q fun c dx H' => E c dx σ H') I (tEs.step A h fun v st1 ρ1 H1 xs e1 A1 v1 h1 => spF_of (narrow_wp hN h1) A1.rs e1 v1 h1)) fun us s1 ⟨vs, H1, I1, r1, q1⟩ => ⟨I1.kIn, ?_⟩
  have hl : us.length = ps.length := by rw [← r1.length]; exact G.len _ _ _ _ q1
  have hb1 := hb s1 us I1.kIn (by simpa using hl)
  rw [List.append_nil] at hb1
  exact call_fn G hr hgd tk I1 hb1 r1 q1
theorem se_call0 (G : FnG X.prog X.w X.K X.mg X.base k f fd ps (spF X.K X.mg n F)) (hN : Narrow n F) (hr : Room k X.A) (hgd : X.A.guards = some []) (tk : Takes X E) (hg : Gl X x) (hm : X.mg x = some (.ref f)) (hk : PySem.W.keepIn X.K (.ref f) = true) (hb : Binds X.K fd ps [])
    (hdb : (x == ("__debug__" : Str)) = false) : PE X (.Call (.Name x p) [] [] pos) (tE X E (dCall F dNil)) := by
  refine ⟨fun pins s σ H Q I h => ?_⟩
  refine wpAny_Call_Name_kw (ld_glob I hg hm ?_ hdb)
  refine PySem.W.callWith_K0 I.kIn hk ?_
  obtain ⟨ρ, fr, st, A, h⟩ := h
  have q1 : spF X.K X.mg n F [] H Q fun c dx H' => E c dx σ H' := spF_of (narrow_wp hN h) A.rs (Ext.refl _ _) .nil h
  have hl : ([] : List V).length = ps.length := G.len _ _ _ _ q1
  have hb1 := hb s [] I.kIn (by simpa using hl)
  exact call_fn (pos := []) G hr hgd tk I hb1 .nil q1
end
end Sr
/-! Keyword calls; dicts; subscripts; slices; stores by subscript. -/
namespace Sr
open PySem L2

/-! ### calls with keywords -/
theorem VRs.inOrder {K : PySem.W.Frag} {ρ : Cs} {H : Hp} {mg : Str → Option Value} {xs : List PV} {vs : List V} (r : VRs K ρ H mg xs vs) (os : List Nat) : VRs K ρ H mg (inOrder xs os) (inOrder vs os) := by
  have hl := r.length
  induction os with
  | nil => exact .nil
  | cons j os ih =>
    unfold Sr.inOrder at ih ⊢
    rw [List.filterMap_cons, List.filterMap_cons]
    cases q : xs[j]? with
    | none =>
      have : vs[j]? = none := by rw [List.getElem?_eq_none_iff, ← hl]; exact List.getElem?_eq_none_iff.mp q
      rw [this]; exact ih
    | some x =>
      obtain ⟨u, hu, ru⟩ := r.get q
      rw [hu]
      exact .cons ru ih
theorem VRs.mono' {K : PySem.W.Frag} {ρ ρ' : Cs} {H H' : Hp} {mg : Str → Option Value} {xs : List PV} {vs : List V} (r : VRs K ρ H mg xs vs) (e : Ext ρ H ρ' H') : VRs K ρ' H' mg xs vs := VRs.mono e r
def dKwC (vs : List PV) (rk : Dens) : Dens := rk
section
variable {X : Cx} {E : WX} {k n : Nat} {f : Addr} {fd : FuncData} {ps ks : List Str} {os : List Nat} {F : List PV → Store → Res PV} {x : Str} {p pos : Pos} {a : Expr} {es : List Expr} {kws : List Keyword} {r rk : Dens} {nm : Option Str} {kp : Pos} {e : Expr} {d : Den}
theorem sk_nil : PK X [] (tEs X E dNil) := by
  refine ⟨fun p pins s σ H Q I h => ?_⟩
  obtain ⟨ρ, fr, st, A, h⟩ := h
  exact pk_nil.run p pins s σ H Q I (h ρ H [] (Ext.refl _ _) A.rs .nil)
theorem sk_cons (he : PE X e (tE X E d)) (hr : PK X kws (tEs X E r)) : PK X (⟨nm, e, kp⟩ :: kws) (tEs X E (dCons d r)) := by
  refine ⟨fun p pins s σ H Q I h => (pk_cons he hr).run p pins s σ H Q I ?_⟩
  obtain ⟨ρ, fr, st, A, h⟩ := h
  refine tE.step A h fun v st1 ρ1 H1 x e1 A1 v1 h1 => ?_
  refine tEs.step A1 h1 fun vs st2 ρ2 H2 xs e2 A2 v2 h2 => ?_
  exact h2 ρ2 H2 _ ((e1.trans e2)) A2.rs (.cons (v1.mono e2) v2)
/-- the names of plain keywords -/
def kwNames : List Keyword → Option (List Str)
  | [] => some []
  | ⟨some n, _, _⟩ :: r => (kwNames r).map (n :: ·)
  | _ => none
theorem kwNames_ok {env : Env} {pos : Pos} : ∀ {kws : List Keyword} {ks : List Str}, kwNames kws = some ks → (backToKw pos (keywordEach kws env)).all (·.1.isSome) = true ∧ (backToKw pos (keywordEach kws env)).filterMap (·.1) = ks ∧ (backToKw pos (keywordEach kws env)).any (·.1.isNone) = false ∧ kws.length = ks.length
  | [], ks, h => by
    have h := Option.some.inj h
    subst h
    exact ⟨rfl, rfl, rfl, rfl⟩
  | ⟨none, _, _⟩ :: r, ks, h => by cases h
  | ⟨some n, e, p⟩ :: r, ks, h => by
    have h : (kwNames r).map (n :: ·) = some ks := h
    cases q : kwNames r with
    | none => rw [q] at h; cases h
    | some l =>
      rw [q] at h
      have h := Option.some.inj h
      subst h
      obtain ⟨h1, h2, h3, h4⟩ := kwNames_ok (env := env) (pos := pos) q
      refine ⟨?_, ?_, ?_, by simp [h4]⟩
      · show (true && (backToKw pos (keywordEach r env)).all (·.1.isSome)) = true
        rw [h1]; rfl
      · show n :: (backToKw pos (keywordEach r env)).filterMap (·.1) = _
        rw [h2]
      · show (false || (backToKw pos (keywordEach r env)).any (·.1.isNone)) = false
        rw [h3]; rfl
theorem pk_len {pins : List (Addr × Obj)} {s : Shared} {σ : L2.St} {H : Hp} (hkw : PK X kws (tEs X E rk)) : True := trivial
/-- f(k = v, ..) -/
theorem se_callK0 (G : FnG X.prog X.w X.K X.mg X.base k f fd ps (spF X.K X.mg n F)) (hN : Narrow n F) (hr : Room k X.A) (hgd : X.A.guards = some []) (tk : Takes X E) (hg : Gl X x) (hm : X.mg x = some (.ref f)) (hk : PySem.W.keepIn X.K (.ref f) = true)
    (P : Plain fd.params ps) (hdf : fd.defaults = .none) (nd : ps.Nodup) (hkn : kwNames kws = some ks) (hgood : kwGood ps ks 0 os = true) (hkw : PK X kws (tEs X E rk)) (hlen : ∀ fr st vs st', rk fr st = .ok vs st' → vs.length = ks.length) (hdb : (x == ("__debug__" : Str)) = false) :
    PE X (.Call (.Name x p) [] kws pos) (tE X E (dCallK F dNil rk os)) := by
  obtain ⟨k1, k2, k3, k4⟩ := kwNames_ok (env := X.env) (pos := pos) hkn
  refine ⟨fun pins s σ H Q I h => ?_⟩
  refine wpAny_Call_Name_kw (ld_glob I hg hm ?_ hdb)
  refine PySem.W.callWith_KW0 (h₀ := X.base) I.ok.mod.kin hk k1 ?_ (by rw [k3]; rfl)
  obtain ⟨ρ, fr, st, A, h⟩ := h
  have h : ((rk fr st).bind fun zs st2 => F ([] ++ inOrder zs os) st2).wp _ _ := h
  have hq : tEs X E rk σ H (fun vs H1 => vs.length = ks.length ∧ spF X.K X.mg n F (inOrder vs os) H1 Q fun c dx H' => E c dx σ H') := by
    cases q : rk fr st with
    | bad => rw [q] at h; exact h.elim
    | exc e st1 => rw [q] at h; exact ⟨ρ, fr, st, A, by rw [q]; exact h⟩
    | ok vs st1 =>
      rw [q] at h
      refine ⟨ρ, fr, st, A, ?_⟩
      rw [q]
      intro ρ1 H1 xs e1 r1 v1
      have h : (F (inOrder vs os) st1).wp _ _ := h
      exact ⟨by rw [← v1.length]; exact hlen fr st vs st1 q, spF_of (narrow_wp hN h) r1 e1 (v1.inOrder os) (Res.wp_mono h (fun _ _ q => q) fun _ _ q => q.mono e1)⟩
  refine thn (hkw.run pos pins s σ H _ I hq) fun ws s1 ⟨zs, H1, I1, rz, q0, q1⟩ => ⟨I1.kIn, ?_⟩
  rw [k2]
  have hw : ws.length = ks.length := by rw [← rz.length]; exact q0
  exact call_fn (pos := []) G hr hgd tk I1 (binds_kw (K := X.K) P hdf nd hgood rfl hw s1) (Vals.inOrder rz os) q1
/-- f(e, .., k = v, ..) -/
theorem se_callK (G : FnG X.prog X.w X.K X.mg X.base k f fd ps (spF X.K X.mg n F)) (hN : Narrow n F) (hr : Room k X.A) (hgd : X.A.guards = some []) (tk : Takes X E) (hg : Gl X x) (hm : X.mg x = some (.ref f)) (hk : PySem.W.keepIn X.K (.ref f) = true)
    (P : Plain fd.params ps) (hdf : fd.defaults = .none) (nd : ps.Nodup) (hkn : kwNames kws = some ks) (hgood : kwGood ps ks (es.length + 1) os = true) (ha : PA X (a :: es) (tEs X E r)) (hkw : PK X kws (tEs X E rk)) (hs : noStar (a :: es) = true)
    (hlen1 : ∀ fr st vs st', r fr st = .ok vs st' → vs.length = es.length + 1) (hlen : ∀ fr st vs st', rk fr st = .ok vs st' → vs.length = ks.length) (hdb : (x == ("__debug__" : Str)) = false) :
    PE X (.Call (.Name x p) (a :: es) kws pos) (tE X E (dCallK F r rk os)) := by
  obtain ⟨k1, k2, k3, k4⟩ := kwNames_ok (env := X.env) (pos := pos) hkn
  refine ⟨fun pins s σ H Q I h => ?_⟩
  refine wpAny_Call_Name_kw (ld_glob I hg hm ?_ hdb)
  obtain ⟨ρ, fr, st, A, h⟩ := h
  have hq : tEs X E r σ H (fun vs H1 => vs.length = es.length + 1 ∧ tEs X E rk σ H1 (fun zs H2 => zs.length = ks.length ∧ spF X.K X.mg n F (vs ++ inOrder zs os) H2 Q fun c dx H' => E c dx σ H')) := by
    have h0 := Res.wp_bind h
    cases q0 : r fr st with
    | bad => rw [q0] at h0; exact h0.elim
    | exc e st1 => rw [q0] at h0; exact ⟨ρ, fr, st, A, by rw [q0]; exact h0⟩
    | ok vs st1 =>
      rw [q0] at h0
      have h0 : ((rk fr st1).bind fun zs st2 => F (vs ++ inOrder zs os) st2).wp _ (okX X E σ ρ H) := h0
      refine ⟨ρ, fr, st, A, ?_⟩
      rw [q0]
      intro ρ1 H1 xs e1 r1 v1
      have A1 := A.step e1 r1
      refine ⟨by rw [← v1.length]; exact hlen1 fr st vs st1 q0, ?_⟩
      cases q : rk fr st1 with
      | bad => rw [q] at h0; exact h0.elim
      | exc e st1 => rw [q] at h0; exact ⟨ρ1, fr, _, A1, by rw [q]; exact okX.mono e1 h0⟩
      | ok zs st2 =>
        rw [q] at h0
        refine ⟨ρ1, fr, st1, A1, ?_⟩
        rw [q]
        intro ρ2 H2 ys e2 r2 v2
        have h0 : (F (vs ++ inOrder zs os) st2).wp _ _ := h0
        exact ⟨by rw [← v2.length]; exact hlen fr st1 zs st2 q, spF_of (narrow_wp hN h0) r2 (e1.trans e2) ((VRs.mono e2 v1).append (v2.inOrder os)) (Res.wp_mono h0 (fun _ _ q => q) fun _ _ q => q.mono (e1.trans e2))⟩
  refine PySem.W.callWith_KW (h₀ := X.base) I.ok.mod.kin hk k1 (thn (ha.run pos pins s σ H _ I hq) fun us s1 ⟨vs, H1, I1, r1, l1, q1⟩ => ?_) (by rw [star_any hs, k3]; rfl) (star_cons hs).1
  refine thn (hkw.run pos pins s1 σ H1 _ I1 q1) fun ws s2 ⟨zs, H2, I2, rz, l2, q2⟩ => ⟨I2.kIn, ?_⟩
  rw [k2]
  have hu : us.length = es.length + 1 := by rw [← r1.length]; exact l1
  have hw : ws.length = ks.length := by rw [← rz.length]; exact l2
  exact call_fn G hr hgd tk I2 (binds_kw (K := X.K) P hdf nd hgood hu hw s2) (r1.append (Vals.inOrder rz os)) q2
end

/-! ### dicts -/
def toKey : PV → Option Key
  | .d (.int i) => some (.inl i)
  | .d (.str x) => some (.inr x)
  | _ => none
def valP {κ : Type} [DecidableEq κ] (kvs : List (κ × PV)) (k : κ) : Option PV := (kvs.find? fun kv => decide (kv.1 = k)).map (·.2)
def putP {κ : Type} [DecidableEq κ] (kvs : List (κ × PV)) (k : κ) (v : PV) : List (κ × PV) := if kvs.any (fun kv => decide (kv.1 = k)) then kvs.map (fun kv => if kv.1 = k then (kv.1, v) else kv) else kvs ++ [(k, v)]
def keyEq (d : PyData) : Key → Bool
  | .inl j => match d with
    | .int i => i == j
    | _ => false
  | .inr y => match d with
    | .str x => x == y
    | _ => false
def valD (kvs : List (PyData × PyData)) (k : Key) : Option PyData := (kvs.find? fun p => keyEq p.1 k).map (·.2)
theorem keyEq_iff (a k : Key) : keyEq (keyD a) k = decide (a = k) := by
  cases a with
  | inl i => cases k with
    | inl j =>
      show (i == j) = _
      by_cases h : i = j
      · subst h; simp
      · have h2 : ¬ (Sum.inl i : Key) = .inl j := fun z => h (Sum.inl.inj z)
        rw [decide_eq_false h2]
        exact beq_eq_false_iff_ne.mpr h
    | inr y => exact (decide_eq_false fun z => nomatch z).symm
  | inr x => cases k with
    | inl j => exact (decide_eq_false fun z => nomatch z).symm
    | inr y =>
      show (x == y) = _
      by_cases h : x = y
      · subst h; simp
      · have h2 : ¬ (Sum.inr x : Key) = .inr y := fun z => h (Sum.inr.inj z)
        rw [decide_eq_false h2]
        exact beq_eq_false_iff_ne.mpr h
section
variable {K : PySem.W.Frag} {ρ : Cs} {H : Hp} {mg : Str → Option Value}
theorem toKey_ok {v : PV} {x : V} {k : Key} (h : VR K ρ H mg v x) (e : toKey v = some k) : x = kV k := by
  unfold toKey at e
  split at e
  · have e := Option.some.inj e
    subst e
    exact h.int
  · have e := Option.some.inj e
    subst e
    exact h.str
  · cases e
theorem VRk.val {κ : Type} [DecidableEq κ] {kvs : List (κ × PV)} {ws : List (κ × V)} (h : VRk K ρ H mg kvs ws) (k : κ) : match valP kvs k with
    | some v => ∃ x, valV ws k = some x ∧ VR K ρ H mg v x
    | none => valV ws k = none := by
  induction h with
  | nil => rfl
  | @cons p q l1 l2 r t ih =>
    by_cases e : p.1 = k
    · have e1 : valP (p :: l1) k = some p.2 := by simp [valP, List.find?_cons, e]
      rw [e1, valV_pos (r.1 ▸ e)]
      exact ⟨_, rfl, r.2⟩
    · have e1 : valP (p :: l1) k = valP l1 k := by simp [valP, List.find?_cons, e]
      rw [e1, valV_neg (r.1 ▸ e)]
      exact ih
theorem VRk.length {κ : Type} {kvs : List (κ × PV)} {ws : List (κ × V)} (h : VRk K ρ H mg kvs ws) : kvs.length = ws.length := Paired.length h
theorem VRk.put {κ : Type} [DecidableEq κ] {kvs : List (κ × PV)} {ws : List (κ × V)} (h : VRk K ρ H mg kvs ws) (k : κ) {v : PV} {x : V} (hv : VR K ρ H mg v x) : VRk K ρ H mg (putP kvs k v) (putK ws k x) := by
  have any_eq : ∀ {l : List (κ × PV)} {m : List (κ × V)}, VRk K ρ H mg l m → (l.any fun kv => decide (kv.1 = k)) = m.any fun kv => decide (kv.1 = k) := by
    intro l m h
    induction h with
    | nil => rfl
    | cons r t ih => rw [List.any_cons, List.any_cons, r.1, ih]
  have map_eq : ∀ {l : List (κ × PV)} {m : List (κ × V)}, VRk K ρ H mg l m → VRk K ρ H mg (l.map fun kv => if kv.1 = k then (kv.1, v) else kv) (m.map fun kv => if kv.1 = k then (kv.1, x) else kv) := by
    intro l m h
    induction h with
    | nil => exact .nil
    | @cons p q l1 l2 r t ih =>
      rw [List.map_cons, List.map_cons]
      refine .cons ?_ ih
      by_cases e : p.1 = k
      · rw [if_pos e, if_pos (r.1 ▸ e)]
        exact ⟨r.1, hv⟩
      · rw [if_neg e, if_neg (r.1 ▸ e)]
        exact r
  have app : ∀ {l : List (κ × PV)} {m : List (κ × V)}, VRk K ρ H mg l m → VRk K ρ H mg (l ++ [(k, v)]) (m ++ [(k, x)]) := by
    intro l m h
    induction h with
    | nil => exact .cons ⟨rfl, hv⟩ .nil
    | cons r t ih => exact .cons r ih
  unfold putP putK
  rw [any_eq h]
  split
  · exact map_eq h
  · exact app h
theorem DR.val {kvs : List (Key × V)} {ds : List PyData} (h : DRs K ρ H ds (kvs.map (·.2))) (k : Key) : match valD ((kvs.map fun p => keyD p.1).zip ds) k with
    | some d => ∃ x, valV kvs k = some x ∧ DR K ρ H d x
    | none => valV kvs k = none := by
  induction kvs generalizing ds with
  | nil => rfl
  | cons p kvs ih =>
    cases h with
    | @cons d v ds vs h1 h2 =>
      have ez : ((p :: kvs).map fun p => keyD p.1).zip (d :: ds) = (keyD p.1, d) :: (kvs.map fun p => keyD p.1).zip ds := rfl
      rw [ez]
      by_cases e : p.1 = k
      · have e1 : valD ((keyD p.1, d) :: (kvs.map fun p => keyD p.1).zip ds) k = some d := by simp [valD, List.find?_cons, keyEq_iff, e]
        rw [e1, valV_pos e]
        exact ⟨_, rfl, h1⟩
      · have e1 : valD ((keyD p.1, d) :: (kvs.map fun p => keyD p.1).zip ds) k = valD ((kvs.map fun p => keyD p.1).zip ds) k := by simp [valD, List.find?_cons, keyEq_iff, e]
        rw [e1, valV_neg e]
        exact ih h2
end
def OptVR (K : PySem.W.Frag) (ρ : Cs) (H : Hp) (mg : Str → Option Value) (r : Option PV) (z : Option V) : Prop := match r with
  | some v => ∃ w, z = some w ∧ VR K ρ H mg v w
  | none => z = none
/-- the answer of a dict: none: it is no dict, or the key no key -/
def dictVal (o i : PV) (st : Store) : Option (Option PV) := match toKey i with
  | none => none
  | some k => match o with
    | .d (.dict kvs) => if tupH kvs then none else some ((valD kvs k).map .d)
    | .cell n => match st[n]? with
      | some (.dic kvs) => some (valP kvs k)
      | some (.dicL kvs) => some (valP kvs k)
      | _ => none
    | _ => none
theorem dictVal_ok {K : PySem.W.Frag} {ρ : Cs} {H : Hp} {mg : Str → Option Value} {o i : PV} {st : Store} {x y : V} {r : Option PV} (rs : RS K ρ H mg st) (ho : VR K ρ H mg o x) (hi : VR K ρ H mg i y) (e : dictVal o i st = some r) :
    ∃ a z, x = .ref a ∧ DGet H a y z ∧ OptVR K ρ H mg r z := by
  unfold dictVal at e
  cases q : toKey i with
  | none => rw [q] at e; cases e
  | some k =>
    rw [q] at e
    have ey := toKey_ok hi q
    subst ey
    cases o with
    | tup xs => cases e
    | fn z => cases e
    | d dd =>
      cases dd with
      | dict kvs =>
        have e : (if tupH kvs then none else some ((valD kvs k).map PV.d)) = some r := e
        cases ho with
        | d ho =>
          cases ho with
          | dit h1 h0 h2 h3 =>
            rw [tupH_dit h0 h3, if_pos rfl] at e
            cases e
          | dic h1 h2 h3 =>
            rw [tupH_dic, if_neg (by decide)] at e
            have e := Option.some.inj e
            subst e
            refine ⟨_, _, rfl, DGet.k h1, ?_⟩
            have this := DR.val h3 k
            revert this
            generalize valD _ k = r
            intro this
            cases r with
            | none => exact this
            | some d1 =>
              obtain ⟨w, w1, w2⟩ := this
              exact ⟨w, w1, .d w2⟩
      | _ => cases e
    | cell n =>
      have e : (match st[n]? with
        | some (.dic kvs) => some (valP kvs k)
        | some (.dicL kvs) => some (valP kvs k)
        | _ => none) = some r := e
      cases ho with
      | cell hc =>
        rename_i a
        cases z : st[n]? with
        | none => rw [z] at e; cases e
        | some u =>
          rw [z] at e
          obtain ⟨b, b1, b2⟩ := rs.at_ n u z
          rw [hc] at b1
          cases b1
          cases u with
          | dic kvs =>
            have e : valP kvs k = r := Option.some.inj e
            obtain ⟨ws, w1, w2⟩ := b2
            refine ⟨a, _, rfl, DGet.k w1, ?_⟩
            have := w2.val k
            rw [e] at this
            cases r with
            | none => exact this
            | some v => exact this
          | dicL kvs =>
            have e : valP kvs k = r := Option.some.inj e
            obtain ⟨od, ws, w1, w2⟩ := b2
            refine ⟨a, _, rfl, .inl ⟨ws, k, .inr ⟨od, w1⟩, rfl, rfl⟩, ?_⟩
            have := w2.val k
            rw [e] at this
            cases r with
            | none => exact this
            | some v => exact this
          | _ => cases e

/-! ### dicts by tuples of ints and texts -/
def keyOfD : PyData → Option Key
  | .int i => some (.inl i)
  | .str x => some (.inr x)
  | _ => none
def keysOfD : List PyData → Option (List Key)
  | [] => some []
  | d :: r => match keyOfD d, keysOfD r with
    | some k, some ks => some (k :: ks)
    | _, _ => none
theorem keyOfD_eq {d : PyData} {k : Key} (h : keyOfD d = some k) : d = keyD k := by
  unfold keyOfD at h
  split at h
  · cases h; rfl
  · cases h; rfl
  · cases h
theorem keyOfD_keyD (k : Key) : keyOfD (keyD k) = some k := by cases k <;> rfl
theorem keysOfD_eq : ∀ {ds : List PyData} {ks : List Key}, keysOfD ds = some ks → ds = ks.map keyD
  | [], ks, h => by cases h; rfl
  | d :: r, ks, h => by
    have h : (match keyOfD d, keysOfD r with
      | some k, some ks => some (k :: ks)
      | _, _ => none) = some ks := h
    cases q1 : keyOfD d with
    | none => rw [q1] at h; cases h
    | some k =>
      cases q2 : keysOfD r with
      | none => rw [q1, q2] at h; cases h
      | some js =>
        rw [q1, q2] at h
        cases h
        rw [List.map_cons, ← keyOfD_eq q1, ← keysOfD_eq q2]
theorem keysOfD_map : ∀ ks : List Key, keysOfD (ks.map keyD) = some ks
  | [] => rfl
  | k :: r => by
    show (match keyOfD (keyD k), keysOfD (r.map keyD) with
      | some k, some ks => some (k :: ks)
      | _, _ => none) = _
    rw [keyOfD_keyD, keysOfD_map r]
def tupIs : PyData → List Key → Bool
  | .tuple ds, k => decide (keysOfD ds = some k)
  | _, _ => false
def valDT (kvs : List (PyData × PyData)) (k : List Key) : Option PyData := (kvs.find? fun p => tupIs p.1 k).map (·.2)
/-- the answer of data that is a dict by tuples -/
def dictValT (o i : PV) (st : Store) : Option (Option PV) := match o, i with
  | .d (.dict kvs), .d (.tuple ds) => if tupH kvs then (keysOfD ds).map fun k => (valDT kvs k).map .d else none
  | .cell n, .d (.tuple ds) => match st[n]? with
    | some (.dit kvs) => (keysOfD ds).map fun k => valP kvs k
    | some (.ditL kvs) => (keysOfD ds).map fun k => valP kvs k
    | _ => none
  | _, _ => none
section
variable {K : PySem.W.Frag} {ρ : Cs} {H : Hp} {mg : Str → Option Value}
theorem DRs.keyVs : ∀ {ks : List Key} {vs : List V}, DRs K ρ H (ks.map keyD) vs → vs = ks.map kV
  | [], _, .nil => rfl
  | k :: r, _, .cons h t => by
    rw [DRs.keyVs t, List.map_cons]
    cases k with
    | inl i =>
      have h : DR K ρ H (.int i) _ := h
      cases h
      rfl
    | inr x =>
      have h : DR K ρ H (.str x) _ := h
      cases h
      rfl
theorem DR.valT {kvs : List (List Key × V)} {ds : List PyData} (h : DRs K ρ H ds (kvs.map (·.2))) (k : List Key) : match valDT ((kvs.map fun p => PyData.tuple (p.1.map keyD)).zip ds) k with
    | some d => ∃ x, valV kvs k = some x ∧ DR K ρ H d x
    | none => valV kvs k = none := by
  induction kvs generalizing ds with
  | nil => rfl
  | cons p kvs ih =>
    cases h with
    | @cons d v ds vs h1 h2 =>
      have ez : ((p :: kvs).map fun p => PyData.tuple (p.1.map keyD)).zip (d :: ds) = (PyData.tuple (p.1.map keyD), d) :: (kvs.map fun p => PyData.tuple (p.1.map keyD)).zip ds := rfl
      have et : tupIs (PyData.tuple (p.1.map keyD)) k = decide (p.1 = k) := by
        show decide (keysOfD (p.1.map keyD) = some k) = _
        rw [keysOfD_map]
        simp
      rw [ez]
      by_cases e : p.1 = k
      · have e1 : valDT ((PyData.tuple (p.1.map keyD), d) :: (kvs.map fun p => PyData.tuple (p.1.map keyD)).zip ds) k = some d := by unfold valDT; rw [List.find?_cons_of_pos (by rw [et]; exact decide_eq_true e)]; rfl
        rw [e1, valV_pos e]
        exact ⟨_, rfl, h1⟩
      · have e1 : valDT ((PyData.tuple (p.1.map keyD), d) :: (kvs.map fun p => PyData.tuple (p.1.map keyD)).zip ds) k = valDT ((kvs.map fun p => PyData.tuple (p.1.map keyD)).zip ds) k := by unfold valDT; rw [List.find?_cons_of_neg (by rw [et, decide_eq_false e]; decide)]
        rw [e1, valV_neg e]
        exact ih h2
theorem dictValT_ok {st : Store} (rs : RS K ρ H mg st) {o i : PV} {x y : V} {r : Option PV} (ho : VR K ρ H mg o x) (hi : VR K ρ H mg i y) (e : dictValT o i st = some r) :
    ∃ a b kvs k, x = .ref a ∧ y = .ref b ∧ Rd H a (.dT kvs) ∧ FzT K ρ H b (k.map kV) ∧ OptVR K ρ H mg r (valV kvs k) := by
  have cell : ∀ {n : Nat} {a : Addr} {ds : List PyData} {kvs : List (List Key × PV)} {ws : List (List Key × V)}, ρ.at_ n = some a → Rd H a (.dT ws) → VRk K ρ H mg kvs ws → VR K ρ H mg (.d (.tuple ds)) y → (keysOfD ds).map (fun k => valP kvs k) = some r →
      ∃ a' b kvs k, V.ref a = V.ref a' ∧ y = .ref b ∧ Rd H a' (.dT kvs) ∧ FzT K ρ H b (k.map kV) ∧ OptVR K ρ H mg r (valV kvs k) := fun {n a ds kvs ws} hc g w hi e => by
    cases hi with
    | d hi =>
      cases hi with
      | tup f q =>
        cases z : keysOfD ds with
        | none => rw [z] at e; cases e
        | some k =>
          rw [z] at e
          have e := Option.some.inj e
          subst e
          have z2 := keysOfD_eq z
          subst z2
          have ev := q.keyVs
          subst ev
          refine ⟨_, _, ws, k, rfl, rfl, g, f, ?_⟩
          show OptVR K ρ H mg (valP kvs k) (valV ws k)
          have this := w.val k
          revert this
          generalize valP kvs k = r
          intro this
          cases r with
          | none => exact this
          | some v => exact this
  unfold dictValT at e
  split at e
  · rename_i kvs ds
    cases ho with
    | d ho =>
      cases hi with
      | d hi =>
        cases ho with
        | dic h1 h2 h3 =>
          rw [tupH_dic, if_neg (by decide)] at e
          cases e
        | @dit a ws es h1 h0 h2 h3 =>
          rw [tupH_dit h0 h3, if_pos rfl] at e
          cases hi with
          | tup f q =>
            cases z : keysOfD ds with
            | none => rw [z] at e; cases e
            | some k =>
              rw [z] at e
              have e := Option.some.inj e
              subst e
              have z2 := keysOfD_eq z
              subst z2
              have ev := q.keyVs
              subst ev
              refine ⟨_, _, ws, k, rfl, rfl, .inl h1, f, ?_⟩
              show OptVR K ρ H mg ((valDT ((ws.map fun p => PyData.tuple (p.1.map keyD)).zip es) k).map .d) (valV ws k)
              have this := DR.valT h3 k
              revert this
              generalize valDT _ k = r
              intro this
              cases r with
              | none => exact this
              | some d1 =>
                obtain ⟨w, w1, w2⟩ := this
                exact ⟨w, w1, .d w2⟩
  · rename_i n ds
    cases ho with
    | cell hc =>
      rename_i a
      cases z : st[n]? with
      | none => rw [z] at e; cases e
      | some u =>
        rw [z] at e
        obtain ⟨b, b1, b2⟩ := rs.at_ n u z
        rw [hc] at b1
        cases b1
        cases u with
        | dit kvs =>
          obtain ⟨ws, g, w⟩ := b2
          exact cell hc (.inl g) w hi e
        | ditL kvs =>
          obtain ⟨od, ws, g, w⟩ := b2
          exact cell hc (.inr ⟨od, g⟩) w hi e
        | _ => cases e
  · cases e
end
/-- a tuple of ints and texts is a key, wherever it stands -/
theorem keyT_is {X : Cx} {pins : List (Addr × Obj)} {σ : St} {ρ : Cs} {H : Hp} {s : Shared} {b : Addr} {k : List Key} (I : Inv X pins σ H s) (f : FzT X.K ρ H b (k.map kV)) : (tupleKind (mixKind X.prog X.w)).is s.heap k b :=
  match f with
  | .inl ⟨tracked, _⟩ => let ⟨_, its, rel, o, at_, cls, n, seq⟩ := (show ObjOk X.prog X.w H s.heap b (.tup (k.map kV)) from rd_of I.hok (.inl tracked)); ⟨o, its.toArray, n, at_, cls, seq, items_are (by simpa using rel)⟩
  | .inr ⟨o, its, n, held, cls, seq, _, rel⟩ => ⟨o, its, n, I.kIn b o held, cls, seq, items_are rel⟩
section
variable {X : Cx} {pins : List (Addr × Obj)} {σ : St} {ρ : Cs} {H : Hp} {s : Shared} {a b : Addr} {kvs : List (List Key × V)} {k : List Key} {v d : V} {r : Value} {A : Around} {E : Value → Shared → Prop}
/-- a dict by rows of ints and texts, as it stands -/
theorem dT_stand (I : Inv X pins σ H s) (e : Rd H a (.dT kvs)) : ∃ xs, L2.KT H kvs xs ∧ s.heap.DictOfH (tupleKind (mixKind X.prog X.w)) a xs ∧ (a == sysModules) = false :=
  let ⟨_, other, xs, rel, stands⟩ := dt_rd I.hok e
  ⟨xs, rel, stands, other⟩
theorem dT_getItem {Q : Value → Shared → Prop} (hu : A.units + 1 < cLine) (I : Inv X pins σ H s) (e : Rd H a (.dT kvs)) (f : FzT X.K ρ H b (k.map kV)) (l : valV kvs k = some v) (h : ∀ w' s', Inv X pins σ H s' → RelV v w' → Q w' s') :
    wpAny (model X.prog X.w) A (getItem (.ref a) (.ref b)) Q E s := by
  obtain ⟨xs, rel, stands, _⟩ := dT_stand I e
  have both := rel.val k
  rw [l] at both
  cases at_ : atKey xs k with
  | none => rw [at_] at both; cases both
  | some p => rw [at_] at both; exact wpAny_getItem_heap (tupleKind_room_in1 hu) (keyT_is I f) stands at_ (h p.2 _ (I.tok _) both)
theorem dT_get1 {Q : Value → Shared → Prop} (hu : A.units + 1 < cLine) (I : Inv X pins σ H s) (e : Rd H a (.dT kvs)) (f : FzT X.K ρ H b (k.map kV)) (h : ∀ w' s', Inv X pins σ H s' → RelV ((valV kvs k).getD .non) w' → Q w' s') :
    wpAny (model X.prog X.w) A (call (.builtin "dict.get") [.ref a, .ref b]) Q E s :=
  let ⟨xs, rel, stands, other⟩ := dT_stand I e
  call_meetsIn PySem.F.slot_dict_get stands.typeIs PySem.F.entry_dict_get (PySem.F.args_dict_get_2 _ _) (meetsH_dict_get _ a b other) ⟨tupleKind_room_in1 hu, k, xs, keyT_is I f, stands, h _ _ (I.tok _) ((rel.val k).getD rfl)⟩
theorem dT_get2 {Q : Value → Shared → Prop} (hu : A.units + 1 < cLine) (I : Inv X pins σ H s) (e : Rd H a (.dT kvs)) (f : FzT X.K ρ H b (k.map kV)) (rd : RelV d r) (h : ∀ w' s', Inv X pins σ H s' → RelV ((valV kvs k).getD d) w' → Q w' s') :
    wpAny (model X.prog X.w) A (call (.builtin "dict.get") [.ref a, .ref b, r]) Q E s :=
  let ⟨xs, rel, stands, other⟩ := dT_stand I e
  call_meetsIn PySem.F.slot_dict_get stands.typeIs PySem.F.entry_dict_get (PySem.F.args_dict_get_3 _ _ _) (meetsH_dict_get_default _ a b other r) ⟨tupleKind_room_in1 hu, k, xs, keyT_is I f, stands, h _ _ (I.tok _) ((rel.val k).getD rd)⟩
theorem dT_type (I : Inv X pins σ H s) (e : Rd H a (.dT kvs)) : s.TypeIs (.ref a) "dict" := (dT_stand I e).elim fun _ q => q.2.1.typeIs
end

/-! ### subscripts -/
/-- the items of a list, a tuple -/
def seqItems (o : PV) (st : Store) : Option (List PV) := match o with
  | .d (.list ds) => some (ds.map .d)
  | .d (.tuple ds) => some (ds.map .d)
  | .tup xs => some xs
  | .cell n => match st[n]? with
    | some (.lst xs) => some xs
    | _ => none
  | _ => none
theorem seqItems_ok {K : PySem.W.Frag} {ρ : Cs} {H : Hp} {mg : Str → Option Value} {o : PV} {st : Store} {x : V} {xs : List PV} (rs : RS K ρ H mg st) (ho : VR K ρ H mg o x) (e : seqItems o st = some xs) :
    ∃ a vs, x = .ref a ∧ (SqL K H a vs ∨ SqT K H a vs) ∧ VRs K ρ H mg xs vs := by
  cases ho with
  | fn h => cases e
  | tup h q =>
    have e := Option.some.inj e
    subst e
    exact ⟨_, _, rfl, .inr h.sq, q⟩
  | cell hc =>
    rename_i n a
    have e : (match st[n]? with
      | some (.lst xs) => some xs
      | _ => none) = some xs := e
    cases z : st[n]? with
    | none => rw [z] at e; cases e
    | some u =>
      rw [z] at e
      obtain ⟨b, b1, b2⟩ := rs.at_ n u z
      rw [hc] at b1
      cases b1
      cases u with
      | lst ys =>
        have e := Option.some.inj e
        subst e
        obtain ⟨vs, v1, v2⟩ := b2
        exact ⟨a, vs, rfl, .inl (.of v1), v2⟩
      | _ => cases e
  | d h =>
    cases h with
    | lst h q =>
      have e := Option.some.inj e
      subst e
      exact ⟨_, _, rfl, .inl h.sq, q.toV⟩
    | tup h q =>
      have e := Option.some.inj e
      subst e
      exact ⟨_, _, rfl, .inr h.sq, q.toV⟩
    | _ => cases e
def vIdx2 : V2 := fun o i st => match seqItems o st with
    | some xs => match i with
      | .d (.int k) => (atI xs k).map fun v => (v, st)
      | _ => none
    | none => match dictVal o i st with
      | some (some v) => some (v, st)
      | some none => none
      | none => match dictValT o i st with
        | some (some v) => some (v, st)
        | _ => none
def vIdx : V2 := fun o i st => match o, i with
  | .d (.str z), .d (.int k) => if sizeOk z.length then (atI z.cps.toList k).map fun c => (.d (.str ⟨#[c]⟩), st) else none
  | o, i => vIdx2 o i st
theorem VRs.atI {K : PySem.W.Frag} {ρ : Cs} {H : Hp} {mg : Str → Option Value} {xs : List PV} {vs : List V} (r : VRs K ρ H mg xs vs) {k : Int} {v : PV} (e : L2.atI xs k = some v) : ∃ w, L2.atI vs k = some w ∧ VR K ρ H mg v w := by
  unfold L2.atI at e ⊢
  rw [← r.length]
  cases q : ixN xs.length k with
  | none => rw [q] at e; cases e
  | some j =>
    rw [q] at e
    exact r.get e
def rIxD : R2 := fun x y H Q => ∃ a v, x = .ref a ∧ DGet H a y (some v) ∧ Q v H
section
variable {X : Cx} {E : WX} {a b : Expr} {da db : Den} {pos : Pos}
theorem ix_dict (hu : X.A.units + 1 < cLine) : IxR X rIxD := by
  intro value slice pins s σ H x y v u Q I rx ry h hs
  obtain ⟨d, w, rfl, g, q⟩ := h
  cases rx
  exact PyProof.Rows.tail_any (dict_typeIs I g) PySem.F.slot_dict_getitem.lookup (d_getItem hu I g ry fun w' s3 I3 rw' => ⟨w, H, I3, rw', q⟩) hs
def rIxT (K : PySem.W.Frag) : R2 := fun x y H Q => ∃ ρ a b kvs k v, x = .ref a ∧ y = .ref b ∧ Rd H a (.dT kvs) ∧ FzT K ρ H b (k.map kV) ∧ valV kvs k = some v ∧ Q v H
theorem ix_dT (hu : X.A.units + 1 < cLine) : IxR X (rIxT X.K) := by
  intro value slice pins s σ H x y v u Q I rx ry h hs
  obtain ⟨ρ, a, b, kvs, k, w, rfl, rfl, g, f, l, q⟩ := h
  cases rx
  cases ry
  exact PyProof.Rows.tail_any (dT_type I g) PySem.F.slot_dict_getitem.lookup (dT_getItem hu I g f l fun w' s3 I3 rw' => ⟨w, H, I3, rw', q⟩) hs
theorem ix_ok (hu : X.A.units + 1 < cLine) : IxR X (rV2 X vIdx) := by
  intro value slice pins s σ H x y v u Q I rx ry h hs
  obtain ⟨ρ, st, o, i, rs, ho, hi, h⟩ := h
  refine (ix_seq.or ((ix_dict hu).or (ix_dT hu))) value slice pins s σ H x y v u Q I rx ry ?_ hs
  by_cases hstr : ∃ z k, o = .d (.str z) ∧ i = .d (.int k)
  · obtain ⟨z, k, rfl, rfl⟩ := hstr
    have h : okV X ρ H (if sizeOk z.length then (atI z.cps.toList k).map fun c => (.d (.str ⟨#[c]⟩), st) else none) Q := h
    split at h
    · rename_i hz
      cases q : atI z.cps.toList k with
      | none => rw [q] at h; exact h.elim
      | some c =>
        rw [q] at h
        exact .inl (.inr (.inr ⟨z, k, c, ho.str, hi.int, sizeOk_le hz, q, h ρ H _ (Ext.refl _ _) rs (.d (.str _))⟩))
    · exact h.elim
  · have e : vIdx o i st = vIdx2 o i st := by
      unfold vIdx
      split
      · exact absurd ⟨_, _, rfl, rfl⟩ hstr
      · rfl
    rw [e] at h
    unfold vIdx2 at h
    cases q : seqItems o st with
    | some xs =>
      rw [q] at h
      obtain ⟨p, vs, rfl, sq, vr⟩ := seqItems_ok rs ho q
      cases i with
      | d di =>
        cases di with
        | int k =>
          have h : okV X ρ H ((atI xs k).map fun v => (v, st)) Q := h
          cases q2 : atI xs k with
          | none => rw [q2] at h; exact h.elim
          | some w =>
            rw [q2] at h
            obtain ⟨z, z1, z2⟩ := vr.atI q2
            have fin := h ρ H z (Ext.refl _ _) rs z2
            rcases sq with sq | sq
            · exact .inl (.inl ⟨p, vs, k, z, rfl, hi.int, sq, z1, fin⟩)
            · exact .inl (.inr (.inl ⟨p, vs, k, z, rfl, hi.int, sq, z1, fin⟩))
        | _ => exact h.elim
      | _ => exact h.elim
    | none =>
      rw [q] at h
      have h : okV X ρ H (match dictVal o i st with
          | some (some v) => some (v, st)
          | some none => none
          | none => match dictValT o i st with
            | some (some v) => some (v, st)
            | _ => none) Q := h
      cases q2 : dictVal o i st with
      | none =>
        rw [q2] at h
        dsimp only at h
        cases q3 : dictValT o i st with
        | none => rw [q3] at h; exact h.elim
        | some r =>
          rw [q3] at h
          cases r with
          | none => exact h.elim
          | some w =>
            obtain ⟨p, b, kvs, k, rfl, rfl, g, f, hz⟩ := dictValT_ok rs ho hi q3
            obtain ⟨t, ht, hv⟩ := hz
            exact .inr (.inr ⟨ρ, p, b, kvs, k, t, rfl, rfl, g, f, ht, h ρ H t (Ext.refl _ _) rs hv⟩)
      | some r =>
        rw [q2] at h
        cases r with
        | none => exact h.elim
        | some w =>
          obtain ⟨p, z, rfl, g, hz⟩ := dictVal_ok rs ho hi q2
          obtain ⟨t, rfl, ht⟩ := hz
          exact .inr (.inl ⟨p, t, rfl, g, h ρ H t (Ext.refl _ _) rs ht⟩)
/-- not a slice -/
def plainIx : Expr → Bool
  | .Slice _ _ _ _ => false
  | _ => true
theorem plainIx_ok (h : plainIx b = true) : PlainIx b := fun o i => by
  cases b <;> first | rfl | cases h
theorem se_ix (hu : X.A.units + 1 < cLine) (ha : PE X a (tE X E da)) (hb : PE X b (tE X E db)) (hs : plainIx b = true) : PE X (.Subscript a b pos) (tE X E (dOp vIdx da db)) :=
  ⟨fun pins s σ H Q I h => (pe_ix (ix_ok hu) ha hb (plainIx_ok hs)).run pins s σ H Q I (tOp_of h)⟩
end
end Sr
/-! Own exceptions whose __init__ says super().__init__(text, x) and self.x = x. -/
namespace Sr
open PySem L2 PySem.W PySem.Calls PyProof.Rows PySem.HandSPX

/-- the text of such an __init__ -/
def InitB (f : Str) (body : List Stmt) : Prop := ∃ (m : Str) (j : Nat) (p0 p1 p2 p3 p4 p5 p6 p7 p8 p9 p10 : Pos), (p2.endLine == p5.line) = true ∧
  body = [.Expr (.Call (.Attribute (.Call (.Name "super" p0) [] [] p1) "__init__" p2) [.Constant (.str m) j p3, .Name f p4] [] p5) p6, .Assign [.Attribute (.Name "self" p7) f p8] (.Name f p9) p10]
def initB (f : Str) (body : List Stmt) : Bool := match body with
  | [.Expr (.Call (.Attribute (.Call (.Name s0 _) [] [] _) i0 pa) [.Constant (.str _) _ _, .Name f1 _] [] pc) _, .Assign [.Attribute (.Name s1 _) f2 _] (.Name f3 _) _] =>
    (pa.endLine == pc.line) && decide (s0 = "super") && decide (i0 = "__init__") && decide (f1 = f) && decide (s1 = "self") && decide (f2 = f) && decide (f3 = f)
  | _ => false
theorem initB_ok {f : Str} {body : List Stmt} (h : initB f body = true) : InitB f body := by
  unfold initB at h
  split at h
  · simp only [Bool.and_eq_true, decide_eq_true_eq] at h
    obtain ⟨⟨⟨⟨⟨⟨hl, h0⟩, h1⟩, h2⟩, h3⟩, h4⟩, h5⟩ := h
    subst h0 h1 h2 h3 h4 h5
    exact ⟨_, _, _, _, _, _, _, _, _, _, _, _, _, hl, rfl⟩
  · cases h
/-- what the written part says of such a class, at C, and of its __init__, at fI -/
structure OwnX (P : Program) (K : Frag) (C fI : Addr) (f : Str) : Prop where
  T : OexC K C
  noN : findIn K (.ref C) f = some none
  iC : findIn K (.ref C) "__init__" = some (some (.ref fI))
  tC : typeIn K (.ref fI) = some (.type "function")
  sup : ks_superIn K C C "__init__" = some (some (.builtin "ValueError.__init__"))
  isV : subIn K (.ref C) (.type "ValueError") = some true
  isC : mroIn K C (.ref C) = some true
  opq : nsIn K cStatics "thirdparty.any" = some none
  sg : nsIn K mainGlobals "super" = some none
  top : (P.main.scope.names.lookup ("super" : Str)).isSome = false
  fn : ∃ (oc : Value) (od : Option Addr) (qual : Str) (params : Arguments) (body : List Stmt) (scope : Scope) (cc cda : Addr) (kV doc pm : Value) (an : Option Addr) (ct : Value) (osl : Array (Option Value)) (cl ccl : Value) (cld cdd : Option Addr) (csl ccs : Array (Option Value))
      (vs : Array Value) (file : Str) (tf : Tok),
    K.lookup fI = some ⟨oc, od, .func (fnX "__init__" qual params body scope [("__class__", cc)] .none kV doc pm an (.ref cda) ct), osl⟩ ∧ codeIn K (.ref cda) qual = true ∧ K.lookup cda = some ⟨ccl, cdd, .fields vs, ccs⟩ ∧ vs[2]? = some (.str file tf) ∧
    ((P.main.file : Str) == file) = true ∧ K.lookup cc = some ⟨cl, cld, .cell (some (.ref C)), csl⟩ ∧ Plain params ["self", f] ∧ InitB f body ∧ ("self" : Str) ≠ f ∧ (f == ("__debug__" : Str)) = false ∧
    scope.kind = .function ∧ scope.isCoroutine = false ∧ scope.isGenerator = false ∧ scope.names.lookup ("super" : Str) = some .globalImplicit ∧ scope.names.lookup ("__class__" : Str) = some .free ∧
    scope.names.lookup ("self" : Str) = some .local ∧ scope.names.lookup f = some .local ∧ ∀ x ∈ scope.names, x.2 ≠ .cell
/-- what __init__ leaves of a fresh exception at x -/
structure InitEnd (h h' : Heap) (x C dx t1 : Addr) (f : Str) (v : Value) : Prop where
  keep : ∀ b o, b ≠ x → h.get? b = some o → h'.get? b = some o
  obj : h'.get? x = some { cls := .ref C, dict := some dx, data := .fields #[.ref t1, .none, .none, .none, .bool false, .none] }
  dbig : h.objs.size ≤ dx
  dne : dx ≠ x
  ns : h'.Ns1 dx (fun y => if y = f then some v else none)
/-- a made one -/
structure OwnMade (h h' : Heap) (e C d : Addr) (f : Str) (v : Value) : Prop where
  keep : ∀ b o, h.get? b = some o → h'.get? b = some o
  new : h.objs.size ≤ e
  obj : ∃ oe vs, h'.get? e = some oe ∧ oe.cls = .ref C ∧ oe.dict = some d ∧ oe.data = .fields vs ∧ vs[1]? = some .none
  dbig : h.objs.size ≤ d
  dne : d ≠ e
  ns : h'.Ns1 d (fun y => if y = f then some v else none)
theorem size2 (u v : Value) : [u, v].length ≤ sizeLine := by
  rw [sizeLine_eq]
  exact (by decide : 2 ≤ 16777216)
theorem size1 (v : Value) : [v].length ≤ sizeLine := by
  rw [sizeLine_eq]
  exact (by decide : 1 ≤ 16777216)
section
variable {P : Program} {w : World} {A : Around} {E : Value → Shared → Prop} {R : Result → Shared → Prop} {s : Shared} {K : Frag} {mg mb : Str → Option Value} {C fI : Addr} {f : Str}
theorem ld_local {M : Model} {env : Env} {m : Str → Option Value} {x : Str} {pos : Pos} {v : Value} {Q : Value → Shared → Prop} (hn : s.heap.Ns env.locals m) (hv : m x = some v) (h : Q v s)
    (hk : env.scope.kind = .function) (hl : env.kindOf x = some .local) (hd : (x == ("__debug__" : Str)) = false) : wpAny M A (eval (.Name x pos) env) Q E s := wpAny_Name (wpAny_loadName_local hk hl hn hv h) hd
theorem at_meth {M : Model} {c : Code} {env : Env} {o : Expr} {name : Str} {apos pos : Pos} {args : List Expr} {Q : Value → Shared → Prop}
    (h : _root_.PySem.wpAt M A c (attributeBase o name env (eval o env)) (fun ov s₁ => wpAny M A (getMethod ov name (do return (← importBound o env).getD true)) (fun fx s₂ => wpAny M A (callWith pos fx.1 fx.2 (backTo pos (starEach args env)) []) Q E s₂) E s₁) E s)
    (hfew : methodCallForm (args.length + ([] : List Keyword).length) (backTo pos (starEach args env)) (backToKw pos (keywordEach [] env)) = true) (hline : (apos.endLine == pos.line) = true) :
    _root_.PySem.wpAt M A c (eval (.Call (.Attribute o name apos) args [] pos) env) Q E s := by
  have hpos : methodCallPos true o env apos pos = pure pos := by unfold methodCallPos; simp [hline]
  rw [arm_eval_Call]
  refine _root_.PySem.wpAt_bind (_root_.PySem.wpAt_mono h (fun ov s₁ h₁ => wpAt_of_wpAny (wpAny_bind (wpAny_standAt ?_))) fun _ _ x => x)
  unfold methodCall
  rw [hfew]
  refine wpAny_bind (wpAny_holding (wpAny_mono h₁ (fun fx s₂ h₂ => ?_) fun _ _ x => x))
  exact wpAny_bind (wpAny_of_eq hpos h₂)
theorem bw_call {nm q : Str} {N : Addr} {bs bm : List Value} {hdct : Bool} {sn : List Str} {sub : List Value} {ab : Bool} {col : Option Bool} {dd : Option Addr} {k0 k1 k2 k3 k5 : Option Value} {h : Heap} {g : Array GenState} {d : Drawn} {t : Nat} {os : OsState} {u e t0 : Addr} {rest : List Value} {Q : Value → Shared → Prop}
    (hC : h.get? C = some (excClassObj nm q C N bs bm hdct sn sub ab col dd k0 k1 k2 k3 k5 "ValueError.__new__")) (he : h.get? e = some (excO C t0)) (hu : h.get? u = some (kxs_mw "ValueError.__init__" e)) (hrest : rest.length ≤ sizeLine)
    (hq : ∀ h' t1, (∀ b o, b ≠ e → h.get? b = some o → h'.get? b = some o) → h'.get? e = some (excO C t1) → Q .none ⟨h', g, d, t, os⟩) :
    wpAny (model P w) A (call (.ref u) rest) Q E ⟨h, g, d, t, os⟩ := by
  refine wpAny_call (codeAny_of_tree (show wpAny (model P w) A.in1 (callAny (.ref u) ⟨rest, []⟩) _ _ _ from ?_))
  unfold callAny
  refine wpAny_bind (wpAny_load hu (KFB.if_so (by unfold kxs_mw; simp) (wpAny_bind (check_bound_init F.excBase_ValueError.toExcCallFacts hC he rfl (wpAny_bind (wpAny_pure (wpAny_pure ⟨plainId_quiet F.excBase_ValueError.init.plain _, codeAny_builtin F.excBase_ValueError.initEntry ?_⟩)))))))
  exact exc_init_tree (c2 := .none) (c3 := .none) (b4 := .bool false) he hrest fun h' k e1 _ => hq h' _ k e1
theorem own_init (T : OwnX P K C fI f) {x t0 : Addr} {v : Value} (X : K.In s.heap) (hlim : s.heap.NoLimit) (hgl : s.heap.Ns mainGlobals mg) (hmg : mg "super" = none) (hbl : s.heap.Ns builtinsNs mb) (hmb : mb "super" = bootBuiltins "super")
    (hx : s.heap.get? x = some (excO C t0)) (hnx : K.lookup x = none) (hroom : A.depth < recursionLimit)
    (hq : ∀ h' tk dx t1, InitEnd s.heap h' x C dx t1 f v → R (.ok (.ret .none)) { s with heap := h', toks := tk }) :
    codeAny (model P w) A (.call (.ref fI) ⟨[.ref x, v], []⟩) R s := by
  obtain ⟨oc, od, qual, params, body, scope, cc, cda, kV, doc, pm, an, ct, osl, cl, ccl, cld, cdd, csl, ccs, vs, file, tf, ho, hcd, hco, hvs, hfile, hcell, hP, hB, hsf, hfd, sk, sco, sgen, ssup, scls, sself, sf, sncell⟩ := T.fn
  obtain ⟨m0, j0, p0, p1, p2, p3, p4, p5, p6, p7, p8, p9, p10, hline, rfl⟩ := hB
  obtain ⟨nm, q, N, bs, bm, sn, sub, ab, col, dd, k0, k1, k2, k3, k5, hC, hbm⟩ := T.T.cls
  have hcl : clsIn K C = some { name := nm, bases := bs, mro := .ref C :: bm, ns := N, qualname := q, hasDict := true, slotNames := sn, subclasses := sub, abstract := ab, collection := col, hasDel := false } := by unfold clsIn; rw [hC] <;> rfl
  have hb : BindsTo s (ksFn "__init__" qual params [.Expr (.Call (.Attribute (.Call (.Name "super" p0) [] [] p1) "__init__" p2) [.Constant (.str m0) j0 p3, .Name f p4] [] p5) p6, .Assign [.Attribute (.Name "self" p7) f p8] (.Name f p9) p10] scope .none kV doc pm an (.ref cda) ct cc) ⟨[.ref x, v], []⟩ [("self", .ref x), (f, v)] := by
    have := binds_pos (K := K) (fd := ksFn "__init__" qual params [.Expr (.Call (.Attribute (.Call (.Name "super" p0) [] [] p1) "__init__" p2) [.Constant (.str m0) j0 p3, .Name f p4] [] p5) p6, .Assign [.Attribute (.Name "self" p7) f p8] (.Name f p9) p10] scope .none kV doc pm an (.ref cda) ct cc) (ps := ["self", f]) hP rfl (by simp [hsf]) s [.ref x, v] X rfl
    exact this
  obtain ⟨skd, snm, sg1, sc1, smore⟩ := scope
  dsimp only at sk sco sgen ssup scls sself sf sncell
  subst sk sco sgen
  refine ks_codeAny_call_defAt (binds := [("self", .ref x), (f, v)]) hroom (X _ _ ho) rfl hlim (codeRec_of X hcd) rfl hb sncell (fun y hy => ?_) (fun h₀ hns hk₀ => ?_)
  · rcases List.mem_cons.mp hy with rfl | hy
    · exact sself
    · rcases List.mem_cons.mp hy with rfl | hy
      · exact sf
      · cases hy
  have X₀ : K.In h₀ := X.keeps hk₀
  have hx₀ := hk₀ _ _ hx
  have hL : s.heap.objs.size ≠ x := Nat.ne_of_gt (Heap.lt_size hx)
  have m_self : ([("self", Value.ref x), (f, v)] : List (Str × Value)).reverse.lookup ("self" : Str) = some (.ref x) := by
    have : ((("self" : Str)) == f) = false := beq_eq_false_iff_ne.mpr hsf
    simp [List.lookup, this]
  have m_f : ([("self", Value.ref x), (f, v)] : List (Str × Value)).reverse.lookup f = some v := by simp [List.lookup]
  -- super().__init__(text, x)
  refine ks_wpAt_execs_cons ?_
  refine ks_wpAt_Expr_any ?_ (by rfl) (by rfl)
  refine at_meth ?_ (by rfl) hline
  have hargs : ∃ ar, (params.posonlyargs ++ params.args).head? = some ar ∧ ar.arg = "self" := by
    obtain ⟨q1, q2, _⟩ := hP
    rw [q1, List.nil_append]
    cases hl : params.args with
    | nil => rw [hl] at q2; cases q2
    | cons a r =>
      rw [hl, List.map_cons] at q2
      exact ⟨a, rfl, (List.cons.inj q2).1⟩
  obtain ⟨ar, har, harn⟩ := hargs
  refine ks_wpAt_super_base (env := callEnv _ _ _) ssup scls (by decide) rfl (hk₀ _ _ (X _ _ ho)) rfl har rfl (X₀ _ _ hco) rfl hvs hfile T.top ?_
  refine ks_loadName_global rfl ssup (loadGlobal_builtin (env := callEnv _ _ _) (hgl.keeps hk₀) hmg (hbl.keeps hk₀) (hmb.trans PyProof.Rows.Boot.«super») ⟨rfl, ?_⟩)
  refine wpAny_loadName_free rfl scls rfl ⟨_, X₀ _ _ hcell, rfl⟩ ?_
  rw [harn]
  refine wpAny_loadName_local rfl sself hns m_self ?_
  have hCd : h₀.get? C = some (excClassObj nm q C N bs bm true sn sub ab col dd k0 k1 k2 k3 k5 "ValueError.__new__") := X₀ _ _ hC
  refine ks_wpAny_isType_cls hCd rfl ⟨rfl, ?_⟩
  refine ks_wpAny_call_super hCd rfl hx₀ rfl (fun c e => by cases e) (looks_mroIn X₀ T.isC) (fun h₁ hso k₁ => ?_)
  have X₁ : K.In h₁ := X₀.keeps k₁
  have hx₁ := k₁ _ _ hx₀
  have I₁ : InstAt h₁ x (excO C t0) C none := ⟨hx₁, rfl, rfl, trivial⟩
  have hsup := T.sup
  unfold ks_superIn at hsup
  rw [hcl, Option.bind_some] at hsup
  refine kxs_getMethod kxs_ValueError hso (looks_opaque X₁ T.opq) (l₀ := .ref C :: bm) (fun A Q E s k q => wpAny_bind ((looks_clsIn X₁ hcl) A _ E s k (wpAny_pure q))) rfl X₁ hsup (I₁.type.andThen (looks_subIn X₁ T.isV)) (ks_ne X₁ I₁ hcl) (by decide) ?_
  generalize hu : h₁.objs.size = u
  have k₂ : ∀ b o, h₁.get? b = some o → (h₁.push (kxs_mw "ValueError.__init__" x)).get? b = some o := fun b o e => Heap.get?_push_of_some _ e
  have hmw : (h₁.push (kxs_mw "ValueError.__init__" x)).get? u = some (kxs_mw "ValueError.__init__" x) := by rw [← hu]; exact Heap.get?_push_size h₁ rfl
  have hns₂ : (h₁.push (kxs_mw "ValueError.__init__" x)).Ns s.heap.objs.size fun y => ([("self", Value.ref x), (f, v)] : List (Str × Value)).reverse.lookup y := (hns.keeps k₁).keeps k₂
  refine kxs_callWith (i := "ValueError.__init__") (x := x) rfl (evalArgs_plain (spliced_cons ?_))
  show wpAny _ _ (eval (.Constant (.str m0) j0 p3) _) _ _ _
  refine wpAny_Constant_str ?_
  refine spliced_cons (ld_local hns₂ m_f ?_ rfl sf hfd)
  refine spliced_nil ⟨hmw, ?_⟩
  show wpAny _ _ (call (.ref u) [.str m0 _, v]) _ _ _
  have hC₂ : (h₁.push (kxs_mw "ValueError.__init__" x)).get? C = some (excClassObj nm q C N bs bm true sn sub ab col dd k0 k1 k2 k3 k5 "ValueError.__new__") := k₂ _ _ (X₁ _ _ hC)
  have hx₂ := k₂ _ _ hx₁
  generalize hh2 : h₁.push (kxs_mw "ValueError.__init__" x) = h₂ at *
  refine bw_call hC₂ hx₂ hmw (size2 _ _) fun h₃ t1 k₃ hx₃ => ?_
  have kx : ∀ b o, b ≠ x → s.heap.get? b = some o → h₃.get? b = some o := fun b o hb e => k₃ b o hb (k₂ _ _ (k₁ _ _ (hk₀ _ _ e)))
  have X₃ : K.In h₃ := fun b o e => kx b o (fun z => by rw [z, hnx] at e; cases e) (X b o e)
  have hns₃ : h₃.Ns s.heap.objs.size fun y => ([("self", Value.ref x), (f, v)] : List (Str × Value)).reverse.lookup y := by
    obtain ⟨oL, es, ep, e1, r⟩ := hns₂
    exact ⟨oL, es, ep, k₃ _ _ hL e1, r⟩
  -- self.f = f
  refine wpAt_of_wpAny (wpAny_execs_cons (plainObj_wpAny_Assign_Attribute ?_))
  refine ld_local hns₃ m_f (ld_local hns₃ m_self ?_ rfl sself (by decide)) rfl sf hfd
  refine set_plain X₃ (ox := excO C t1) (od := none) ⟨hx₃, rfl, rfl, trivial⟩ T.T.sa ?_
  refine exc_osa X₃ hx₃ hcl (show refsVE (.ref C :: bm) = true from hbm) rfl T.noN (fun h₄ tk₄ dx k₄ dn dne hx₄ hn₄ => ?_)
  show wpAny _ _ (execs _ _) _ _ _
  refine wpAny_execs_nil (hq h₄ _ dx t1 ⟨fun b o hb e => k₄ b o hb (kx b o hb e), hx₄, ?_, dne, hn₄⟩)
  obtain ⟨oL, es, ep, e1, r⟩ := hns₃
  have z := Heap.lt_size e1
  exact Nat.le_of_lt (Nat.lt_of_lt_of_le z dn)
theorem own_made (T : OwnX P K C fI f) {v : Value} (X : K.In s.heap) (hlim : s.heap.NoLimit) (hgl : s.heap.Ns mainGlobals mg) (hmg : mg "super" = none) (hbl : s.heap.Ns builtinsNs mb) (hmb : mb "super" = bootBuiltins "super") (hroom : A.depth + 1 < recursionLimit)
    (hq : ∀ h' tk e d, OwnMade s.heap h' e C d f v → R (.ok (.ret (.ref e))) { s with heap := h', toks := tk }) :
    codeAny (model P w) A (.call (.ref C) ⟨[v], []⟩) R s := by
  obtain ⟨nm, q, N, bs, bm, sn, sub, ab, col, dd, k0, k1, k2, k3, k5, hC, hbm⟩ := T.T.cls
  obtain ⟨hp, g, dr, tk, os⟩ := s
  have k : ∀ b o, hp.get? b = some o → ((hp.push (kdv_tup [v])).push (excO C hp.objs.size)).get? b = some o := fun b o e => Heap.get?_push_of_some _ (Heap.get?_push_of_some _ e)
  have hget : ((hp.push (kdv_tup [v])).push (excO C hp.objs.size)).get? (hp.objs.size + 1) = some (excO C hp.objs.size) := by heap_get
  have hnx : K.lookup (hp.objs.size + 1) = none := by
    cases e : K.lookup (hp.objs.size + 1) with
    | none => rfl
    | some o =>
      have z : hp.get? (hp.objs.size + 1) = some o := X _ _ e
      exact absurd (Nat.lt_of_succ_lt (Heap.lt_size z)) (Nat.lt_irrefl _)
  refine call_own F.excBase_ValueError (fun X => refsVE_contains X bm hbm) (X _ _ hC) (looks_findIn X T.iC) (fun self => bind_fn X self T.tC) (size1 v) ?_
  refine own_init (s := ⟨(hp.push (kdv_tup [v])).push (excO C hp.objs.size), g, dr, tk, os⟩) T (X.keeps k) (hlim.keeps k) (hgl.keeps k) hmg (hbl.keeps k) hmb hget hnx ?_ fun h' tk' dx t1 ⟨k', hx, dn, dne, hns⟩ => ?_
  · show A.depth + 1 < recursionLimit
    exact hroom
  · have old : ∀ b o, hp.get? b = some o → h'.get? b = some o := fun b o e => k' b o (Nat.ne_of_lt (Nat.lt_succ_of_lt (Heap.lt_size e))) (k b o e)
    have z : hp.objs.size + 1 + 1 ≤ dx := by
      first
        | (simpa only [Heap.size_push] using dn)
        | exact dn
        | (have q := dn; rw [Heap.size_push, Heap.size_push] at q; exact q)
    exact ⟨rfl, hq h' tk' (hp.objs.size + 1) dx ⟨old, Nat.le_succ _, ⟨_, _, hx, rfl, rfl, rfl, rfl⟩, Nat.le_trans (Nat.le_trans (Nat.le_succ _) (Nat.le_succ _)) z, dne, hns⟩⟩
end
section
variable {X : Cx} {C fI : Addr} {f : Str} {E : WX}
theorem relO_one {v : V} {v' : Value} (r : RelV v v') (g : Str) : RelO (List.lookup g [(f, v)]) (if g = f then some v' else none) := by
  by_cases hw : g = f
  · subst hw
    rw [if_pos rfl]
    have q : List.lookup g [(g, v)] = some v := by simp [List.lookup]
    rw [q]
    exact r
  · rw [if_neg hw]
    have qw : (g == f) = false := by simpa using hw
    have q2 : List.lookup g [(f, v)] = none := by simp [List.lookup, qw]
    rw [q2]
    trivial
/-- C(e): the exception holds e -/
def tMk1 (C : Addr) (f : Str) (ta : TA) : L2.St → Hp → XK → Prop := fun σ H Q => ta σ H fun vs H1 => ∃ v, vs = [v] ∧ ∀ d, H1 d = none → Q (.ref C) (some d) (upd H1 d (.xd [(f, v)]))
theorem made1 {pins : List (Addr × Obj)} {σ : L2.St} {H1 : Hp} {Q : XK} {s1 : Shared} {v : V} {v' : Value} {k : Nat} (T : OwnX X.prog X.K C fI f) (hr : Room k X.A) (hmg : X.mg "super" = none) (I1 : Inv X pins σ H1 s1) (rv : RelV v v') (q1 : ∀ d, H1 d = none → Q (.ref C) (some d) (upd H1 d (.xd [(f, v)]))) :
    wpAny (model X.prog X.w) X.A (call (.ref C) [v']) (MkP X pins σ Q) X.xe s1 := by
  have hlim := I1.nolimit
  obtain ⟨mb, hbl, hmb⟩ := I1.ok.mod.blt
  have hgl : s1.heap.Ns mainGlobals X.mg := I1.ok.mod.glob.keeps I1.bk
  have hbl1 : s1.heap.Ns builtinsNs mb := hbl.keeps I1.bk
  have hk := I1.kIn
  have hdp : X.A.depth + 1 < recursionLimit := by have := hr.dp; omega
  obtain ⟨hp, g, dr, tk, os⟩ := s1
  refine wpAny_call (own_made (f := f) (fI := fI) T hk hlim hgl hmg hbl1 (hmb _ (by decide)) hdp fun h' tk' e d M => ?_)
  show MkP X pins σ Q (.ref e) ⟨h', g, dr, tk', os⟩
  obtain ⟨oe, fv, hoe, hc, hd, hdat, h1⟩ := M.obj
  have hns := M.ns
  obtain ⟨G', g1, g2⟩ := restrict h' fun b => decide (b ≠ e)
  have gk : ∀ b, b ≠ e → G'.get? b = h'.get? b := fun b hb => g1 b (decide_eq_true hb)
  have ge : G'.get? e = none := g2 e (by simp)
  have old : ∀ b o, hp.get? b = some o → G'.get? b = some o := fun b o q => (gk b (Nat.ne_of_lt (Nat.lt_of_lt_of_le (Heap.lt_size q) M.new))).trans (M.keep b o q)
  have ob : ObjOk X.prog X.w (upd H1 d (.xd [(f, v)])) G' d (.xd [(f, v)]) :=
    ⟨_, hns.at (fun o q => (gk d M.dne).trans q), fun f => relO_one rv f⟩
  have J : Inv X pins σ (upd H1 d (.xd [(f, v)])) ⟨G', g, dr, tk', os⟩ := I1.laid (t' := tk') old M.dbig ob
  refine ⟨e, oe, fv, ⟨G', g, dr, tk', os⟩, _, .ref C, some d, rfl, J, fun b o q => ?_, ge, hoe, ⟨hc, hd⟩, hdat, h1, ?_, rfl, I1.bare, raises_own T.T.exC T.T.tyC, q1 d (I1.hok.fresh M.dbig)⟩
  · by_cases hb : b = e
    · have q' : G'.get? b = some o := q
      rw [hb, ge] at q'; cases q'
    · exact (gk b hb).symm.trans q
  · rw [upd_ne (Ne.symm M.dne)]
    exact I1.hok.fresh M.new
theorem pmk_1 {a : Expr} {ta : TA} {x : Str} {p pos : Pos} {k : Nat} (T : OwnX X.prog X.K C fI f) (gC : X.mg x = some (.ref C)) (hr : Room k X.A) (hmg : X.mg "super" = none) (ha : PA X [a] ta) (hg : Gl X x) (hdb : (x == ("__debug__" : Str)) = false)
    (hs : noStar [a] = true) : PMk X (.Call (.Name x p) [a] [] pos) (tMk1 C f ta) := by
  intro pins s σ H Q I h
  refine wpAny_Call_Name_kw (ld_glob I hg gC ?_ hdb)
  refine PySem.W.callWith_K (h₀ := X.base) I.ok.mod.kin T.T.kC (thn (ha.run pos pins s σ H _ I h) fun us s1 hh => ?_) (star_cons hs).1 (star_any (star_cons (env := X.env) hs).2)
  obtain ⟨vs, H1, I1, r1, v, ev, q1⟩ := hh
  subst ev
  refine ⟨I1.kIn, ?_⟩
  cases r1 with
  | cons rv rn =>
    cases rn
    exact made1 T hr hmg I1 rv q1
/-- C(), C without an own __init__ -/
theorem pmk_0 {x : Str} {p pos : Pos} (q : PySem.W.excIn X.K C He.veBase "ValueError.__new__" = true) (gC : X.mg x = some (.ref C)) (kC : PySem.W.keepIn X.K (.ref C) = true) (r : Raises X (.ref C)) (hg : Gl X x)
    (hdb : (x == ("__debug__" : Str)) = false) : PMk X (.Call (.Name x p) [] [] pos) (fun _ H Q => Q (.ref C) none H) := by
  intro pins s σ H Q I h
  refine wpAny_Call_Name_kw (ld_glob I hg gC ?_ hdb)
  refine PySem.W.callWith_K0 I.kIn kC ?_
  show wpAny _ _ (call (.ref C) []) _ _ _
  obtain ⟨bm, N, nm, qn, bs, hdct, sn, sub, ab, col, dd, k0, k1, k2, k3, k5, mN, hC, hN, hni, T⟩ := exc_obj I.kIn q
  refine wpAny_call_exc_subT F.excBase_ValueError T hC hN hni (fun h' e hm => ?_) (Nat.zero_le _)
  exact mk_of I hm r h (I.hok.gone hm.new)
end

/-! ### the text's own exception classes -/
/-- a class: its name, the field that its own __init__ stores, the classes of the text of which it is -/
structure XT where
  x : Str
  f : Option Str
  up : List Str
structure XtAt (P : Program) (K : Frag) (mg : Str → Option Value) (l : List XT) (T : XT) (C : Addr) : Prop where
  gC : mg T.x = some (.ref C)
  kC : keepIn K (.ref C) = true
  exC : subIn K (.ref C) (.type "BaseException") = some true
  tyC : typeIn K (.ref C) = some (.type "type")
  fld : XfC K C
  ask : ExcC K C
  made : match T.f with
    | none => excIn K C He.veBase "ValueError.__new__" = true
    | some f => (∃ fI, OwnX P K C fI f) ∧ mg "super" = none
  up : ∀ U ∈ l, ∃ D, mg U.x = some (.ref D) ∧ exmOne K (.ref C) (.ref D) = some (T.up.contains U.x) ∧ kitOne K (.ref C) (.ref D) = some (T.up.contains U.x)
def XtOk (P : Program) (K : Frag) (mg : Str → Option Value) (l : List XT) : Prop := ∀ T ∈ l, ∃ C, XtAt P K mg l T C
/-- isinstance(e, c), e the exception that the suite holds, with its dict or without one -/
def rIsX (K : Frag) (D a : Addr) (d : Option Addr) : List V → Hp → VK → Prop := fun xs H Q => ∃ (c : V) (cv : Value) (b : Bool), xs = [.ref a, c] ∧ (∀ u, L2.RelV c u → u = cv) ∧ kitOne K (.ref D) cv = some b ∧ (∀ dd, d = some dd → ∃ fs, H dd = some (.xd fs)) ∧ Q (.bl b) H
/-- the exception of the suite is an object of its class, its dict where it stands -/
theorem inst_of {X : Cx} {pins pn : List (Addr × Obj)} {σ : L2.St} {H : Hp} {s : Shared} {a D : Addr} {oe : Obj} : ∀ {d : Option Addr}, L2.Inv (X.suite a ((a, oe) :: pn)) pins σ H s → Zc (.ref D) d oe → notCls oe → (∀ dd, d = some dd → ∃ fs, H dd = some (.xd fs)) → ∃ od, InstAt s.heap a oe D od
  | none, I, z, n, _ => ⟨none, (I.pin (a, oe) (List.mem_append_left _ (List.mem_cons_self ..))).1, z.1, n, by rw [z.2]; trivial⟩
  | some dd, I, z, n, m =>
    let ⟨_, stands⟩ := m dd rfl
    let ⟨o, at_⟩ := objOk_get (I.hok dd _ stands)
    ⟨some o, (I.pin (a, oe) (List.mem_append_left _ (List.mem_cons_self ..))).1, z.1, n, by rw [z.2]; exact at_⟩
theorem call_isX {X : Cx} {a D : Addr} {oe : Obj} {d : Option Addr} {pn : List (Addr × Obj)} (C : ExcC X.K D) (hz : Zc (.ref D) d oe) (hf : ∃ vs, oe.data = .fields vs) : CallR (X.suite a ((a, oe) :: pn)) (.builtin "isinstance") (rIsX X.K D a d) := by
  rintro pins s σ H _ us Q I r ⟨c, cv, b, rfl, known, told, dict, last⟩
  match us, r with
  | [_, _], .cons rfl (.cons same .nil) =>
    cases known _ same
    obtain ⟨od, inst⟩ := inst_of I hz (hf.elim fun vs e => by unfold notCls; rw [e]) dict
    have cls : (clsIn X.K D).isSome = true := (any_some C.hd).elim fun _ e => by rw [e.1]; rfl
    exact kia_one (kitx_exc cls C.hg C.hk C.hs C.ha C.hn C.ht C.hm) I.kIn inst told nofun fun t => ⟨.bl b, H, I.kept (t' := t) fun _ _ z => z, rfl, last⟩
end Sr
/-! Operators by values. -/
namespace Sr
open PySem L2

/-! ### data out of the store, for a look -/
section
variable {K : PySem.W.Frag} {ρ : Cs} {H : Hp} {mg : Str → Option Value}
theorem plainAll_cons {d : PyData} {ds : List PyData} (h : PyData.plainAll (d :: ds) = true) : d.plain = true ∧ PyData.plainAll ds = true := by
  simpa [PyData.plainAll, Bool.and_eq_true] using h
theorem frzL_cons {f : PV → Option PyData} {v : PV} {xs : List PV} {ds : List PyData} (h : frzL f (v :: xs) = some ds) : ∃ d es, ds = d :: es ∧ f v = some d ∧ frzL f xs = some es := by
  have h : (match f v with
    | some d => (frzL f xs).map (d :: ·)
    | none => none) = some ds := h
  cases q : f v with
  | none => rw [q] at h; cases h
  | some d =>
    rw [q] at h
    have h : (frzL f xs).map (d :: ·) = some ds := h
    cases q2 : frzL f xs with
    | none => rw [q2] at h; cases h
    | some es =>
      rw [q2] at h
      exact ⟨d, es, (Option.some.inj h).symm, rfl, rfl⟩
/-- what is seen now, without dicts -/
theorem frz_dp {X : Cx} {st : Store} (r : RS X.K ρ H mg st) : ∀ {k : Nat} {v : PV} {x : V} {d : PyData}, VR X.K ρ H mg v x → frz k st v = some d → d.plain = true → Dp X.K H x d := by
  have data : ∀ {y d : PyData} {x : V}, VR X.K ρ H mg (.d y) x → some y = some d → d.plain = true → Dp X.K H x d := fun {y d x} h e p => by
    have e := Option.some.inj e
    subst e
    cases h with
    | d h => exact DR.dp p h
  intro k
  induction k with
  | zero =>
    intro v x d h e p
    cases v with
    | d y => exact data h e p
    | _ => cases e
  | succ k ih =>
    have all : ∀ {xs : List PV} {vs : List V} {ds : List PyData}, VRs X.K ρ H mg xs vs → frzL (frz k st) xs = some ds → PyData.plainAll ds = true → DpAll X.K H vs ds := by
      intro xs
      induction xs with
      | nil =>
        intro vs ds h e p
        cases Option.some.inj (show some [] = some ds from e)
        cases h
        exact .nil
      | cons v xs ihx =>
        intro vs ds h e p
        obtain ⟨d1, es, rfl, e1, e2⟩ := frzL_cons e
        obtain ⟨p1, p2⟩ := plainAll_cons p
        cases h with
        | cons h1 h2 => exact .cons (ih h1 e1 p1) (ihx h2 e2 p2)
    intro v x d h e p
    cases v with
    | d y => exact data h e p
    | fn z => cases e
    | tup xs =>
      have e : (frzL (frz k st) xs).map .tuple = some d := e
      cases q : frzL (frz k st) xs with
      | none => rw [q] at e; cases e
      | some ds =>
        rw [q] at e
        cases Option.some.inj (show some (PyData.tuple ds) = some d from e)
        cases h with
        | tup h1 h2 => exact .tup h1.sq (all h2 q (by simpa [PyData.plain] using p))
    | cell n =>
      have e : (match st[n]? with
        | some (.lst xs) => (frzL (frz k st) xs).map .list
        | some (.dic kvs) => (frzL (frz k st) (kvs.map (·.2))).map fun ds => .dict ((kvs.map fun p => keyD p.1).zip ds)
        | _ => none) = some d := e
      cases h with
      | cell hc =>
        cases q : st[n]? with
        | none => rw [q] at e; cases e
        | some o =>
          rw [q] at e
          obtain ⟨b, h1, h2⟩ := r.at_ n o q
          rw [hc] at h1
          cases h1
          cases o with
          | lst xs =>
            obtain ⟨vs, g1, g2⟩ := h2
            have e : (frzL (frz k st) xs).map .list = some d := e
            cases q : frzL (frz k st) xs with
            | none => rw [q] at e; cases e
            | some ds =>
              rw [q] at e
              cases Option.some.inj (show some (PyData.list ds) = some d from e)
              exact .lst (.of g1) (all g2 q (by simpa [PyData.plain] using p))
          | dic kvs =>
            have e : ((frzL (frz k st) (kvs.map (·.2))).map fun ds => PyData.dict ((kvs.map fun p => keyD p.1).zip ds)) = some d := e
            cases q : frzL (frz k st) (kvs.map (·.2)) with
            | none => rw [q] at e; cases e
            | some ds =>
              rw [q] at e
              cases Option.some.inj (show some (PyData.dict _) = some d from e)
              simp [PyData.plain] at p
          | _ => cases e
end
/-- data that may be compared with other data -/
def cmpD (v w : PV) (st : Store) : Option (PyData × PyData) := match frz 6 st v, frz 6 st w with
  | some d, some e => if d.plain && e.plain && decide (min d.depth e.depth ≤ 100) then some (d, e) else none
  | _, _ => none
theorem cmpD_ok {v w : PV} {st : Store} {d e : PyData} (h : cmpD v w st = some (d, e)) : frz 6 st v = some d ∧ frz 6 st w = some e ∧ d.plain = true ∧ e.plain = true ∧ min d.depth e.depth ≤ 100 := by
  unfold cmpD at h
  split at h
  · rename_i d1 e1 h1 h2
    split at h
    · rename_i hc
      have h := Option.some.inj h
      simp only [Prod.mk.injEq] at h
      obtain ⟨rfl, rfl⟩ := h
      simp only [Bool.and_eq_true, decide_eq_true_eq] at hc
      exact ⟨h1, h2, hc.1.1, hc.1.2, hc.2⟩
    · cases h
  · cases h
def vB2 (b : Bool) (st : Store) : Option (PV × Store) := some (.d (.bool b), st)
def vEqP (neg : Bool) : V2 := fun v w st => match cmpD v w st with
  | some (d, e) => vB2 (if neg then !PyData.eqv d e else PyData.eqv d e) st
  | none => none
section
variable {X : Cx}
theorem okB {ρ : Cs} {H : Hp} {st : Store} {b : Bool} {Q : VK} (rs : RS X.K ρ H X.mg st) (h : okV X ρ H (vB2 b st) Q) : Q (.bl b) H := h ρ H _ (Ext.refl _ _) rs (.d (.bl b))
theorem op_eqP_ok (hu : X.A.units + 150 < cLine) : OpR X (compareOp .Eq) (rV2 X (vEqP false)) := by
  intro pins s σ H x y v u Q I rx ry h
  obtain ⟨ρ, st, a, b, rs, ha, hb, h⟩ := h
  unfold vEqP at h
  cases q : cmpD a b st with
  | none => rw [q] at h; exact h.elim
  | some p =>
    obtain ⟨d, e⟩ := p
    rw [q] at h
    obtain ⟨h1, h2, h3, h4, h5⟩ := cmpD_ok q
    obtain ⟨as, r1⟩ := Dp.reads I d x v (frz_dp rs ha h1 h3) rx
    obtain ⟨bs, r2⟩ := Dp.reads I e y u (frz_dp rs hb h2 h4) ry
    exact SeqAt.eq_plain r1 r2 h3 h4 (by omega) ⟨.bl _, H, I, rfl, okB rs h⟩
theorem op_neP_ok (hu : X.A.units + 150 < cLine) : OpR X (compareOp .NotEq) (rV2 X (vEqP true)) := by
  intro pins s σ H x y v u Q I rx ry h
  obtain ⟨ρ, st, a, b, rs, ha, hb, h⟩ := h
  unfold vEqP at h
  cases q : cmpD a b st with
  | none => rw [q] at h; exact h.elim
  | some p =>
    obtain ⟨d, e⟩ := p
    rw [q] at h
    obtain ⟨h1, h2, h3, h4, h5⟩ := cmpD_ok q
    obtain ⟨as, r1⟩ := Dp.reads I d x v (frz_dp rs ha h1 h3) rx
    obtain ⟨bs, r2⟩ := Dp.reads I e y u (frz_dp rs hb h2 h4) ry
    exact SeqAt.ne_plain r1 r2 h3 h4 (by omega) ⟨.bl _, H, I, rfl, okB rs h⟩
end

/-! ### arithmetic -/
def vInt (f : Int → Int → Option Int) : V2 := fun v w st => match v, w with
  | .d (.int i), .d (.int j) => (f i j).map fun k => (.d (.int k), st)
  | _, _ => none
theorem vInt_ok {X : Cx} {ρ : Cs} {H : Hp} {st : Store} {f : Int → Int → Option Int} {v w : PV} {x y : V} {Q : VK} (rs : RS X.K ρ H X.mg st) (hv : VR X.K ρ H X.mg v x) (hw : VR X.K ρ H X.mg w y) (h : okV X ρ H (vInt f v w st) Q) :
    ∃ i j k, x = .int i ∧ y = .int j ∧ f i j = some k ∧ Q (.int k) H := by
  unfold vInt at h
  split at h
  · rename_i i j
    cases q : f i j with
    | none => rw [q] at h; exact h.elim
    | some k =>
      rw [q] at h
      exact ⟨i, j, k, hv.int, hw.int, q, h ρ H _ (Ext.refl _ _) rs (.d (.int k))⟩
  · exact h.elim
/-- a new list: a cell, or data that never changes -/
def newL (m : Bool) (xs : List PV) (st : Store) : Option (PV × Store) := if m then some (.cell st.length, st ++ [.lst xs]) else match datas xs with
  | some ds => some (.d (.list ds), st)
  | none => none
def catD (m : Bool) (v w : PV) (st : Store) : Option (PV × Store) := match seqItems v st, seqItems w st with
  | some xs, some ys => if sizeOk (xs.length + ys.length) then newL m (xs ++ ys) st else none
  | _, _ => none
def isList (v : PV) (st : Store) : Bool := match v with
  | .d (.list _) => true
  | .cell n => match st[n]? with
    | some (.lst _) => true
    | _ => false
  | _ => false
def vAdd (m : Bool) : V2 := fun v w st => match v, w with
  | .d (.int i), .d (.int j) => some (.d (.int (i + j)), st)
  | .d (.str a), .d (.str b) => if sizeOk (a.length + b.length) then some (.d (.str (a ++ b)), st) else none
  | v, w => match tupItems v, tupItems w with
    | some xs, some ys => if sizeOk (xs.length + ys.length) then some (mkTup (xs ++ ys), st) else none
    | _, _ => if isList v st && isList w st then catD m v w st else none
theorem isList_ok {K : PySem.W.Frag} {ρ : Cs} {H : Hp} {mg : Str → Option Value} {v : PV} {x : V} {st : Store} (rs : RS K ρ H mg st) (h : VR K ρ H mg v x) (e : isList v st = true) :
    ∃ a vs xs, x = .ref a ∧ Rd H a (.lst vs) ∧ seqItems v st = some xs ∧ VRs K ρ H mg xs vs := by
  cases v with
  | fn z => cases e
  | tup z => cases e
  | d d =>
    cases d with
    | list ds =>
      cases h with
      | d h =>
        cases h with
        | lst h q => exact ⟨_, _, _, rfl, h.1, rfl, q.toV⟩
    | _ => cases e
  | cell n =>
    have e : (match st[n]? with
      | some (.lst _) => true
      | _ => false) = true := e
    cases h with
    | cell hc =>
      cases q : st[n]? with
      | none => rw [q] at e; cases e
      | some o =>
        rw [q] at e
        obtain ⟨b, h1, h2⟩ := rs.at_ n o q
        rw [hc] at h1
        cases h1
        cases o with
        | lst xs =>
          obtain ⟨vs, g1, g2⟩ := h2
          exact ⟨_, vs, xs, rfl, .inl g1, show (match st[n]? with | some (.lst xs) => some xs | _ => none) = some xs by rw [q], g2⟩
        | _ => cases e
section
variable {X : Cx}
theorem lstR {pins : List (Addr × Obj)} {σ : L2.St} {H : Hp} {s : Shared} {l : Addr} {xs : List V} (I : Inv X pins σ H s) (h : Rd H l (.lst xs)) : xs.length ≤ sizeLine ∧ ∃ (its : List Value) (n : Nat), Vals xs its ∧ xs.length = its.length ∧ s.heap.get? l = some { cls := .type "list", data := .seq its.toArray n } := by
  obtain ⟨z, its, n, r, e⟩ := h.ok I.hok
  exact ⟨z, its, n, r, r.length, e⟩
def rCatR : R2 := fun x y H Q => ∃ l b xs zs, x = .ref l ∧ y = .ref b ∧ Rd H l (.lst xs) ∧ Rd H b (.lst zs) ∧ xs.length + zs.length ≤ sizeLine ∧ ∀ p, H p = none → Q (.ref p) (upd H p (.lst (xs ++ zs)))
theorem op_catR : OpR X (binaryOp .Add) rCatR := by
  rintro pins s σ H _ _ _ _ Q I rx ry ⟨l, b, xs, zs, rfl, rfl, one, other, room, q⟩
  cases rx
  cases ry
  obtain ⟨_, as, n, each, same, at_l⟩ := lstR I one
  obtain ⟨_, bs, m, each2, same2, at_b⟩ := lstR I other
  have both := I.lnew (t' := s.toks) (each.append each2) (by rw [List.length_append]; exact room)
  rw [same, same2] at room
  exact PySem.P.add_list at_l at_b (by rw [List.append_toArray]; exact ⟨.ref _, _, both, rfl, q _ I.fresh⟩) (by simpa using room)
/-- the answer is a new list of data -/
theorem newL_ok {m : Bool} {ρ : Cs} {H : Hp} {st : Store} {xs : List PV} {vs : List V} {Q : VK} (rs : RS X.K ρ H X.mg st) (v : VRs X.K ρ H X.mg xs vs) (h : okV X ρ H (newL m xs st) Q) : ∀ p, H p = none → Q (.ref p) (upd H p (.lst vs)) := by
  intro p n
  unfold newL at h
  cases m with
  | true =>
    rw [if_pos rfl] at h
    exact h _ _ _ (rs.extC n) (rs.cellL v n) rs.cellAt
  | false =>
    rw [if_neg (by decide)] at h
    cases e : datas xs with
    | none => rw [e] at h; exact h.elim
    | some ds =>
      rw [e] at h
      have e2 := datas_eq e
      subst e2
      exact h ρ _ _ (rs.ext n) (rs.new n) (.d (new_lst rs v.toD n))
theorem op_add_ok {m : Bool} : OpR X (binaryOp .Add) (rV2 X (vAdd m)) := by
  intro pins s σ H x y v u Q I rx ry h
  obtain ⟨ρ, st, a, b, rs, ha, hb, h⟩ := h
  unfold vAdd at h
  split at h
  · rename_i i j
    exact op_add pins s σ H x y v u Q I rx ry ⟨i, j, ha.int, hb.int, h ρ H _ (Ext.refl _ _) rs (.d (.int _))⟩
  · rename_i i j
    split at h
    · rename_i hz
      exact op_add_str pins s σ H x y v u Q I rx ry ⟨i, j, ha.str, hb.str, sizeOk_le hz, h ρ H _ (Ext.refl _ _) rs (.d (.str _))⟩
    · exact h.elim
  · split at h
    · rename_i xs ys q1 q2
      split at h
      · rename_i hz
        obtain ⟨p, vs, rfl, f1, v1⟩ := tupItems_ok ha q1
        obtain ⟨q, ws, rfl, f2, v2⟩ := tupItems_ok hb q2
        have hz := sizeOk_le hz
        refine op_catA pins s σ H _ _ v u Q I rx ry ⟨p, q, vs, ws, rfl, rfl, f1.sq, f2.sq, by rw [← v1.length, ← v2.length]; exact hz, fun e => ?_, fun _ e => ?_, fun _ _ t nt => ?_⟩
        · subst e
          have e : xs = [] := List.eq_nil_of_length_eq_zero v1.length
          subst e
          exact h ρ H _ (Ext.refl _ _) rs (.mkTup f2 v2)
        · subst e
          have e : ys = [] := List.eq_nil_of_length_eq_zero v2.length
          subst e
          rw [List.append_nil] at h
          exact h ρ H _ (Ext.refl _ _) rs (.mkTup f1 v1)
        · exact h ρ _ _ (rs.ext nt) (rs.new nt) (new_tup rs (v1.append v2) nt)
      · exact h.elim
    · split at h
      · rename_i hl
        rw [Bool.and_eq_true] at hl
        obtain ⟨p, vs, xs, rfl, g1, g2, g3⟩ := isList_ok rs ha hl.1
        obtain ⟨q, ws, ys, rfl, k1, k2, k3⟩ := isList_ok rs hb hl.2
        unfold catD at h
        rw [g2, k2] at h
        dsimp only at h
        split at h
        · rename_i hz
          exact op_catR pins s σ H _ _ v u Q I rx ry ⟨p, q, vs, ws, rfl, rfl, g1, k1, by rw [← g3.length, ← k3.length]; exact sizeOk_le hz, newL_ok rs (g3.append k3) h⟩
        · exact h.elim
      · exact h.elim
def vSub : V2 := vInt fun i j => some (i - j)
theorem op_sub_ok : OpR X (binaryOp .Sub) (rV2 X vSub) := by
  intro pins s σ H x y v u Q I rx ry h
  obtain ⟨ρ, st, a, b, rs, ha, hb, h⟩ := h
  obtain ⟨i, j, k, rfl, rfl, e, q⟩ := vInt_ok rs ha hb h
  cases Option.some.inj e
  exact op_sub pins s σ H _ _ v u Q I rx ry ⟨i, j, rfl, rfl, q⟩
def mulOk (i j : Int) : Bool := decide (i.natAbs.log2 + j.natAbs.log2 < 100000000)
theorem mulOk_x {i j : Int} (h : mulOk i j = true) : CMulX i j := by
  have h : i.natAbs.log2 + j.natAbs.log2 < 100000000 := of_decide_eq_true h
  have b : ∀ k : Int, Builtin.Int.intBits k ≤ k.natAbs.log2 + 1 := fun k => by
    unfold Builtin.Int.intBits
    split <;> omega
  have h1 := b i
  have h2 := b j
  show (Builtin.Int.intBits i : Int) + (Builtin.Int.intBits j : Int) ≤ 134217728
  omega
def vMulT : V2 := fun v w st => match v, w with
  | .d (.int i), .d (.int j) => if mulOk i j then some (.d (.int (i * j)), st) else none
  | .d (.str a), .d (.int k) => if decide (a.length ≤ 100) && decide (0 ≤ k) && decide (k ≤ 5000) then some (.d (.str (PySem.Txt.mul a k)), st) else none
  | v, .d (.int k) => match tupItems v with
    | some xs => if !xs.isEmpty && decide (2 ≤ k) && decide (k ≤ 1000) && decide (xs.length ≤ 1000) then some (mkTup (List.replicate k.toNat xs).flatten, st) else none
    | none => none
  | _, _ => none
theorem VRs.rep {K : PySem.W.Frag} {ρ : Cs} {H : Hp} {mg : Str → Option Value} {xs : List PV} {vs : List V} (h : VRs K ρ H mg xs vs) : ∀ n : Nat, VRs K ρ H mg (List.replicate n xs).flatten (List.replicate n vs).flatten
  | 0 => .nil
  | n + 1 => by
    rw [List.replicate_succ, List.replicate_succ, List.flatten_cons, List.flatten_cons]
    exact h.append (VRs.rep h n)
theorem op_mul_rep : OpR X (binaryOp .Mult) (fun x y H Q => ∃ a k, x = .str a ∧ y = .int k ∧ a.length ≤ 100 ∧ 0 ≤ k ∧ k ≤ 5000 ∧ Q (.str (PySem.Txt.mul a k)) H) := by
  intro pins s σ H x y v u Q I rx ry h
  obtain ⟨a, k, rfl, rfl, ha, h0, h5, q⟩ := h
  obtain ⟨t, rfl⟩ := rx
  obtain ⟨t', rfl⟩ := ry
  refine PySem.SB.mul ⟨?_, fun h1 _ => ?_, fun _ _ => ?_⟩ fun t' tk => ⟨.str (PySem.Txt.mul a k), H, I.tok _, ⟨_, rfl⟩, q⟩
  · rw [decide_eq_false (show ¬ k < -(2 ^ 63 : Int) by omega), decide_eq_false (show ¬ k ≥ 2 ^ 63 by omega)]
    rfl
  · have : (a.length : Int) ≤ (2 ^ 63 - 1) / k := (Int.le_ediv_iff_mul_le (by omega)).mpr (by
      have := Int.mul_le_mul (show (a.length : Int) ≤ 100 by omega) h5 h0 (by decide)
      omega)
    omega
  · have h1 : k.toNat ≤ 5000 := by omega
    have := Nat.mul_le_mul ha h1
    unfold PySem.Builtin.Str.tooLong
    exact decide_eq_false (by unfold sizeLine; omega)
theorem op_mulT_ok : OpR X (binaryOp .Mult) (rV2 X vMulT) := by
  intro pins s σ H x y v u Q I rx ry h
  obtain ⟨ρ, st, a, b, rs, ha, hb, h⟩ := h
  unfold vMulT at h
  split at h
  · rename_i i j
    split at h
    · rename_i hz
      exact op_mulX pins s σ H x y v u Q I rx ry ⟨i, j, ha.int, hb.int, mulOk_x hz, h ρ H _ (Ext.refl _ _) rs (.d (.int _))⟩
    · exact h.elim
  · split at h
    · rename_i hz
      simp only [Bool.and_eq_true, decide_eq_true_eq] at hz
      exact op_mul_rep pins s σ H x y v u Q I rx ry ⟨_, _, ha.str, hb.int, hz.1.1, hz.1.2, hz.2, h ρ H _ (Ext.refl _ _) rs (.d (.str _))⟩
    · exact h.elim
  · rename_i k _ _
    cases q : tupItems a with
    | none => rw [q] at h; exact h.elim
    | some xs =>
      rw [q] at h
      dsimp only at h
      split at h
      · rename_i hz
        simp only [Bool.and_eq_true, Bool.not_eq_true', decide_eq_true_eq] at hz
        obtain ⟨p, vs, rfl, f1, v1⟩ := tupItems_ok ha q
        refine op_repT pins s σ H _ _ v u Q I rx ry ⟨p, k, vs, rfl, hb.int, f1.sq, fun e => ?_, hz.1.1.2, hz.1.2, by rw [← v1.length]; exact hz.2, fun t nt => ?_⟩
        · subst e
          have e : xs = [] := List.eq_nil_of_length_eq_zero v1.length
          subst e
          have := hz.1.1.1
          cases this
        · exact h ρ _ _ (rs.ext nt) (rs.new nt) (new_tup rs (v1.rep k.toNat) nt)
      · exact h.elim
  · exact h.elim
def vDiv : V2 := vInt fun i j => if decide (0 < j) && decide (j.natAbs.log2 < 9000) then some (i / j) else none
theorem op_div_ok : OpR X (binaryOp .FloorDiv) (rV2 X vDiv) := by
  intro pins s σ H x y v u Q I rx ry h
  obtain ⟨ρ, st, a, b, rs, ha, hb, h⟩ := h
  obtain ⟨i, j, k, rfl, rfl, e, q⟩ := vInt_ok rs ha hb h
  split at e
  · rename_i hz
    simp only [Bool.and_eq_true, decide_eq_true_eq] at hz
    cases Option.some.inj e
    exact op_fdivW pins s σ H _ _ v u Q I rx ry ⟨i, j, rfl, rfl, hz, q⟩
  · cases e
def vMod : V2 := vInt fun i j => if 0 < j then some (i % j) else none
theorem op_mod_ok : OpR X (binaryOp .Mod) (rV2 X vMod) := by
  intro pins s σ H x y v u Q I rx ry h
  obtain ⟨ρ, st, a, b, rs, ha, hb, h⟩ := h
  obtain ⟨i, j, k, rfl, rfl, e, q⟩ := vInt_ok rs ha hb h
  split at e
  · rename_i hz
    cases Option.some.inj e
    exact op_mod pins s σ H _ _ v u Q I rx ry ⟨i, j, rfl, rfl, hz, q⟩
  · cases e
def powOk (i j : Int) : Bool := decide (0 ≤ j) && decide (j ≤ 1000000) && decide (i.natAbs < 2 ^ 64)
def vPow : V2 := vInt fun i j => if powOk i j then some (i ^ j.toNat) else none
theorem powOk_ok {i j : Int} (h : powOk i j = true) : CPow i j := by
  unfold powOk at h
  simp only [Bool.and_eq_true, decide_eq_true_eq] at h
  exact ⟨h.1.1, h.1.2, h.2⟩
theorem op_pow_ok : OpR X (binaryOp .Pow) (rV2 X vPow) := by
  intro pins s σ H x y v u Q I rx ry h
  obtain ⟨ρ, st, a, b, rs, ha, hb, h⟩ := h
  obtain ⟨i, j, k, rfl, rfl, e, q⟩ := vInt_ok rs ha hb h
  split at e
  · rename_i hz
    cases Option.some.inj e
    exact op_pow pins s σ H _ _ v u Q I rx ry ⟨i, j, rfl, rfl, powOk_ok hz, q⟩
  · cases e
def vShl : V2 := vInt fun i j => if powOk i j then some (i * 2 ^ j.toNat) else none
theorem op_shl_ok : OpR X (binaryOp .LShift) (rV2 X vShl) := by
  intro pins s σ H x y v u Q I rx ry h
  obtain ⟨ρ, st, a, b, rs, ha, hb, h⟩ := h
  obtain ⟨i, j, k, rfl, rfl, e, q⟩ := vInt_ok rs ha hb h
  split at e
  · rename_i hz
    cases Option.some.inj e
    exact op_shl pins s σ H _ _ v u Q I rx ry ⟨i, j, rfl, rfl, powOk_ok hz, q⟩
  · cases e
def vShr : V2 := vInt fun i j => if 0 ≤ j then some (i / 2 ^ j.toNat) else none
theorem op_shr_ok : OpR X (binaryOp .RShift) (rV2 X vShr) := by
  intro pins s σ H x y v u Q I rx ry h
  obtain ⟨ρ, st, a, b, rs, ha, hb, h⟩ := h
  obtain ⟨i, j, k, rfl, rfl, e, q⟩ := vInt_ok rs ha hb h
  split at e
  · rename_i hz
    cases Option.some.inj e
    exact op_shr pins s σ H _ _ v u Q I rx ry ⟨i, j, rfl, rfl, hz, q⟩
  · cases e
def vNeg : V1 := fun v st => match v with
  | .d (.int i) => some (.d (.int (-i)), st)
  | _ => none
theorem un_neg_ok : UnR X (unaryOp .USub) (rV1 X vNeg) := by
  intro pins s σ H x v Q I rx h
  obtain ⟨ρ, st, a, rs, ha, h⟩ := h
  unfold vNeg at h
  split at h
  · rename_i i
    exact un_neg pins s σ H x v Q I rx ⟨i, ha.int, h ρ H _ (Ext.refl _ _) rs (.d (.int _))⟩
  · exact h.elim

/-! ### is -/
def isNonV : PV → Bool
  | .d .none => true
  | _ => false
/-- v is None | True | False -/
def vIs (neg : Bool) : V2 := fun v w st => match w with
  | .d .none => vB2 (xor neg (isNonV v)) st
  | .d (.bool b) => match v with
    | .d (.bool c) => vB2 (xor neg (decide (c = b))) st
    | _ => none
  | _ => none
theorem isNon {ρ : Cs} {H : Hp} {v : PV} {x : V} (h : VR X.K ρ H X.mg v x) : decide (x = .non) = isNonV v := by
  cases h with
  | d h => cases h <;> rfl
  | cell h => rfl
  | tup h q => rfl
  | fn h => rfl
theorem op_is_ok : OpR X (compareOp .Is) (rV2 X (vIs false)) := by
  intro pins s σ H x y v u Q I rx ry h
  obtain ⟨ρ, st, a, b, rs, ha, hb, h⟩ := h
  unfold vIs at h
  split at h
  · cases hb with
    | d hb =>
      cases hb
      rw [← isNon ha] at h
      exact op_isN pins s σ H x _ v u Q I rx ry ⟨rfl, by simpa using okB rs h⟩
  · rename_i c
    split at h
    · rename_i e
      cases ha with
      | d ha =>
        cases ha
        cases hb with
        | d hb =>
          cases hb
          have := okB rs h
          exact op_isBl pins s σ H _ _ v u Q I rx ry ⟨e, c, rfl, rfl, by simpa using this⟩
    · exact h.elim
  · exact h.elim
theorem op_isnot_ok : OpR X (compareOp .IsNot) (rV2 X (vIs true)) := by
  intro pins s σ H x y v u Q I rx ry h
  obtain ⟨ρ, st, a, b, rs, ha, hb, h⟩ := h
  unfold vIs at h
  split at h
  · cases hb with
    | d hb =>
      cases hb
      rw [← isNon ha] at h
      exact op_notN pins s σ H x _ v u Q I rx ry ⟨rfl, by simpa using okB rs h⟩
  · rename_i c
    split at h
    · rename_i e
      cases ha with
      | d ha =>
        cases ha
        cases hb with
        | d hb =>
          cases hb
          have := okB rs h
          exact op_notBl pins s σ H _ _ v u Q I rx ry ⟨e, c, rfl, rfl, by simpa using this⟩
    · exact h.elim
  · exact h.elim
end
end Sr
/-! Order, membership; built-in functions. -/
namespace Sr
open PySem L2

def vCmpI (f : Int → Int → Bool) : V2 := fun v w st => match v, w with
  | .d (.int i), .d (.int j) => vB2 (f i j) st
  | _, _ => none
def isNoneD : PyData → Bool
  | .none => true
  | _ => false
def vLt : V2 := fun v w st => match v, w with
  | .d (.int i), .d (.int j) => vB2 (decide (i < j)) st
  | v, w => match cmpD v w st with
    | some (d, e) => if PySem.W.alike d e && !isNoneD d then vB2 (PySem.W.dataLt d e) st else none
    | none => none
section
variable {X : Cx}
theorem vCmpI_ok {ρ : Cs} {H : Hp} {st : Store} {f : Int → Int → Bool} {v w : PV} {x y : V} {Q : VK} (rs : RS X.K ρ H X.mg st) (hv : VR X.K ρ H X.mg v x) (hw : VR X.K ρ H X.mg w y) (h : okV X ρ H (vCmpI f v w st) Q) :
    ∃ i j, x = .int i ∧ y = .int j ∧ Q (.bl (f i j)) H := by
  unfold vCmpI at h
  split at h
  · exact ⟨_, _, hv.int, hw.int, okB rs h⟩
  · exact h.elim
theorem op_le_ok : OpR X (compareOp .LtE) (rV2 X (vCmpI fun i j => decide (i ≤ j))) := by
  intro pins s σ H x y v u Q I rx ry h
  obtain ⟨ρ, st, a, b, rs, ha, hb, h⟩ := h
  obtain ⟨i, j, rfl, rfl, q⟩ := vCmpI_ok rs ha hb h
  exact op_le pins s σ H _ _ v u Q I rx ry ⟨i, j, rfl, rfl, q⟩
theorem op_gt_ok : OpR X (compareOp .Gt) (rV2 X (vCmpI fun i j => decide (j < i))) := by
  intro pins s σ H x y v u Q I rx ry h
  obtain ⟨ρ, st, a, b, rs, ha, hb, h⟩ := h
  obtain ⟨i, j, rfl, rfl, q⟩ := vCmpI_ok rs ha hb h
  exact op_gt pins s σ H _ _ v u Q I rx ry ⟨i, j, rfl, rfl, q⟩
theorem op_ge_ok : OpR X (compareOp .GtE) (rV2 X (vCmpI fun i j => decide (j ≤ i))) := by
  intro pins s σ H x y v u Q I rx ry h
  obtain ⟨ρ, st, a, b, rs, ha, hb, h⟩ := h
  obtain ⟨i, j, rfl, rfl, q⟩ := vCmpI_ok rs ha hb h
  exact op_ge pins s σ H _ _ v u Q I rx ry ⟨i, j, rfl, rfl, q⟩
theorem op_lt_ok (hu : X.A.units + 150 < cLine) : OpR X (compareOp .Lt) (rV2 X vLt) := by
  intro pins s σ H x y v u Q I rx ry h
  obtain ⟨ρ, st, a, b, rs, ha, hb, h⟩ := h
  unfold vLt at h
  split at h
  · exact op_lt pins s σ H _ _ v u Q I rx ry ⟨_, _, ha.int, hb.int, okB rs h⟩
  · cases q : cmpD a b st with
    | none => rw [q] at h; exact h.elim
    | some p =>
      obtain ⟨d, e⟩ := p
      rw [q] at h
      dsimp only at h
      split at h
      · rename_i hc
        rw [Bool.and_eq_true, Bool.not_eq_true'] at hc
        obtain ⟨h1, h2, h3, h4, h5⟩ := cmpD_ok q
        obtain ⟨as, r1⟩ := Dp.reads I d x v (frz_dp rs ha h1 h3) rx
        obtain ⟨bs, r2⟩ := Dp.reads I e y u (frz_dp rs hb h2 h4) ry
        exact PySem.W.rcLt_alike d e X.A s v u as bs r1 r2 hc.1 (fun z => by subst z; cases hc.2) (by omega) X.prog X.w X.xe _ ⟨.bl _, H, I, rfl, okB rs h⟩
      · exact h.elim
/-- v in w -/
def strIn (i j : Str) : Bool := !(Builtin.Str.occurrences j i 0 j.length 1).isEmpty
def inSeq (w : PyData) : Option (Bool × List PyData) := match w with
  | .list xs => some (true, xs)
  | .tuple xs => some (false, xs)
  | _ => none
def vIn (neg : Bool) : V2 := fun v w st => match v, w with
  | .d (.str i), .d (.str j) => vB2 (xor neg (strIn i j)) st
  | v, w => match dictVal w v st with
    | some o => vB2 (xor neg o.isSome) st
    | none => match frz 6 st v, frz 6 st w with
      | some d, some e => match inSeq e with
        | some (_, xs) => if d.plain && PyData.plainAll xs && decide (min (PyData.depthAll xs) d.depth ≤ 100) then vB2 (xor neg (xs.any fun y => PyData.eqv y d)) st else none
        | none => none
      | _, _ => none
theorem OptVR.isSome {K : PySem.W.Frag} {ρ : Cs} {H : Hp} {mg : Str → Option Value} {o : Option PV} {z : Option V} (h : OptVR K ρ H mg o z) : o.isSome = z.isSome := by
  cases o with
  | none => rw [show z = none from h]; rfl
  | some v =>
    obtain ⟨w, e, _⟩ := h
    rw [e]; rfl
theorem op_in_gen (neg : Bool) (hu : X.A.units + 150 < cLine) {pins : List (Addr × Obj)} {s : Shared} {σ : L2.St} {H : Hp} {x y : V} {v u : Value} {Q : VK} (I : Inv X pins σ H s) (rx : RelV x v) (ry : RelV y u) (h : rV2 X (vIn neg) x y H Q) :
    (∃ i j, x = .str i ∧ y = .str j ∧ Q (.bl (xor neg (strIn i j))) H) ∨ (∃ a o, y = .ref a ∧ DGet H a x o ∧ Q (.bl (xor neg o.isSome)) H) ∨
    ∃ l d xs as bs, (Reads s.heap u (.list xs) as ∧ l = true ∨ Reads s.heap u (.tuple xs) as ∧ l = false) ∧ Reads s.heap v d bs ∧ PyData.plainAll xs = true ∧ d.plain = true ∧ X.A.units + 1 + min (PyData.depthAll xs) d.depth < cLine ∧ Q (.bl (xor neg (xs.any fun y => PyData.eqv y d))) H := by
  obtain ⟨ρ, st, a, b, rs, ha, hb, h⟩ := h
  unfold vIn at h
  split at h
  · exact .inl ⟨_, _, ha.str, hb.str, okB rs h⟩
  · cases q : dictVal b a st with
    | some o =>
      rw [q] at h
      obtain ⟨p, z, e, g, hz⟩ := dictVal_ok rs hb ha q
      exact .inr (.inl ⟨p, z, e, g, by rw [← hz.isSome]; exact okB rs h⟩)
    | none =>
      rw [q] at h
      dsimp only at h
      split at h
      · rename_i d e h1 h2
        cases z : inSeq e with
        | none => rw [z] at h; exact h.elim
        | some p =>
          obtain ⟨l, xs⟩ := p
          rw [z] at h
          dsimp only at h
          split at h
          · rename_i hc
            simp only [Bool.and_eq_true, decide_eq_true_eq] at hc
            obtain ⟨bs, r1⟩ := Dp.reads I d x v (frz_dp rs ha h1 hc.1.1) rx
            have pe : e.plain = true := by
              unfold inSeq at z
              split at z
              · cases z; simpa [PyData.plain] using hc.1.2
              · cases z; simpa [PyData.plain] using hc.1.2
              · cases z
            obtain ⟨as, r2⟩ := Dp.reads I e y u (frz_dp rs hb h2 pe) ry
            refine .inr (.inr ⟨l, d, xs, as, bs, ?_, r1, hc.1.2, hc.1.1, by omega, okB rs h⟩)
            unfold inSeq at z
            split at z
            · cases z; exact .inl ⟨r2, rfl⟩
            · cases z; exact .inr ⟨r2, rfl⟩
            · cases z
          · exact h.elim
      · exact h.elim
theorem op_in_ok (hu : X.A.units + 150 < cLine) : OpR X (compareOp .In) (rV2 X (vIn false)) := by
  intro pins s σ H x y v u Q I rx ry h
  rcases op_in_gen false hu I rx ry h with ⟨i, j, e1, e2, q⟩ | ⟨a, o, rfl, g, q⟩ | ⟨l, d, xs, as, bs, r2, r1, p1, p2, hu2, q⟩
  · exact op_in_str pins s σ H x y v u Q I rx ry ⟨i, j, e1, e2, by simpa [strIn] using q⟩
  · obtain rfl : u = Value.ref a := ry
    exact d_in (by omega) I g rx fun s2 I2 => ⟨.bl o.isSome, H, I2, rfl, by simpa using q⟩
  · have fin : EP X pins σ Q (.bool (xs.any fun y => PyData.eqv y d)) s := ⟨.bl _, H, I, rfl, by simpa using q⟩
    rcases r2 with ⟨r2, _⟩ | ⟨r2, _⟩
    · exact SeqAt.in_list_data r2 r1 p1 p2 hu2 fin
    · exact SeqAt.in_tuple_data r2 r1 p1 p2 hu2 fin
theorem op_notin_ok (hu : X.A.units + 150 < cLine) : OpR X (compareOp .NotIn) (rV2 X (vIn true)) := by
  intro pins s σ H x y v u Q I rx ry h
  rcases op_in_gen true hu I rx ry h with ⟨i, j, e1, e2, q⟩ | ⟨a, o, rfl, g, q⟩ | ⟨l, d, xs, as, bs, r2, r1, p1, p2, hu2, q⟩
  · exact L2.op_notin_str pins s σ H x y v u Q I rx ry ⟨i, j, e1, e2, by simpa [strIn] using q⟩
  · obtain rfl : u = Value.ref a := ry
    exact d_notIn (by omega) I g rx fun s2 I2 => ⟨.bl (!o.isSome), H, I2, rfl, by simpa using q⟩
  · have fin : EP X pins σ Q (.bool (!xs.any fun y => PyData.eqv y d)) s := ⟨.bl _, H, I, rfl, by simpa using q⟩
    rcases r2 with ⟨r2, _⟩ | ⟨r2, _⟩
    · exact SeqAt.notIn_list_data r2 r1 p1 p2 hu2 fin
    · exact SeqAt.notIn_tuple_data r2 r1 p1 p2 hu2 fin
end

/-! ### built-in functions -/
def vLen : VB := fun vs st => match vs with
  | [.d (.str z)] => if sizeOk z.length then some (.d (.int z.length), st) else none
  | [.d (.dict kvs)] => if tupH kvs then none else some (.d (.int kvs.length), st)
  | [v] => match seqItems v st with
    | some xs => some (.d (.int xs.length), st)
    | none => match v with
      | .cell n => match st[n]? with
        | some (.dic kvs) => some (.d (.int kvs.length), st)
        | _ => none
      | _ => none
  | _ => none
def vAbs : VB := fun vs st => match vs with
  | [.d (.int i)] => some (.d (.int (if i < 0 then -i else i)), st)
  | _ => none
def vIntOfP : VB := fun vs st => match vs with
  | [.d (.int i)] => some (.d (.int i), st)
  | [.d (.bool b)] => some (.d (.int (if b then 1 else 0)), st)
  | _ => none
def vTupOf : VB := fun vs st => match vs with
  | [v] => match tupItems v with
    | some _ => some (v, st)
    | none => if isList v st then (seqItems v st).map fun xs => (mkTup xs, st) else none
  | _ => none
/-- list(x): a new list of data -/
def vListOf (m : Bool) : VB := fun vs st => match vs with
  | [v] => match seqItems v st with
    | some xs => newL m xs st
    | none => none
  | _ => none
section
variable {X : Cx}
theorem VRs.one' {ρ : Cs} {H : Hp} {v : PV} {xs : List V} (h : VRs X.K ρ H X.mg [v] xs) : ∃ x, xs = [x] ∧ VR X.K ρ H X.mg v x := h.one
theorem call_len_dict : CallR X (.builtin "len") (fun xs H Q => ∃ a kvs, xs = [.ref a] ∧ H a = some (.dK kvs) ∧ Q (.int kvs.length) H) := by
  intro pins s σ H xs us Q I r h
  obtain ⟨a, kvs, rfl, hH, q⟩ := h
  obtain ⟨u, rfl, rx⟩ := vals1 r
  cases rx
  exact d_len I (.inl hH) fun t s2 I2 => ⟨.int _, H, I2, ⟨t, rfl⟩, q⟩
theorem call_len_ok : CallR X (.builtin "len") (rVB X vLen) := by
  intro pins s σ H xs us Q I r h
  obtain ⟨ρ, st, vs, rs, hv, h⟩ := h
  unfold vLen at h
  split at h
  · obtain ⟨x, rfl, hx⟩ := hv.one
    rw [hx.str] at r
    split at h
    · rename_i hz
      exact call_len_str pins s σ H _ us Q I r ⟨_, rfl, sizeOk_le hz, h ρ H _ (Ext.refl _ _) rs (.d (.int _))⟩
    · exact h.elim
  · rename_i kvs
    obtain ⟨x, rfl, hx⟩ := hv.one
    cases hx with
    | d hx =>
      cases hx with
      | @dit a ws ds h1 h0 h2 h3 =>
        rw [tupH_dit h0 h3, if_pos rfl] at h
        exact h.elim
      | @dic a ws ds h1 h2 h3 =>
        rw [tupH_dic, if_neg (by decide)] at h
        have hl := h3.length
        have e : ((ws.map fun p => keyD p.1).zip ds).length = ws.length := by simp at hl ⊢; omega
        rw [e] at h
        exact call_len_dict pins s σ H _ us Q I r ⟨_, _, rfl, h1, h ρ H _ (Ext.refl _ _) rs (.d (.int _))⟩
  · rename_i v _ _
    obtain ⟨x, rfl, hx⟩ := hv.one
    cases q : seqItems v st with
    | some ys =>
      rw [q] at h
      obtain ⟨a, ws, rfl, sq, hw⟩ := seqItems_ok rs hx q
      have := h ρ H _ (Ext.refl _ _) rs (.d (.int _))
      rw [hw.length] at this
      exact call_len_seq pins s σ H _ us Q I r ⟨a, ws, rfl, sq, this⟩
    | none =>
      rw [q] at h
      dsimp only at h
      cases v with
      | cell n =>
        dsimp only at h
        cases z : st[n]? with
        | none => rw [z] at h; exact h.elim
        | some o =>
          rw [z] at h
          cases o with
          | dic kvs =>
            cases hx with
            | cell hc =>
              obtain ⟨b, b1, b2⟩ := rs.at_ n _ z
              rw [hc] at b1
              cases b1
              obtain ⟨ws, w1, w2⟩ := b2
              have := h ρ H _ (Ext.refl _ _) rs (.d (.int _))
              rw [w2.length] at this
              exact call_len_dict pins s σ H _ us Q I r ⟨_, ws, rfl, w1, this⟩
          | _ => exact h.elim
      | _ => exact h.elim
  · exact h.elim
theorem call_abs_ok : CallR X (.builtin "abs") (rVB X vAbs) := by
  intro pins s σ H xs us Q I r h
  obtain ⟨ρ, st, vs, rs, hv, h⟩ := h
  unfold vAbs at h
  split at h
  · obtain ⟨x, rfl, hx⟩ := hv.one
    rw [hx.int] at r
    exact call_abs pins s σ H _ us Q I r ⟨_, rfl, h ρ H _ (Ext.refl _ _) rs (.d (.int _))⟩
  · exact h.elim
theorem call_intP_ok : CallR X (.type "int") (rVB X vIntOfP) := by
  intro pins s σ H xs us Q I r h
  obtain ⟨ρ, st, vs, rs, hv, h⟩ := h
  unfold vIntOfP at h
  split at h
  · obtain ⟨x, rfl, hx⟩ := hv.one
    rw [hx.int] at r
    exact call_int1 pins s σ H _ us Q I r (.inl ⟨_, rfl, h ρ H _ (Ext.refl _ _) rs (.d (.int _))⟩)
  · obtain ⟨x, rfl, hx⟩ := hv.one
    cases hx with
    | d hx =>
      cases hx
      exact call_int1 pins s σ H _ us Q I r (.inr ⟨_, rfl, h ρ H _ (Ext.refl _ _) rs (.d (.int _))⟩)
  · exact h.elim
theorem call_tup_ok : CallR X (.type "tuple") (rVB X vTupOf) := by
  intro pins s σ H xs us Q I r h
  obtain ⟨ρ, st, vs, rs, hv, h⟩ := h
  unfold vTupOf at h
  split at h
  · rename_i v
    obtain ⟨x, rfl, hx⟩ := hv.one
    cases q : tupItems v with
    | some ys =>
      rw [q] at h
      obtain ⟨a, ws, rfl, f, _⟩ := tupItems_ok hx q
      exact call_tuple_of pins s σ H _ us Q I r ⟨a, ws, rfl, .inr ⟨f.sq, h ρ H _ (Ext.refl _ _) rs hx⟩⟩
    | none =>
      rw [q] at h
      dsimp only at h
      split at h
      · rename_i hl
        obtain ⟨a, ws, ys, rfl, g1, g2, g3⟩ := isList_ok rs hx hl
        rw [g2] at h
        exact call_tuple_of pins s σ H _ us Q I r ⟨a, ws, rfl, .inl ⟨.inl g1, fun p n => h ρ _ _ (rs.ext n) (rs.new n) (new_tup rs g3 n)⟩⟩
      · exact h.elim
  · exact h.elim
theorem call_list_ok {m : Bool} : CallR X (.type "list") (rVB X (vListOf m)) := by
  intro pins s σ H xs us Q I r h
  obtain ⟨ρ, st, vs, rs, hv, h⟩ := h
  unfold vListOf at h
  split at h
  · rename_i v
    obtain ⟨x, rfl, hx⟩ := hv.one
    cases q : seqItems v st with
    | none => rw [q] at h; exact h.elim
    | some ys =>
      rw [q] at h
      obtain ⟨a, ws, rfl, sq, hw⟩ := seqItems_ok rs hx q
      exact call_list_of pins s σ H _ us Q I r ⟨a, ws, rfl, sq, newL_ok rs hw h⟩
  · exact h.elim

/-! repr -/
/-- a kind that shows itself by its own method -/
def vReprP : VB := fun vs st => match vs with
  | [v] => match frz 6 st v with
    | some d => if d.showable && d.plain && decide (d.depth ≤ 100) && sizeOk d.shown.length then some (.d (.str d.shown), st) else none
    | none => none
  | _ => none
mutual
theorem plain_noDict : ∀ d : PyData, d.plain = true → d.hasDict = false
  | .none, _ => rfl
  | .bool _, _ => rfl
  | .int _, _ => rfl
  | .str _, _ => rfl
  | .list xs, h => by rw [PyData.hasDict]; exact plain_noDictAll xs (by simpa [PyData.plain] using h)
  | .tuple xs, h => by rw [PyData.hasDict]; exact plain_noDictAll xs (by simpa [PyData.plain] using h)
  | .dict _, h => by simp [PyData.plain] at h
theorem plain_noDictAll : ∀ ds : List PyData, PyData.plainAll ds = true → PyData.hasDictAll ds = false
  | [], _ => rfl
  | x :: xs, h => by
    rw [PyData.plainAll, Bool.and_eq_true] at h
    rw [PyData.hasDictAll, plain_noDict x h.1, plain_noDictAll xs h.2]; rfl
end
theorem call_reprP_ok (hu : X.A.units + 150 < cLine) (hg : X.A.guards = some []) : CallR X (.builtin "repr") (rVB X vReprP) := by
  intro pins s σ H xs us Q I r h
  obtain ⟨ρ, st, vs, rs, hv, h⟩ := h
  unfold vReprP at h
  split at h
  · rename_i v
    obtain ⟨x, rfl, hx⟩ := hv.one
    cases q : frz 6 st v with
    | none => rw [q] at h; exact h.elim
    | some d =>
      rw [q] at h
      dsimp only at h
      split at h
      · rename_i hc
        simp only [Bool.and_eq_true, decide_eq_true_eq] at hc
        obtain ⟨⟨⟨c1, c2⟩, c3⟩, c4⟩ := hc
        have hz := sizeOk_le c4
        have fin := h ρ H _ (Ext.refl _ _) rs (.d (.str _))
        obtain ⟨u, rfl, ru⟩ := vals1 r
        have dp := frz_dp rs hx q c2
        obtain ⟨as, rd⟩ := Dp.reads I d x u dp ru
        cases rd with
        | none => exact P.repr_of_none ⟨.str _, H, I.tok _, ⟨_, rfl⟩, by simpa only [PyData.shown] using fin⟩
        | bool b => exact P.repr_of_bool ⟨.str _, H, I.tok _, ⟨_, rfl⟩, by simpa only [PyData.shown] using fin⟩
        | int i t =>
          have hi : i.natAbs.log2 < 1920 := by simpa [PyData.showable] using c1
          exact PySem.P.repr_of_int hi ⟨.str _, H, I.tok _, ⟨_, rfl⟩, by simpa only [PyData.shown] using fin⟩
        | str z t =>
          exact P.repr_of_str (hsz := by simpa only [PyData.shown] using hz) ⟨.str _, H, I.tok _, ⟨_, rfl⟩, by simpa only [PyData.shown] using fin⟩
        | @list a o ws n ds bs h1 h2 h3 h4 =>
          exact repr_of_reads' (Reads.list h1 h2 h3 h4) c1 (PyData.noDict_hsm (plain_noDict _ c2)) hg (by omega) (fun _ _ e => e) (fun h' t tk hk => ⟨.str _, H, I.kept (t' := tk) hk, ⟨t, rfl⟩, fin⟩) hz
        | @tuple a o ws n ds bs h1 h2 h3 h4 =>
          exact repr_of_reads' (Reads.tuple h1 h2 h3 h4) c1 (PyData.noDict_hsm (plain_noDict _ c2)) hg (by omega) (fun _ _ e => e) (fun h' t tk hk => ⟨.str _, H, I.kept (t' := tk) hk, ⟨t, rfl⟩, fin⟩) hz
        | dict h1 h2 h3 h4 h5 => simp [PyData.plain] at c2
      · exact h.elim
  · exact h.elim
end
end Sr
/-! Cuts, stores into lists and dicts, dict displays, stores side by side. -/
namespace Sr
open PySem L2

/-! ### cuts -/
abbrev DO := Fr → Store → Res (Option Int)
def dNoPart : DO := fun _ st => .ok none st
def dPart (d : Den) : DO := fun fr st => (d fr st).bind fun v st1 => match v with
  | .d (.int i) => .ok (some i) st1
  | _ => .bad
def tOO (X : Cx) (E : WX) (d : DO) : TO := fun σ H Q => ∃ ρ fr st, At X σ H ρ fr st ∧ (d fr st).wp (fun o st' => ∀ ρ' H', Ext ρ H ρ' H' → RS X.K ρ' H' X.mg st' → Q o H') (okX X E σ ρ H)
def cutL {α : Type} (xs : List α) (lo hi : Option Int) : List α := (xs.drop (HT.sIx xs.length 0 lo)).take (HT.sIx xs.length xs.length hi - HT.sIx xs.length 0 lo)
abbrev VS := PV → Option Int → Option Int → Store → Option (PV × Store)
def vSl (m : Bool) : VS := fun v lo hi st => match v with
  | .d (.str z) => if sizeOk z.length then some (.d (.str (cutS z lo hi)), st) else none
  | v => match tupItems v with
    | some xs => some (mkTup (cutL xs lo hi), st)
    | none => if isList v st then match seqItems v st with
      | some xs => newL m (cutL xs lo hi) st
      | none => none
      else none
def dSl (f : VS) (d : Den) (l u : DO) : Den := fun fr st => (d fr st).bind fun v st1 => (l fr st1).bind fun lo st2 => (u fr st2).bind fun hi st3 => lift (f v lo hi st3)
section
variable {X : Cx} {E : WX} {σ : L2.St} {H : Hp} {ρ : Cs} {fr : Fr} {st : Store} {e : Expr} {d : Den} {pos : Pos}
theorem sp_none : L2.PO X none (tOO X E dNoPart) := ⟨fun pins s σ H Q I h => po_none.run pins s σ H Q I (by
  obtain ⟨ρ, fr, st, A, h⟩ := h
  exact h ρ H (Ext.refl _ _) A.rs)⟩
theorem sp_some (he : PE X e (tE X E d)) : L2.PO X (some e) (tOO X E (dPart d)) := ⟨fun pins s σ H Q I h => (po_some he).run pins s σ H Q I (by
  obtain ⟨ρ, fr, st, A, h⟩ := h
  refine tE.step A h fun v st1 ρ1 H1 x e1 A1 v1 h1 => ?_
  split at h1
  · exact ⟨_, v1.int, h1 ρ1 H1 e1 A1.rs⟩
  · exact h1.elim)⟩
theorem tOO.step {d : DO} {α : Type} {f : Option Int → Store → Res α} {Q : α → Store → Prop} {R : Option Int → Hp → Prop} (A : At X σ H ρ fr st) (h : ((d fr st).bind f).wp Q (okX X E σ ρ H))
    (k : ∀ o st1 ρ1 H1, Ext ρ H ρ1 H1 → At X σ H1 ρ1 fr st1 → (f o st1).wp Q (okX X E σ ρ1 H1) → R o H1) : tOO X E d σ H R :=
  ⟨ρ, fr, st, A, Res.wp_mono (Res.wp_bind h) (fun o st1 h1 ρ1 H1 e1 r1 => k o st1 ρ1 H1 e1 (A.step e1 r1) (Res.wp_mono h1 (fun _ _ q => q) fun _ _ q => q.mono e1)) fun _ _ h => h⟩
theorem VRs.drop {K : PySem.W.Frag} {ρ : Cs} {H : Hp} {mg : Str → Option Value} : ∀ {xs : List PV} {vs : List V} (n : Nat), VRs K ρ H mg xs vs → VRs K ρ H mg (xs.drop n) (vs.drop n)
  | _, _, 0, h => h
  | _, _, n + 1, .nil => .nil
  | _, _, n + 1, .cons _ q => VRs.drop n q
theorem VRs.take {K : PySem.W.Frag} {ρ : Cs} {H : Hp} {mg : Str → Option Value} : ∀ {xs : List PV} {vs : List V} (n : Nat), VRs K ρ H mg xs vs → VRs K ρ H mg (xs.take n) (vs.take n)
  | _, _, 0, _ => .nil
  | _, _, n + 1, .nil => .nil
  | _, _, n + 1, .cons p q => .cons p (VRs.take n q)
theorem VRs.cut {K : PySem.W.Frag} {mg : Str → Option Value} {xs : List PV} {vs : List V} {lo hi : Option Int} (h : VRs K ρ H mg xs vs) : VRs K ρ H mg (cutL xs lo hi) (cutV vs lo hi) := by
  unfold cutL cutV
  rw [h.length]
  exact (h.drop _).take _
theorem cut_whole {xs : List PV} {lo hi : Option Int} (h : HT.sIx xs.length 0 lo = 0 ∧ HT.sIx xs.length xs.length hi = xs.length) : cutL xs lo hi = xs := by
  unfold cutL
  rw [h.1, h.2, List.drop_zero, Nat.sub_zero, List.take_length]
theorem sl_ok {m : Bool} : SlR X (fun x lo hi H Q => ∃ ρ st v, RS X.K ρ H X.mg st ∧ VR X.K ρ H X.mg v x ∧ okV X ρ H (vSl m v lo hi st) Q) := by
  intro pins s σ H x v vl vu lo hi sl Q I rx hs pl pu h
  obtain ⟨ρ, st, a, rs, ha, h⟩ := h
  unfold vSl at h
  split at h
  · rename_i z
    split at h
    · rename_i hz
      exact sl_str pins s σ H x v vl vu lo hi sl Q I rx hs pl pu ⟨z, ha.str, sizeOk_le hz, h ρ H _ (Ext.refl _ _) rs (.d (.str _))⟩
    · exact h.elim
  · split at h
    · rename_i xs q
      obtain ⟨p, vs, rfl, f, hv⟩ := tupItems_ok ha q
      refine sl_tupA pins s σ H _ v vl vu lo hi sl Q I rx hs pl pu ⟨p, vs, rfl, f.sq, fun w => ?_, fun _ t nt => ?_⟩
      · rw [← hv.length] at w
        rw [cut_whole w] at h
        exact h ρ H _ (Ext.refl _ _) rs (.mkTup f hv)
      · exact h ρ _ _ (rs.ext nt) (rs.new nt) (new_tup rs hv.cut nt)
    · split at h
      · rename_i hl
        obtain ⟨p, vs, xs, rfl, g1, g2, g3⟩ := isList_ok rs ha hl
        rw [g2] at h
        exact sl_list pins s σ H _ v vl vu lo hi sl Q I rx hs pl pu ⟨p, vs, rfl, .inl g1, newL_ok rs g3.cut h⟩
      · exact h.elim
theorem se_slice {m : Bool} {lo hi : Option Expr} {l u : DO} {p2 : Pos} (he : PE X e (tE X E d)) (hl : L2.PO X lo (tOO X E l)) (hu : L2.PO X hi (tOO X E u)) : PE X (.Subscript e (.Slice lo hi none p2) pos) (tE X E (dSl (vSl m) d l u)) := by
  refine ⟨fun pins s σ H Q I h => (pe_slice (sl_ok (m := m)) he hl hu).run pins s σ H Q I ?_⟩
  obtain ⟨ρ, fr, st, A, h⟩ := h
  refine tE.step A h fun v st1 ρ1 H1 x e1 A1 v1 h1 => ?_
  refine tOO.step A1 h1 fun o st2 ρ2 H2 e2 A2 h2 => ?_
  refine tOO.step A2 h2 fun o2 st3 ρ3 H3 e3 A3 h3 => ?_
  exact ⟨ρ3, st3, v, A3.rs, (v1.mono e2).mono e3, okV.of ((e1.trans e2).trans e3) h3⟩
def vRev (m : Bool) : V1 := fun v st => if isList v st then match seqItems v st with
  | some xs => newL m xs.reverse st
  | none => none
  else none
theorem VRs.reverse {K : PySem.W.Frag} {mg : Str → Option Value} {xs : List PV} {vs : List V} (h : VRs K ρ H mg xs vs) : VRs K ρ H mg xs.reverse vs.reverse := by
  induction xs generalizing vs with
  | nil => cases h; exact .nil
  | cons x xs ih =>
    cases h with
    | cons h1 h2 =>
      rw [List.reverse_cons, List.reverse_cons]
      exact (ih h2).snoc h1
theorem se_rev {m : Bool} {k : Nat} {p1 p2 p3 : Pos} (he : PE X e (tE X E d)) : PE X (.Subscript e (.Slice none none (some (.UnaryOp .USub (.Constant (.int 1) k p1) p2)) p3) pos) (tE X E (dUn (vRev m) d)) := by
  refine ⟨fun pins s σ H Q I h => (pe_revL he).run pins s σ H Q I ?_⟩
  obtain ⟨ρ, fr, st, A, h⟩ := h
  refine tE.step A h fun v st1 ρ1 H1 x e1 A1 v1 h1 => ?_
  have h1 := okV.of e1 h1
  unfold vRev at h1
  split at h1
  · rename_i hl
    obtain ⟨p, vs, xs, rfl, g1, g2, g3⟩ := isList_ok A1.rs v1 hl
    rw [g2] at h1
    exact ⟨p, vs, rfl, .inl g1, newL_ok A1.rs g3.reverse h1⟩
  · exact h1.elim

/-! ### o[i] = v -/
def vSetC (o i v : PV) (st : Store) : Option Store := match o with
  | .cell n => match st[n]? with
    | some (.lst xs) => match i with
      | .d (.int k) => (ixN xs.length k).map fun j => st.set n (.lst (xs.set j v))
      | _ => none
    | some (.dic kvs) => match toKey i with
      | some k => if kvs.length < 1000000 then some (st.set n (.dic (putP kvs k v))) else none
      | none => none
    | _ => none
  | _ => none
def gSubC (a b : Den) : DG := fun v fr st => match a fr st with
  | .ok o st1 => match b fr st1 with
    | .ok i st2 => (vSetC o i v st2).map fun st3 => (fr, st3)
    | _ => none
  | _ => none
theorem VRs.set {K : PySem.W.Frag} {mg : Str → Option Value} : ∀ {xs : List PV} {vs : List V} (j : Nat) {v : PV} {x : V}, VRs K ρ H mg xs vs → VR K ρ H mg v x → VRs K ρ H mg (xs.set j v) (vs.set j x)
  | _, _, _, _, _, .nil, _ => .nil
  | _, _, 0, _, _, .cons _ t, h => .cons h t
  | _, _, j + 1, _, _, .cons r t, h => .cons r (VRs.set j t h)
def rSetC (X : Cx) : TSet := fun o i v H Q => ∃ ρ st a b c st', RS X.K ρ H X.mg st ∧ VR X.K ρ H X.mg a o ∧ VR X.K ρ H X.mg b i ∧ VR X.K ρ H X.mg c v ∧ vSetC a b c st = some st' ∧ ∀ H', Ext ρ H ρ H' → RS X.K ρ H' X.mg st' → Q H'
theorem set_ok (hu : X.A.units + 1 < cLine) : PSet X (rSetC X) := by
  intro pins s σ H o i v ov iv u Q I ro ri rv h
  obtain ⟨ρ, st, a, b, c, st', rs, ha, hb, hc, e, h⟩ := h
  unfold vSetC at e
  split at e
  · rename_i n
    cases ha with
    | cell hn =>
      rename_i p
      cases z : st[n]? with
      | none => rw [z] at e; cases e
      | some w =>
        rw [z] at e
        obtain ⟨p', e1, e2⟩ := rs.at_ n w z
        rw [hn] at e1
        cases e1
        cases w with
        | lst xs =>
          dsimp only at e
          split at e
          · rename_i k
            obtain ⟨vs, g1, g2⟩ := e2
            cases q : ixN xs.length k with
            | none => rw [q] at e; cases e
            | some j =>
              rw [q] at e
              have e := Option.some.inj e
              subst e
              exact set_list pins s σ H _ i v _ iv u Q I ro ri rv ⟨p, vs, k, j, rfl, hb.int, g1, by rw [← g2.length]; exact q, h _ (Ext.set hn rs.nd (by rw [g1]; trivial)) (rs.set hn ⟨_, upd_same, (g2.mono (Ext.set hn rs.nd (by rw [g1]; trivial))).set j (hc.mono (Ext.set hn rs.nd (by rw [g1]; trivial)))⟩)⟩
          · cases e
        | dic kvs =>
          dsimp only at e
          cases q : toKey b with
          | none => rw [q] at e; cases e
          | some k =>
            rw [q] at e
            dsimp only at e
            split at e
            · rename_i hz
              have e := Option.some.inj e
              subst e
              obtain ⟨ws, g1, g2⟩ := e2
              have hk := toKey_ok hb q
              subst hk
              exact set_dict hu pins s σ H _ _ v _ iv u Q I ro ri rv ⟨p, _, rfl, .inl ⟨ws, k, g1, rfl, by rw [← g2.length]; exact Nat.lt_of_lt_of_le hz (by decide), rfl⟩, h _ (Ext.set hn rs.nd (by rw [g1]; trivial)) (rs.set hn ⟨_, upd_same, (g2.mono (Ext.set hn rs.nd (by rw [g1]; trivial))).put k (hc.mono (Ext.set hn rs.nd (by rw [g1]; trivial)))⟩)⟩
            · cases e
        | _ => cases e
  · cases e
theorem sg_sub {o i : Expr} {da db : Den} (hu : X.A.units + 1 < cLine) (ho : PE X o (tE X E da)) (hi : PE X i (tE X E db))
    (ha : ∀ v, assign (.Subscript o i pos) X.env v = (do
      let ov ← holding [v] (eval o X.env)
      let iv ← holding [v, ov] (eval i X.env)
      standAt pos
      holding [v, ov, iv] (setItem ov iv v)
      release [v, ov, iv] [])) : PG X (.Subscript o i pos) (tG X (gSubC da db)) := by
  refine ⟨fun pins s σ H v u Q I r h => (pg_sub ho hi (set_ok hu) ha).run pins s σ H v u Q I r ?_⟩
  obtain ⟨ρ, fr, st, c, A, hc, h⟩ := h
  unfold gSubC at h
  cases q1 : da fr st with
  | bad => rw [q1] at h; exact h.elim
  | exc x st1 => rw [q1] at h; exact h.elim
  | ok a st1 =>
    rw [q1] at h
    dsimp only at h
    refine tE.of_ok A q1 fun ρ1 H1 x e1 r1 v1 => ?_
    cases q2 : db fr st1 with
    | bad => rw [q2] at h; exact h.elim
    | exc x st1 => rw [q2] at h; exact h.elim
    | ok b st2 =>
      rw [q2] at h
      dsimp only at h
      refine tE.of_ok (A.step e1 r1) q2 fun ρ2 H2 y e2 r2 v2 => ?_
      cases q3 : vSetC a b c st2 with
      | none => rw [q3] at h; exact h.elim
      | some st3 =>
        rw [q3] at h
        exact ⟨ρ2, st2, a, b, c, st3, r2, v1.mono e2, v2, hc.mono (e1.trans e2), q3, fun H3 e3 r3 => h ρ2 H3 σ ((e1.trans e2).trans e3) ((A.step (e1.trans e2) r2).step e3 r3)⟩
end

/-! ### names side by side -/
def sPar (is : List Nat) (r : Dens) : DS := fun fr st => ofR fr (r fr st) fun vs st1 => match setAll is vs fr with
  | some fr1 => .nx fr1 st1
  | none => .bad
section
variable {X : Cx} {E : WX} {σ : L2.St} {H : Hp} {ρ : Cs} {fr : Fr} {st : Store} {r : Dens} {pos : Pos}
theorem tEs.stepS {f : List PV → Store → RO} {D : Ends} {R : List V → Hp → Prop} (A : At X σ H ρ fr st) (h : okS X E ρ H (ofR fr (r fr st) f) D)
    (k : ∀ v st1 ρ1 H1 x, Ext ρ H ρ1 H1 → At X σ H1 ρ1 fr st1 → VRs X.K ρ1 H1 X.mg v x → okS X E ρ1 H1 (f v st1) D → R x H1) : tEs X E r σ H R :=
  ⟨ρ, fr, st, A, Res.wp_mono (okS_ofR h A.fr) (fun v st1 h1 ρ1 H1 x e1 r1 v1 => k v st1 ρ1 H1 x e1 (A.step e1 r1) v1 (h1.mono e1)) fun _ _ h => h⟩
theorem par_ok {D : Ends} {is : List Nat} {vs : List PV} {ws : List V} (A : At X σ H ρ fr st) (hv : VRs X.K ρ H X.mg vs ws) (h : okS X E ρ H (match setAll is vs fr with
  | some fr1 => RO.nx fr1 st
  | none => .bad) D) : ∃ σ', setAll is vs fr ≠ none ∧ gAll is ws σ H (fun σ2 H2 => H2 = H ∧ σ2 = σ') ∧ D.nx σ' H := by
  have go : ∀ {is : List Nat} {vs : List PV} {ws : List V} {fr fr1 : Fr} {σ : L2.St}, setAll is vs fr = some fr1 → FR X.K ρ H X.mg fr σ → VRs X.K ρ H X.mg vs ws → ∃ σ', FR X.K ρ H X.mg fr1 σ' ∧ gAll is ws σ H (fun σ2 H2 => H2 = H ∧ σ2 = σ') := by
    intro is
    induction is with
    | nil =>
      intro vs ws fr fr1 σ e F hv
      cases vs with
      | nil =>
        cases hv
        cases e
        exact ⟨σ, F, rfl, rfl, rfl⟩
      | cons v vs => cases e
    | cons i is ih =>
      intro vs ws fr fr1 σ e F hv
      cases vs with
      | nil => cases e
      | cons v vs =>
        cases hv with
        | cons h1 h2 =>
          obtain ⟨σ', F', g⟩ := ih (show setAll is vs (fr.set i (some v)) = some fr1 from e) (F.set i h1) h2
          exact ⟨σ', F', _, _, rfl, g⟩
  cases q : setAll is vs fr with
  | none => rw [q] at h; exact h.elim
  | some fr1 =>
    rw [q] at h
    obtain ⟨σ', F', g⟩ := go q A.fr hv
    exact ⟨σ', by simp, g, h ρ H σ' (Ext.refl _ _) ⟨F', A.rs⟩⟩
theorem ss_par {i j : Nat} {x y : Str} {a b : Expr} {px py pt : Pos} {kt k2 pt2} (hc : X.calm = true) (hN : X.N.Nodup) (hi : X.N[i]? = some x) (hj : X.N[j]? = some y) (hij : i ≠ j)
    (hx : X.env.scope.names.lookup x = some .local) (hy : X.env.scope.names.lookup y = some .local) (ha : PA X [a, b] (tEs X E r))
    (hw : swappedStores [.Tuple [.Name x px, .Name y py] kt pt] (.Tuple [a, b] k2 pt2) X.env = pure (some [x, y])) :
    PS X (.Assign [.Tuple [.Name x px, .Name y py] kt pt] (.Tuple [a, b] k2 pt2) pos) (tS X E (sPar [i, j] r)) := by
  refine ⟨fun pins s σ H D I h => (ps_par hc hN hi hj hij hx hy ha hw).run pins s σ H D I ?_⟩
  obtain ⟨ρ, fr, st, A, h⟩ := h
  refine tEs.stepS A h fun vs st1 ρ1 H1 ws e1 A1 v1 h1 => ?_
  obtain ⟨σ', _, g, hd⟩ := par_ok A1 v1 h1
  obtain ⟨v, r1, rfl, w, r2, rfl, rfl, _, rfl⟩ := g
  exact ⟨v, w, rfl, hd⟩
theorem ss_par3 {i j l : Nat} {x y z : Str} {a b c : Expr} {px py pz pt : Pos} {kt k2 pt2} (hc : X.calm = true) (hN : X.N.Nodup) (hi : X.N[i]? = some x) (hj : X.N[j]? = some y) (hl : X.N[l]? = some z) (hij : i ≠ j) (hil : i ≠ l) (hjl : j ≠ l)
    (hx : X.env.scope.names.lookup x = some .local) (hy : X.env.scope.names.lookup y = some .local) (hz : X.env.scope.names.lookup z = some .local) (ha : PA X [a, b, c] (tEs X E r))
    (hw : swappedStores [.Tuple [.Name x px, .Name y py, .Name z pz] kt pt] (.Tuple [a, b, c] k2 pt2) X.env = pure (some [x, y, z])) :
    PS X (.Assign [.Tuple [.Name x px, .Name y py, .Name z pz] kt pt] (.Tuple [a, b, c] k2 pt2) pos) (tS X E (sPar [i, j, l] r)) := by
  refine ⟨fun pins s σ H D I h => (ps_par3 hc hN hi hj hl hij hil hjl hx hy hz ha hw).run pins s σ H D I ?_⟩
  obtain ⟨ρ, fr, st, A, h⟩ := h
  refine tEs.stepS A h fun vs st1 ρ1 H1 ws e1 A1 v1 h1 => ?_
  obtain ⟨σ', _, g, hd⟩ := par_ok A1 v1 h1
  obtain ⟨v, r1, rfl, w, r2, rfl, u, r3, rfl, rfl, _, rfl⟩ := g
  exact ⟨v, w, u, rfl, hd⟩
end

/-! ### name = a comprehension on the same line -/
section
variable {X : Cx} {E : WX} {tg iter elt : Expr} {ifs : List Expr} {scope : Scope} {own : List (Str × Nat)} {d : DI} {t : Tg} {c : DenT} {de : Den} {pos spos : Pos}
theorem ss_setLc {m : Bool} {i : Nat} {y : Str} {py : Pos} (hc : X.calm = true) (hN : X.N.Nodup) (hy : X.N[i]? = some y) (hyl : X.env.scope.names.lookup y = some .local)
    (hsw : swapsWith (.ListComp elt [⟨tg, iter, ifs, 0⟩] scope pos) (some (.Name y py)) spos.line X.env = pure true) (hi : PI X tg iter (tI X E d)) (ok : BlkOk X.N X.env.scope scope own) (hs : ∀ i ∈ t.slots, i ∈ own.map (·.2))
    (hg : ∀ (s : Shared) (H : Hp) (C : Addr) (cl : List (Str × Addr)) (fp : List Addr), PG (X.blk s H scope (compEnvC scope cl C X.env) fp) tg (t.rd X.K))
    (ht : ∀ (s : Shared) (H : Hp) (C : Addr) (cl : List (Str × Addr)) (fp : List Addr), PTs (X.blk s H scope (compEnvC scope cl C X.env) fp) ifs (tT X E0 c))
    (he : ∀ (s : Shared) (H : Hp) (C : Addr) (cl : List (Str × Addr)) (fp : List Addr), PE (X.blk s H scope (compEnvC scope cl C X.env) fp) elt (tE X E0 de)) (hf : ∀ x, foldedSetIterable iter X.env x = pure x) :
    PS X (.Assign [.Name y py] (.ListComp elt [⟨tg, iter, ifs, 0⟩] scope pos) spos) (tS X E (sSet i (dComp m t (own.map (·.2)) d c de))) := by
  refine ⟨fun pins s σ H D I h => (ps_setLc hc hN hy hyl hsw hi ok hg (fun s H C cl fp => pts_hide (ht s H C cl fp)) (fun s H C cl fp => pe_hide (he s H C cl fp)) hf).run pins s σ H D I ?_⟩
  obtain ⟨ρ, fr, st, A, h⟩ := h
  exact lc_of (m := m) hs (tE.stepS A h fun v st1 ρ1 H1 x e1 A1 v1 h1 => h1 ρ1 H1 _ (Ext.refl _ _) ⟨A1.fr.set i v1, A1.rs⟩)
end
end Sr
/-! Dict displays. -/
namespace Sr
open PySem L2

/-! ### {k: v, ..} -/
def dPairs : List (Den × Den) → Fr → Store → Res (List (PV × PV))
  | [], _, st => .ok [] st
  | p :: r, fr, st => (p.1 fr st).bind fun k st1 => (p.2 fr st1).bind fun v st2 => (dPairs r fr st2).bind fun ps st3 => .ok ((k, v) :: ps) st3
def keysOf : List (PV × PV) → Option (List (Key × PV))
  | [] => some []
  | p :: r => match toKey p.1, keysOf r with
    | some k, some ks => some ((k, p.2) :: ks)
    | _, _ => none
def mergeP (kvs more : List (Key × PV)) : List (Key × PV) := more.foldl (fun acc kv => putP acc kv.1 kv.2) kvs
/-- a new dict: a cell, or data that never changes -/
def newD (m : Bool) (kvs : List (Key × PV)) (st : Store) : Option (PV × Store) := if m then some (.cell st.length, st ++ [.dic kvs]) else match datas (kvs.map (·.2)) with
  | some ds => some (.d (.dict ((kvs.map fun p => keyD p.1).zip ds)), st)
  | none => none
def dDict (m : Bool) (ps : List (Den × Den)) : Den := fun fr st => (dPairs ps fr st).bind fun ws st1 => match keysOf ws with
  | some kvs => if kvs.length ≤ 15 then lift (newD m (mergeP [] kvs) st1) else .bad
  | none => .bad
/-- {} -/
def dDict0 (m : Bool) : Den := fun _ st => lift (newD m [] st)
def tHideD (te : TE) : TE := fun σ H Q => ∃ D kvs, H D = some (.dK kvs) ∧ te σ (del H (some D)) fun y H' => H' D = none → Q y (upd H' D (.dK kvs))
section
variable {X : Cx} {E : WX} {e : Expr} {te : TE} {d : Den} {pos : Pos}
theorem pe_hideD (h : PE X e te) : PE X e (tHideD te) := by
  refine ⟨fun pins s σ H Q I hq => ?_⟩
  obtain ⟨D, acc, hD, hq⟩ := hq
  obtain ⟨ob, he, I1, _⟩ := hide (.inr (.inl ⟨acc, rfl⟩)) I hD
  refine thn (h.run _ s σ _ _ I1 hq) fun u s1 ⟨v, H1, J, r, q⟩ => ?_
  have p2 : H1 D = none := (J.pin (D, ob) (List.mem_append_right _ List.mem_cons_self)).2.1
  exact ⟨v, _, unhide (.inr (.inl ⟨acc, rfl⟩)) I hD he J, r, q p2⟩
theorem del_put {H : Hp} {D : Addr} {o : HO} (h : H D = none) : del (upd H D o) (some D) = H := by
  funext b
  by_cases z : b = D
  · rw [z, h]; exact if_pos rfl
  · show (if b = D then none else upd H D o b) = H b
    rw [if_neg z, upd_ne z]
theorem put_del {H : Hp} {D : Addr} {o : HO} (h : H D = some o) : upd (del H (some D)) D o = H := by
  funext b
  by_cases z : b = D
  · rw [z, h]; exact upd_same
  · rw [upd_ne z, del_ne z]
structure PP2 (K : PySem.W.Frag) (ρ : Cs) (H : Hp) (mg : Str → Option Value) (p : PV × PV) (q : V × V) : Prop where
  k : VR K ρ H mg p.1 q.1
  v : VR K ρ H mg p.2 q.2
def trsD (X : Cx) (E : WX) (ps : List (Den × Den)) : List (TE × TE) := ps.map fun p => (tHideD (tE X E p.1), tHideD (tE X E p.2))
theorem pairs_of {σ : L2.St} {fr : Fr} {D : Addr} : ∀ {ps : List (Den × Den)} {H : Hp} {ρ : Cs} {st : Store} {F : List (PV × PV) → Store → Prop} {R : List (V × V) → Hp → Prop}, H D = some (.dK []) → At X σ (del H (some D)) ρ fr st →
    (dPairs ps fr st).wp F (okX X E σ ρ (del H (some D))) →
    (∀ ws st' ρ' H2 xs, F ws st' → Ext ρ (del H (some D)) ρ' H2 → RS X.K ρ' H2 X.mg st' → Paired (PP2 X.K ρ' H2 X.mg) ws xs → H2 D = none → R xs (upd H2 D (.dK []))) → tPairs (trsD X E ps) σ H R
  | [], H, ρ, st, F, R, hD, A, h, k => by
    have := k [] st ρ _ [] h (Ext.refl _ _) A.rs .nil del_self
    rw [put_del hD] at this
    exact this
  | p :: ps, H, ρ, st, F, R, hD, A, h, k => by
    have h : ((p.1 fr st).bind fun k st1 => (p.2 fr st1).bind fun v st2 => (dPairs ps fr st2).bind fun ps st3 => .ok ((k, v) :: ps) st3).wp F (okX X E σ ρ (del H (some D))) := h
    refine ⟨D, [], hD, tE.step A h fun a st1 ρ1 H1 x e1 A1 v1 h1 n1 => ?_⟩
    refine ⟨D, [], upd_same, ?_⟩
    rw [del_put n1]
    refine tE.step A1 h1 fun b st2 ρ2 H2 y e2 A2 v2 h2 n2 => ?_
    refine pairs_of (ρ := ρ2) (st := st2) upd_same (by rw [del_put n2]; exact A2) (by rw [del_put n2]; exact Res.wp_bind h2) fun ws st3 ρ3 H3 xs hF e3 r3 v3 n3 => ?_
    rw [del_put n2] at e3
    exact k _ _ ρ3 H3 _ (Res.wp_mono hF (fun _ _ q => q) fun _ _ q => q) ((e1.trans e2).trans e3) r3 (.cons ⟨v1.mono (e2.trans e3), v2.mono e3⟩ v3) n3
theorem keysOf_ok {K : PySem.W.Frag} {ρ : Cs} {H : Hp} {mg : Str → Option Value} : ∀ {ws : List (PV × PV)} {xs : List (V × V)} {kvs : List (Key × PV)}, Paired (PP2 K ρ H mg) ws xs → keysOf ws = some kvs → ∃ vs : List (Key × V), xs = vs.map (fun kv => (kV kv.1, kv.2)) ∧ VRk K ρ H mg kvs vs
  | [], _, kvs, .nil, e => by
    have e := Option.some.inj e
    subst e
    exact ⟨[], rfl, .nil⟩
  | p :: ws, q :: xs, kvs, .cons h t, e => by
    have e : (match toKey p.1, keysOf ws with
      | some k, some ks => some ((k, p.2) :: ks)
      | _, _ => none) = some kvs := e
    cases q1 : toKey p.1 with
    | none => rw [q1] at e; cases e
    | some k =>
      cases q2 : keysOf ws with
      | none => rw [q1, q2] at e; cases e
      | some ks =>
        rw [q1, q2] at e
        have e := Option.some.inj e
        subst e
        obtain ⟨vs, e1, e2⟩ := keysOf_ok t q2
        refine ⟨(k, q.2) :: vs, ?_, .cons ⟨rfl, h.v⟩ e2⟩
        rw [e1, List.map_cons, ← toKey_ok h.k q1]
theorem VRk.merge {K : PySem.W.Frag} {ρ : Cs} {H : Hp} {mg : Str → Option Value} : ∀ {more : List (Key × PV)} {mw : List (Key × V)} {kvs : List (Key × PV)} {ws : List (Key × V)}, VRk K ρ H mg more mw → VRk K ρ H mg kvs ws → VRk K ρ H mg (mergeP kvs more) (mergeK ws mw)
  | [], _, _, _, .nil, h => h
  | p :: more, q :: mw, kvs, ws, .cons r t, h => by
    have h1 := h.put p.1 r.2
    have e : q.1 = p.1 := r.1.symm
    show VRk K ρ H mg (mergeP (putP kvs p.1 p.2) more) (mergeK (putK ws q.1 q.2) mw)
    rw [e]
    exact VRk.merge t h1
/-- the new dict -/
theorem newD_ok {m : Bool} {ρ : Cs} {H : Hp} {st : Store} {kvs : List (Key × PV)} {ws : List (Key × V)} {Q : VK} (rs : RS X.K ρ H X.mg st) (v : VRk X.K ρ H X.mg kvs ws) (h : okV X ρ H (newD m kvs st) Q) : ∀ p, H p = none → Q (.ref p) (upd H p (.dK ws)) := by
  intro p n
  unfold newD at h
  cases m with
  | true =>
    rw [if_pos rfl] at h
    exact h _ _ _ (rs.extC n) (rs.cell n ⟨ws, upd_same, v.mono (rs.extC n)⟩) rs.cellAt
  | false =>
    rw [if_neg (by decide)] at h
    obtain ⟨k1, k2⟩ := v.keys
    cases e : datas (kvs.map (·.2)) with
    | none => rw [e] at h; exact h.elim
    | some ds =>
      rw [e] at h
      have e2 := datas_eq e
      rw [e2] at k2
      have ek : (kvs.map fun p => keyD p.1) = ws.map fun p => keyD p.1 := by
        have z := congrArg (List.map keyD) k1
        rw [List.map_map, List.map_map] at z
        exact z
      refine h ρ _ _ (rs.ext n) (rs.new n) (.d ?_)
      rw [ek]
      exact .dic upd_same (rs.fresh n) (DRs.mono (rs.ext n) k2.toD)
theorem se_dict {m : Bool} {keys : List (Option Expr)} {values : List Expr} {ps : List (Den × Den)} (h : PPs X pos keys values (trsD X E ps)) (hall : keys.all (·.isSome) = true) (hl : keys.length = values.length) (h0 : keys ≠ []) (h15 : keys.length ≤ 15) :
    PE X (.Dict keys values pos) (tE X E (dDict m ps)) := by
  refine ⟨fun pins s σ H Q I hq => (pe_disp h hall hl h0 h15).run pins s σ H Q I ?_⟩
  obtain ⟨ρ, fr, st, A, hq⟩ := hq
  intro p n
  have hq := Res.wp_bind hq
  refine pairs_of (ρ := ρ) (st := st) upd_same (by rw [del_put n]; exact A) (by rw [del_put n]; exact hq) fun ws st1 ρ1 H1 xs hF e1 r1 v1 n1 => ?_
  rw [del_put n] at e1
  cases q : keysOf ws with
  | none => rw [q] at hF; exact hF.elim
  | some kvs =>
    rw [q] at hF
    dsimp only at hF
    split at hF
    · rename_i hz
      obtain ⟨vs, e2, v2⟩ := keysOf_ok v1 q
      refine ⟨upd_same, vs, e2, by rw [← v2.length]; exact hz, ?_⟩
      have hn : okV X ρ1 H1 (newD m (mergeP [] kvs) st1) Q := okV.of (E := E) (σ := σ) e1 (Res.wp_mono hF (fun _ _ q => q) fun _ _ q => q.mono e1)
      have := newD_ok r1 (VRk.merge v2 .nil) hn p n1
      have e3 : upd (upd H1 p (.dK [])) p (.dK (mergeK [] vs)) = upd H1 p (.dK (mergeK [] vs)) := by
        funext b
        by_cases z : b = p
        · rw [z, upd_same, upd_same]
        · rw [upd_ne z, upd_ne z, upd_ne z]
      rw [e3]
      exact this
    · exact hF.elim
theorem se_dict0 {m : Bool} : PE X (.Dict [] [] pos) (tE X E (dDict0 m)) := by
  refine ⟨fun pins s σ H Q I hq => pe_dnewK.run pins s σ H Q I ?_⟩
  obtain ⟨ρ, fr, st, A, hq⟩ := hq
  exact newD_ok A.rs .nil (okV.of (E := E) (σ := σ) (Ext.refl _ _) hq)
theorem sps_nil : PPs X pos [] [] (trsD X E []) := pps_nil
theorem sps_cons {k v : Expr} {ks : List (Option Expr)} {vs : List Expr} {dk dv : Den} {ps : List (Den × Den)} (hk : PE X k (tE X E dk)) (hv : PE X v (tE X E dv)) (hr : PPs X pos ks vs (trsD X E ps)) :
    PPs X pos (some k :: ks) (v :: vs) (trsD X E ((dk, dv) :: ps)) := pps_cons (pe_hideD hk) (pe_hideD hv) hr
end
end Sr
/-! Dict comprehensions (no test; keys ints or texts). -/
namespace Sr
open PySem L2
/-- one turn: the pair goes in -/
def turnDC (t : Tg) (dk dv : Den) (fr0 : Fr) (kvs : List (Key × PV)) (v : PV) (st : Store) : Res (List (Key × PV)) := match t.put v fr0 with
  | none => .bad
  | some fr1 => (noX (dk fr1 st)).bind fun y st1 => (noX (dv fr1 st1)).bind fun z st2 => match toKey y with
    | some k => .ok (putP kvs k z) st2
    | none => .bad
def loopDC (t : Tg) (dk dv : Den) (fr0 : Fr) : List PV → List (Key × PV) → Store → Res (List (Key × PV))
  | [], kvs, st => .ok kvs st
  | v :: r, kvs, st => (turnDC t dk dv fr0 kvs v st).bind fun ks st1 => loopDC t dk dv fr0 r ks st1
def dDComp (m : Bool) (t : Tg) (vs : List Nat) (d : DI) (dk dv : Den) : Den := fun fr st => (d fr st).bind fun s st1 => match s with
  | .vals xs => if sizeOk xs.length then (loopDC t dk dv (wipeF fr vs) xs [] st1).bind fun kvs st2 => lift (newD m kvs st2) else .bad
  | _ => .bad
section
variable {X : Cx} {E : WX} {tg iter kx vx : Expr} {scope : Scope} {own : List (Str × Nat)} {d : DI} {t : Tg} {dk dv : Den} {pos spos : Pos}
theorem turnDC_ok {ρ : Cs} {H' : Hp} {D : Addr} {acc : List (Key × V)} {ys : List (Key × PV)} {fr0 : Fr} {σ : L2.St} {vs : List Nat} {v : PV} {x : V} {st : Store} {F : List (Key × PV) → Store → Prop} {W : PX → Store → Prop} {Nx : Hp → Prop} (hD : H' D = some (.dK acc)) (hz : acc.length < sizeLine)
    (A : At X (wipe σ vs) (del H' (some D)) ρ fr0 st) (hv : VR X.K ρ (del H' (some D)) X.mg v x) (hs : ∀ i ∈ t.slots, i ∈ vs) (hk : VRk X.K ρ (del H' (some D)) X.mg ys acc) (h : (turnDC t dk dv fr0 ys v st).wp F W)
    (k : ∀ (ks : List (Key × PV)) (st' : Store) (ρ' : Cs) (H2 : Hp) (acc' : List (Key × V)), F ks st' → Ext ρ (del H' (some D)) ρ' (del H2 (some D)) → RS X.K ρ' (del H2 (some D)) X.mg st' → H2 D = some (.dK acc') → VRk X.K ρ' (del H2 (some D)) X.mg ks acc' → acc'.length ≤ acc.length + 1 → Nx H2) :
    t.rd X.K x (wipe σ vs) H' fun σ2 H2 => wipe σ2 vs = wipe σ vs ∧ tYes σ2 H2 fun b H3 =>
      if b = true then tHideD (tE X E0 dk) σ2 H3 fun y H4 => tHideD (tE X E0 dv) σ2 H4 fun z H5 => ∃ kvs k, y = kV k ∧ H5 D = some (.dK kvs) ∧ kvs.length < sizeLine ∧ Nx (upd H5 D (.dK (putK kvs k z))) else Nx H3 := by
  unfold turnDC at h
  cases q : t.put v fr0 with
  | none => rw [q] at h; exact h.elim
  | some fr1 =>
    rw [q] at h
    refine put_ok q A.fr hv (fun a o e => del_some e) hs fun σ' hw F' => ⟨hw.trans (wipe_idem vs), ?_⟩
    have h1 := noX_wp (W' := okX X E0 σ' ρ (del H' (some D))) (Res.wp_bind h)
    refine ⟨D, acc, hD, ρ, fr1, st, ⟨F', A.rs⟩, Res.wp_mono h1 (fun y st1 h2 ρ1 H1 yx e1 r1 v1 n1 => ?_) fun _ _ z => z⟩
    have h3 := noX_wp (W' := okX X E0 σ' ρ1 H1) (Res.wp_bind h2)
    refine ⟨D, acc, upd_same, ?_⟩
    rw [del_put n1]
    refine ⟨ρ1, fr1, st1, ⟨F'.mono e1, r1⟩, Res.wp_mono h3 (fun z st2 h4 ρ2 H2 zx e2 r2 v2 n2 => ?_) fun _ _ z => z⟩
    cases qk : toKey y with
    | none => rw [qk] at h4; exact h4.elim
    | some kk =>
      rw [qk] at h4
      have dd : del (upd (upd H2 D (.dK acc)) D (.dK (putK acc kk zx))) (some D) = H2 := by
        funext a
        by_cases ha : a = D
        · subst ha; rw [del_self, n2]
        · rw [del_ne ha, upd_ne ha, upd_ne ha]
      exact ⟨acc, kk, toKey_ok v1 qk, upd_same, hz, k _ st2 ρ2 _ (putK acc kk zx) h4 (by rw [dd]; exact e1.trans e2) (by rw [dd]; exact r2) upd_same (by rw [dd]; exact (hk.mono (e1.trans e2)).put kk v2) (length_putK acc kk zx)⟩
theorem dc_of {σ : L2.St} {H : Hp} {Q : VK} {m : Bool} {vs : List Nat} (hs : ∀ i ∈ t.slots, i ∈ vs) (h : tE X E (dDComp m t vs d dk dv) σ H Q) :
    tDc (tI X E d) (t.rd X.K) tYes (tHideD (tE X E0 dk)) (tHideD (tE X E0 dv)) vs σ H Q := by
  obtain ⟨ρ, fr, st, A, h⟩ := h
  refine ⟨ρ, fr, st, A, Res.wp_mono (Res.wp_bind h) (fun sr st1 h1 ρ1 H1 J e1 r1 wk D nD => ?_) fun _ _ z => z⟩
  have A1 := A.step e1 r1
  have d0 : del (upd H1 D (.dK [])) (some D) = H1 := del_put nD
  cases sr with
  | live nn k num => exact h1.elim
  | vals xs =>
    have h1 : (if sizeOk xs.length then (loopDC t dk dv (wipeF fr vs) xs [] st1).bind fun kvs st2 => lift (newD m kvs st2) else .bad).wp _ _ := h1
    split at h1
    · rename_i hz
      have hz := sizeOk_le hz
      have h1 := Res.wp_bind h1
      -- what is left to do from turn i on
      let G (i : Nat) (H2 : Hp) : Prop := ∃ ρ2 st2 acc ys, H2 D = some (.dK acc) ∧ Ext ρ1 H1 ρ2 (del H2 (some D)) ∧ RS X.K ρ2 (del H2 (some D)) X.mg st2 ∧ VRk X.K ρ2 (del H2 (some D)) X.mg ys acc ∧ acc.length ≤ i ∧
        (loopDC t dk dv (wipeF fr vs) (xs.drop i) ys st2).wp (fun kvs st3 => (lift (newD m kvs st3)).wp (fun v st' => ∀ ρ' H' x, Ext ρ H ρ' H' → RS X.K ρ' H' X.mg st' → VR X.K ρ' H' X.mg v x → Q x H') (okX X E σ ρ H)) (fun _ _ => True)
      refine ⟨fun i n H2 => n = xs.length - i ∧ i ≤ xs.length ∧ G i H2, ⟨xs.length, by simp, Nat.zero_le _, ρ1, st1, [], [], upd_same, by rw [d0]; exact Ext.refl _ _, by rw [d0]; exact r1, .nil, Nat.zero_le _, Res.wp_mono h1 (fun _ _ q => q) fun _ _ _ => trivial⟩, ?_⟩
      rintro i n H2 ⟨rfl, hi, ρ2, st2, acc, ys, hD, e2, r2, v2, hl, hq⟩
      obtain ⟨wk1, wk2⟩ := wk i ρ2 H2 (some D) st2 (fun d' z => by cases z; exact ⟨_, hD⟩) e2 r2
      by_cases hlt : i < xs.length
      · rw [List.drop_eq_getElem_cons hlt] at hq
        obtain ⟨g1, g2⟩ := wk1 xs[i] (by show some xs[i]? = _; rw [List.getElem?_eq_getElem hlt])
        refine .inr ⟨g1, G (i + 1), fun H' q => ⟨xs.length - (i + 1), by omega, rfl, hlt, q⟩, fun x H' y => ?_⟩
        obtain ⟨e3, r3, v3, dd⟩ := g2 x H' y
        have F3 : FR X.K ρ2 (del H' (some D)) X.mg (wipeF fr vs) (wipe σ vs) := ((A1.fr.mono e2).mono e3).wipe vs
        exact turnDC_ok ((dd D rfl).trans hD) (by omega) ⟨F3, r3⟩ v3 hs (v2.mono e3) (Res.wp_bind hq) fun ks st4 ρ4 H4 acc4 hF e4 r4 hD4 hk4 hl4 =>
          ⟨ρ4, st4, acc4, ks, hD4, (e2.trans e3).trans e4, r4, hk4, by omega, hF⟩
      · have he : i = xs.length := by omega
        subst he
        refine .inl ⟨wk2 (by show some xs[xs.length]? = _; rw [List.getElem?_eq_none (Nat.le_refl _)]), ?_⟩
        rw [List.drop_length] at hq
        have hn : okV X ρ2 (del H2 (some D)) (newD m ys st2) Q := by
          refine okV.of (E := E) (σ := σ) (e1.trans e2) (Res.wp_mono hq (fun _ _ q => q) fun _ _ q => q.mono (e1.trans e2))
        have := newD_ok r2 v2 hn D del_self
        rw [put_del hD] at this
        exact this
    · exact h1.elim
theorem se_dcomp {m : Bool} (hc : X.calm = true) (hN : X.N.Nodup) (hi : PI X tg iter (tI X E d)) (ok : BlkOk X.N X.env.scope scope own) (hs : ∀ i ∈ t.slots, i ∈ own.map (·.2))
    (hg : ∀ (s : Shared) (H : Hp) (C : Addr) (cl : List (Str × Addr)) (fp : List Addr), PG (X.blk s H scope (compEnvC scope cl C X.env) fp) tg (t.rd X.K))
    (hk : ∀ (s : Shared) (H : Hp) (C : Addr) (cl : List (Str × Addr)) (fp : List Addr), PE (X.blk s H scope (compEnvC scope cl C X.env) fp) kx (tE X E0 dk))
    (hv : ∀ (s : Shared) (H : Hp) (C : Addr) (cl : List (Str × Addr)) (fp : List Addr), PE (X.blk s H scope (compEnvC scope cl C X.env) fp) vx (tE X E0 dv)) (hf : ∀ x, foldedSetIterable iter X.env x = pure x) :
    PE X (.DictComp kx vx [⟨tg, iter, [], 0⟩] scope pos) (tE X E (dDComp m t (own.map (·.2)) d dk dv)) :=
  ⟨fun pins s σ H Q I h => (pe_dc hc hN hi ok hg (fun _ _ _ _ _ => pts_nil) (fun s H C cl fp => pe_hideD (hk s H C cl fp)) (fun s H C cl fp => pe_hideD (hv s H C cl fp)) hf).run pins s σ H Q I (dc_of hs h)⟩
/-- name = a dict comprehension on the same line: the name is bound within the block's run -/
theorem ss_setDc {m : Bool} {i : Nat} {y : Str} {py : Pos} (hc : X.calm = true) (hN : X.N.Nodup) (hy : X.N[i]? = some y) (hyl : X.env.scope.names.lookup y = some .local)
    (hsw : swapsWith (.DictComp kx vx [⟨tg, iter, [], 0⟩] scope pos) (some (.Name y py)) spos.line X.env = pure true) (hi : PI X tg iter (tI X E d)) (ok : BlkOk X.N X.env.scope scope own) (hs : ∀ i ∈ t.slots, i ∈ own.map (·.2))
    (hg : ∀ (s : Shared) (H : Hp) (C : Addr) (cl : List (Str × Addr)) (fp : List Addr), PG (X.blk s H scope (compEnvC scope cl C X.env) fp) tg (t.rd X.K))
    (hk : ∀ (s : Shared) (H : Hp) (C : Addr) (cl : List (Str × Addr)) (fp : List Addr), PE (X.blk s H scope (compEnvC scope cl C X.env) fp) kx (tE X E0 dk))
    (hv : ∀ (s : Shared) (H : Hp) (C : Addr) (cl : List (Str × Addr)) (fp : List Addr), PE (X.blk s H scope (compEnvC scope cl C X.env) fp) vx (tE X E0 dv)) (hf : ∀ x, foldedSetIterable iter X.env x = pure x) :
    PS X (.Assign [.Name y py] (.DictComp kx vx [⟨tg, iter, [], 0⟩] scope pos) spos) (tS X E (sSet i (dDComp m t (own.map (·.2)) d dk dv))) := by
  constructor
  intro pins s σ H En I h
  obtain ⟨ρ, fr, st, A, h⟩ := h
  have hd : tDc (tI X E d) (t.rd X.K) tYes (tHideD (tE X E0 dk)) (tHideD (tE X E0 dv)) (own.map (·.2)) σ H (fun x H1 => gName i x σ H1 En.nx) :=
    dc_of (m := m) hs (tE.stepS A h fun v st1 ρ1 H1 x e1 A1 v1 h1 => h1 ρ1 H1 _ (Ext.refl _ _) ⟨A1.fr.set i v1, A1.rs⟩)
  have run := fun (pos' : Pos) => dc_core (pos := pos) (pos' := pos') (use := some (assign (.Name y py) X.env)) (Qf := fun _ s' => SP X pins En .next s') hc hN I hi ok hg (fun _ _ _ _ _ => pts_nil) (fun s H C cl fp => pe_hideD (hk s H C cl fp)) (fun s H C cl fp => pe_hideD (hv s H C cl fp)) hf hd (fun B C s1 mm H1 J bound nsC fpC => by
    obtain ⟨z1, z2, z3, z4, z5, z6⟩ := fpC
    refine wpAny_assign_Name (store_ok2 (v := V.ref B) J hN hy (.inl hyl) rfl (fun s2 J2 w => ?_) (.inr hyl))
    obtain ⟨p, same, at_⟩ := w
    have pC : C ≠ p := by
      cases at_ with
      | inl e => rw [e]; exact z2
      | inr e => exact fun e2 => z5 y p e e2.symm
    exact ⟨mm, nsC.sameBut same pC, fun _ same2 => ⟨_, H1, J2.turned (t' := s2.toks) (fun b o hb e => (same2.2 b hb).trans e) z1 z2 z4 z5 z6, bound⟩⟩)
  rw [exec_Assign_Name_used]
  · exact wpAny_bind (wpAny_standAt (wpAny_bind (wpAny_bind (thn (run _) fun _ _ w => wpAny_pure (wpAny_pure w)))))
  · exact hsw
end
end Sr
/-! Methods of lists, texts, dicts. -/
namespace Sr
open PySem L2

abbrev VM := PV → List PV → Store → Option (PV × Store)
/-- what is known of a kind's own method -/
structure MI (T : String) (name : Str) (id : String) : Prop where
  pa : PlainAttrs T
  slot : Slot T name id
  ty : typeOf (.builtin id) = pure (.type "method_descriptor")
def rVM (X : Cx) (f : VM) : V → List V → Hp → VK → Prop := fun x xs H Q => ∃ ρ st v vs, RS X.K ρ H X.mg st ∧ VR X.K ρ H X.mg v x ∧ VRs X.K ρ H X.mg vs xs ∧ okV X ρ H (f v vs st) Q
inductive Ty3 where
  | str | list | dict
def Ty3.name : Ty3 → String
  | .str => "str"
  | .list => "list"
  | .dict => "dict"
def isStrV : PV → Bool
  | .d (.str _) => true
  | _ => false
def isDictV (v : PV) (st : Store) : Bool := match v with
  | .d (.dict _) => true
  | .cell n => match st[n]? with
    | some (.dic _) => true
    | some (.dit _) => true
    | _ => false
  | _ => false
def Ty3.is (T : Ty3) (v : PV) (st : Store) : Bool := match T with
  | .str => isStrV v
  | .list => isList v st
  | .dict => isDictV v st
def dMeth (T : Ty3) (f : VM) (o : Den) (r : Dens) : Den := fun fr st => (o fr st).bind fun v st1 => if T.is v st1 then (r fr st1).bind fun vs st2 => lift (f v vs st2) else .bad
section
variable {X : Cx} {E : WX} {o e : Expr} {es : List Expr} {d : Den} {r : Dens} {apos cpos : Pos} {T : Ty3} {name : Str} {id : String} {f : VM}
theorem ty_ok {K : PySem.W.Frag} {ρ : Cs} {H : Hp} {mg : Str → Option Value} {st : Store} {v : PV} {x : V} (rs : RS K ρ H mg st) (h : VR K ρ H mg v x) (e : T.is v st = true) : tyV K T.name x H := by
  cases T with
  | str =>
    unfold Ty3.is isStrV at e
    dsimp only at e
    split at e
    · rw [h.str]; rfl
    · cases e
  | list =>
    obtain ⟨a, vs, xs, rfl, g1, _, _⟩ := isList_ok rs h e
    exact .inl ⟨rfl, vs, .inl g1⟩
  | dict =>
    unfold Ty3.is isDictV at e
    dsimp only at e
    split at e
    · cases h with
      | d h =>
        cases h with
        | dic h1 h2 h3 => exact .inr (.inr (.inl ⟨rfl, .inl ⟨_, h1⟩⟩))
        | dit h1 h0 h2 h3 => exact .inr (.inr (.inl ⟨rfl, .inr ⟨_, h1⟩⟩))
    · rename_i n
      cases h with
      | cell hn =>
        cases q : st[n]? with
        | none => rw [q] at e; cases e
        | some w =>
          rw [q] at e
          obtain ⟨a, e1, e2⟩ := rs.at_ n w q
          rw [hn] at e1
          cases e1
          cases w with
          | dic kvs => obtain ⟨ws, g, _⟩ := e2; exact .inr (.inr (.inl ⟨rfl, .inl ⟨_, g⟩⟩))
          | dit kvs => obtain ⟨ws, g, _⟩ := e2; exact .inr (.inr (.inl ⟨rfl, .inr ⟨_, g⟩⟩))
          | _ => cases e
    · cases e
theorem kwAll {cpos : Pos} {env : Env} : (backToKw cpos (keywordEach [] env)).all (fun x => x.1.isSome) = true := rfl
theorem starFew : ∀ {es : List Expr} {env : Env} {pos : Pos}, noStar es = true → (backTo pos (starEach es env)).all (fun x => !x.1) = true
  | [], _, _, _ => rfl
  | e :: es, env, pos, h => by
    rw [(star_cons h).1]
    show (!false && (backTo pos (starEach es env)).all (fun x => !x.1)) = true
    rw [starFew (star_cons (env := env) h).2]
    rfl
theorem se_meth (m : MI T.name name id) (hm : MtR X id (rVM X f)) (ho : PE X o (tE X E d)) (ha : PA X (e :: es) (tEs X E r)) (hb : attributeBase o name X.env (eval o X.env) = eval o X.env) (hs : noStar (e :: es) = true) (hn : (e :: es).length < 30)
    (hl : (apos.endLine == cpos.line) = true) : PE X (.Call (.Attribute o name apos) (e :: es) [] cpos) (tE X E (dMeth T f d r)) := by
  refine ⟨fun pins s σ H Q I h => (pe_bm m.pa m.slot m.ty hm ho ha hb ?_ hl (star_cons hs).1 (star_any (star_cons (env := X.env) hs).2)).run pins s σ H Q I ?_⟩
  · rw [starFew hs, kwAll, Bool.true_and, Bool.true_and, decide_eq_true_eq]
    exact hn
  obtain ⟨ρ, fr, st, A, h⟩ := h
  refine tE.step A h fun v st1 ρ1 H1 x e1 A1 v1 h1 => ?_
  split at h1
  · rename_i ht
    refine ⟨ty_ok A1.rs v1 ht, tEs.step A1 h1 fun vs st2 ρ2 H2 ws e2 A2 v2 h2 => ?_⟩
    exact ⟨ρ2, st2, v, vs, A2.rs, v1.mono e2, v2, okV.of (e1.trans e2) h2⟩
  · exact h1.elim
theorem se_meth0 (m : MI T.name name id) (hm : MtR X id (rVM X f)) (ho : PE X o (tE X E d)) (hb : attributeBase o name X.env (eval o X.env) = eval o X.env)
    (hl : (apos.endLine == cpos.line) = true) : PE X (.Call (.Attribute o name apos) [] [] cpos) (tE X E (dMeth T f d dNil)) := by
  refine ⟨fun pins s σ H Q I h => (pe_bm0 m.pa m.slot m.ty hm ho hb hl).run pins s σ H Q I ?_⟩
  obtain ⟨ρ, fr, st, A, h⟩ := h
  refine tE.step A h fun v st1 ρ1 H1 x e1 A1 v1 h1 => ?_
  split at h1
  · rename_i ht
    exact ⟨ty_ok A1.rs v1 ht, ρ1, st1, v, [], A1.rs, v1, .nil, okV.of e1 h1⟩
  · exact h1.elim
end

/-! ### lists -/
def vAppend : VM := fun v vs st => match v, vs with
  | .cell n, [y] => match st[n]? with
    | some (.lst xs) => if xs.length < 1000000 then some (.d .none, st.set n (.lst (xs ++ [y]))) else none
    | _ => none
  | _, _ => none
def vPop0 : VM := fun v vs st => match v, vs with
  | .cell n, [] => match st[n]? with
    | some (.lst xs) => match xs[xs.length - 1]? with
      | some y => some (y, st.set n (.lst xs.dropLast))
      | none => none
    | _ => none
  | .cell n, [.d (.int i)] => match st[n]? with
    | some (.lst xs) => if -1000000 ≤ i ∧ i ≤ 1000000 then match seqIndex? i xs.length with
      | some k => match xs[k]? with
        | some y => some (y, st.set n (.lst (xs.eraseIdx k)))
        | none => none
      | none => none
      else none
    | _ => none
  | _, _ => none
def vInsert : VM := fun v vs st => match v, vs with
  | .cell n, [.d (.int i), y] => match st[n]? with
    | some (.lst xs) => if xs.length < 1000000 ∧ 0 ≤ i ∧ i ≤ 1000000 then some (.d .none, st.set n (.lst (xs.take i.toNat ++ [y] ++ xs.drop i.toNat))) else none
    | _ => none
  | _, _ => none
def vExtend : VM := fun v vs st => match v, vs with
  | .cell n, [w] => if isList w st then match st[n]?, seqItems w st with
    | some (.lst xs), some ys => if xs.length + ys.length ≤ 1000000 then some (.d .none, st.set n (.lst (xs ++ ys))) else none
    | _, _ => none
    else none
  | _, _ => none
section
variable {X : Cx}
theorem cellLst {K : PySem.W.Frag} {ρ : Cs} {H : Hp} {mg : Str → Option Value} {st : Store} {n : Nat} {x : V} {xs : List PV} (rs : RS K ρ H mg st) (h : VR K ρ H mg (.cell n) x) (e : st[n]? = some (.lst xs)) :
    ∃ a vs, x = .ref a ∧ ρ.at_ n = some a ∧ H a = some (.lst vs) ∧ VRs K ρ H mg xs vs := by
  cases h with
  | cell hn =>
    obtain ⟨a, e1, vs, e2, e3⟩ := rs.at_ n _ e
    rw [hn] at e1
    cases e1
    exact ⟨_, vs, rfl, hn, e2, e3⟩
theorem mil : (1000000 : Nat) ≤ sizeLine := by decide
/-- a list in a cell gets other items -/
theorem setLst {K : PySem.W.Frag} {ρ : Cs} {H : Hp} {mg : Str → Option Value} {st : Store} {n : Nat} {a : Addr} {xs : List PV} {vs : List V} (rs : RS K ρ H mg st) (h : ρ.at_ n = some a) (mu : Mut (H a)) (q : VRs K ρ H mg xs vs) :
    Ext ρ H ρ (upd H a (.lst vs)) ∧ RS K ρ (upd H a (.lst vs)) mg (st.set n (.lst xs)) := ⟨Ext.set h rs.nd mu, rs.set h ⟨vs, upd_same, q.mono (Ext.set h rs.nd mu)⟩⟩
theorem VRs.dropLast {K : PySem.W.Frag} {ρ : Cs} {H : Hp} {mg : Str → Option Value} {xs : List PV} {vs : List V} (h : VRs K ρ H mg xs vs) : VRs K ρ H mg xs.dropLast vs.dropLast := by
  rw [List.dropLast_eq_take, List.dropLast_eq_take, h.length]
  exact h.take _
theorem VRs.eraseIdx {K : PySem.W.Frag} {ρ : Cs} {H : Hp} {mg : Str → Option Value} : ∀ {xs : List PV} {vs : List V} (k : Nat), VRs K ρ H mg xs vs → VRs K ρ H mg (xs.eraseIdx k) (vs.eraseIdx k)
  | _, _, _, .nil => .nil
  | _, _, 0, .cons _ t => t
  | _, _, k + 1, .cons r t => .cons r (VRs.eraseIdx k t)
theorem mt_append_ok : MtR X "list.append" (rVM X vAppend) := by
  intro pins s σ H x xs v us Q I rx rv h
  obtain ⟨ρ, st, o, vs, rs, ho, hv, h⟩ := h
  unfold vAppend at h
  split at h
  · rename_i n y
    cases q : st[n]? with
    | none => rw [q] at h; exact h.elim
    | some w =>
      rw [q] at h
      cases w with
      | lst ys =>
        dsimp only at h
        split at h
        · rename_i hz
          obtain ⟨z, rfl, hy⟩ := hv.one
          obtain ⟨a, ws, rfl, hn, g1, g2⟩ := cellLst rs ho q
          obtain ⟨e1, r1⟩ := setLst rs hn (by rw [g1]; trivial) (g2.snoc hy)
          have := mil
          exact mt_append pins s σ H _ _ v us Q I rx rv ⟨a, ws, z, rfl, rfl, g1, by rw [← g2.length]; omega, h _ _ _ e1 r1 (.d .non)⟩
        · exact h.elim
      | _ => exact h.elim
  · exact h.elim
theorem mt_pop_ok : MtR X "list.pop" (rVM X vPop0) := by
  intro pins s σ H x xs v us Q I rx rv h
  obtain ⟨ρ, st, o, vs, rs, ho, hv, h⟩ := h
  unfold vPop0 at h
  split at h
  · rename_i n
    cases q : st[n]? with
    | none => rw [q] at h; exact h.elim
    | some w =>
      rw [q] at h
      cases w with
      | lst ys =>
        dsimp only at h
        cases q2 : ys[ys.length - 1]? with
        | none => rw [q2] at h; exact h.elim
        | some y =>
          rw [q2] at h
          cases hv
          obtain ⟨a, ws, rfl, hn, g1, g2⟩ := cellLst rs ho q
          obtain ⟨e1, r1⟩ := setLst rs hn (by rw [g1]; trivial) g2.dropLast
          obtain ⟨z, k1, k2⟩ := g2.get q2
          rw [g2.length] at k1
          exact mt_pop pins s σ H _ _ v us Q I rx rv ⟨a, ws, z, rfl, rfl, g1, k1, h _ _ _ e1 r1 (k2.mono e1)⟩
      | _ => exact h.elim
  · rename_i n i
    cases q : st[n]? with
    | none => rw [q] at h; exact h.elim
    | some w =>
      rw [q] at h
      cases w with
      | lst ys =>
        dsimp only at h
        split at h
        · rename_i hi
          cases q3 : seqIndex? i ys.length with
          | none => rw [q3] at h; exact h.elim
          | some k =>
            rw [q3] at h
            dsimp only at h
            cases q2 : ys[k]? with
            | none => rw [q2] at h; exact h.elim
            | some y =>
              rw [q2] at h
              obtain ⟨b, rfl, hb⟩ := hv.one
              rw [hb.int] at rv
              obtain ⟨a, ws, rfl, hn, g1, g2⟩ := cellLst rs ho q
              obtain ⟨e1, r1⟩ := setLst rs hn (by rw [g1]; trivial) (g2.eraseIdx k)
              obtain ⟨z, k1, k2⟩ := g2.get q2
              exact mt_popAt pins s σ H _ _ v us Q I rx rv ⟨a, ws, i, k, z, rfl, rfl, g1, by omega, by omega, by rw [← g2.length]; exact q3, k1, h _ _ _ e1 r1 (k2.mono e1)⟩
        · exact h.elim
      | _ => exact h.elim
  · exact h.elim
theorem mt_insert_ok : MtR X "list.insert" (rVM X vInsert) := by
  intro pins s σ H x xs v us Q I rx rv h
  obtain ⟨ρ, st, o, vs, rs, ho, hv, h⟩ := h
  unfold vInsert at h
  split at h
  · rename_i n i y
    cases q : st[n]? with
    | none => rw [q] at h; exact h.elim
    | some w =>
      rw [q] at h
      cases w with
      | lst ys =>
        dsimp only at h
        split at h
        · rename_i hz
          obtain ⟨z1, z, rfl, hi, hy⟩ := hv.two
          rw [hi.int] at rv
          obtain ⟨a, ws, rfl, hn, g1, g2⟩ := cellLst rs ho q
          obtain ⟨e1, r1⟩ := setLst rs hn (by rw [g1]; trivial) (((g2.take i.toNat).append (.cons hy .nil)).append (g2.drop i.toNat))
          have := mil
          exact mt_insert pins s σ H _ _ v us Q I rx rv ⟨a, ws, i, z, rfl, rfl, g1, by rw [← g2.length]; omega, hz.2.1, by omega, h _ _ _ e1 r1 (.d .non)⟩
        · exact h.elim
      | _ => exact h.elim
  · exact h.elim
theorem mt_extendR : MtR X "list.extend" (fun x vs H Q => ∃ l b xs zs, x = .ref l ∧ vs = [.ref b] ∧ H l = some (.lst xs) ∧ Rd H b (.lst zs) ∧ xs.length + zs.length ≤ sizeLine ∧ Q .non (upd H l (.lst (xs ++ zs)))) := by
  rintro pins s σ H _ _ _ _ Q I rx rv ⟨l, b, xs, zs, rfl, rfl, mine, theirs, room, q⟩
  cases rx
  obtain ⟨_, rfl, other⟩ := L2.Vals.one rv
  cases other
  obtain ⟨_, as, n, each, same, at_l⟩ := I.lstM mine
  obtain ⟨_, bs, m, each2, same2, at_b⟩ := lstR I theirs
  have set := I.lset (its' := as ++ bs) (f := (· ++ bs.toArray)) (t' := s.toks) mine at_l (List.append_toArray _ _) (each.append each2) (by rw [List.length_append]; exact room)
  have fit : as.toArray.size + bs.toArray.size ≤ sizeLine := by rw [same, same2] at room; simpa using room
  have short : ¬ (!as.toArray.isEmpty && Builtin.List.listTooLong (as.toArray.size + bs.toArray.size)) = true := by rw [notLongL fit]; simp
  exact call_meets F.slot_list_extend ⟨_, at_l, rfl⟩ F.entry_list_extend (F.args_list_extend_2 _ _) (AutoSeq1.list_extend_list_list_0 l _ n b _ m short (Nat.le_trans (Nat.le_add_right _ _) fit) (Nat.le_succ_of_le fit)) ⟨at_l, at_b, .non, _, set, rfl, q⟩
theorem mt_extend_ok : MtR X "list.extend" (rVM X vExtend) := by
  intro pins s σ H x xs v us Q I rx rv h
  obtain ⟨ρ, st, o, vs, rs, ho, hv, h⟩ := h
  unfold vExtend at h
  split at h
  · rename_i n w
    split at h
    · rename_i hl
      obtain ⟨z, rfl, hw⟩ := hv.one
      obtain ⟨b, zs, ys, rfl, k1, k2, k3⟩ := isList_ok rs hw hl
      rw [k2] at h
      cases q : st[n]? with
      | none => rw [q] at h; exact h.elim
      | some u =>
        rw [q] at h
        cases u with
        | lst xs =>
          dsimp only at h
          split at h
          · rename_i hz
            obtain ⟨a, ws, rfl, hn, g1, g2⟩ := cellLst rs ho q
            obtain ⟨e1, r1⟩ := setLst rs hn (by rw [g1]; trivial) (g2.append k3)
            have := mil
            exact mt_extendR pins s σ H _ _ v us Q I rx rv ⟨a, b, ws, zs, rfl, rfl, g1, k1, by rw [← g2.length, ← k3.length]; omega, h _ _ _ e1 r1 (.d .non)⟩
          · exact h.elim
        | _ => exact h.elim
    · exact h.elim
  · exact h.elim
end
end Sr
/-! Methods of dicts and texts; sorting; the least. -/
namespace Sr
open PySem L2

/-! ### dicts -/
/-- an empty dict becomes one of tuples -/
def emptyT (o i : PV) (st : Store) : Option Store := match o, i with
  | .cell n, .d (.tuple ds) => match st[n]? with
    | some (.dic []) => (keysOfD ds).map fun _ => st.set n (.dit [])
    | _ => none
  | _, _ => none
def vGet : VM := fun v vs st => match vs with
  | [k] => match dictVal v k st with
    | some o => some (o.getD (.d .none), st)
    | none => match dictValT v k st with
      | some o => some (o.getD (.d .none), st)
      | none => (emptyT v k st).map fun st' => (.d .none, st')
  | [k, d] => match dictVal v k st with
    | some o => some (o.getD d, st)
    | none => match dictValT v k st with
      | some o => some (o.getD d, st)
      | none => (emptyT v k st).map fun st' => (d, st')
  | _ => none
/-- the object of an empty dict is one of tuples, too -/
theorem dk_to_dt {X : Cx} {pins : List (Addr × Obj)} {σ : L2.St} {H : Hp} {s : Shared} {a : Addr} (I : Inv X pins σ H s) (h : H a = some (.dK [])) : Inv X pins σ (upd H a (.dT [])) s := by
  obtain ⟨z, y, vs, r, ob, es, ep, e, c⟩ := (show ObjOk X.prog X.w H s.heap a (.dK []) from I.hok a _ h)
  have hv : vs = [] := by cases r; rfl
  subst hv
  have mu : Mut (H a) := by rw [h]; trivial
  have em : es.toList = [] := by
    have p := c.2.2.2.1
    generalize es.toList = l at p
    cases p
    rfl
  exact I.write (h' := s.heap) (t' := s.toks) mu (.inl rfl) (fun _ _ _ q => q) ⟨ob, e⟩ ⟨Nat.zero_le _, y, [], .nil, ob, es, ep, e, c.1, c.2.1, em, .nil⟩
theorem emptyT_ok {X : Cx} {pins : List (Addr × Obj)} {σ : L2.St} {ρ : Cs} {H : Hp} {s : Shared} {st st' : Store} {o i : PV} {x y : V} (I : Inv X pins σ H s) (rs : RS X.K ρ H X.mg st) (ho : VR X.K ρ H X.mg o x) (hi : VR X.K ρ H X.mg i y) (e : emptyT o i st = some st') :
    ∃ a b, ∃ k : List Key, x = .ref a ∧ y = .ref b ∧ Inv X pins σ (upd H a (.dT [])) s ∧ Ext ρ H ρ (upd H a (.dT [])) ∧ RS X.K ρ (upd H a (.dT [])) X.mg st' ∧ FzT X.K ρ H b (k.map kV) := by
  unfold emptyT at e
  split at e
  · rename_i n ds
    cases ho with
    | cell hc =>
      rename_i a
      cases z : st[n]? with
      | none => rw [z] at e; cases e
      | some u =>
        rw [z] at e
        obtain ⟨b, b1, b2⟩ := rs.at_ n u z
        rw [hc] at b1
        cases b1
        split at e
        · rename_i hu
          have hu := Option.some.inj hu
          subst hu
          cases hi with
          | d hi =>
            cases hi with
            | tup f q =>
              cases zk : keysOfD ds with
              | none => rw [zk] at e; cases e
              | some k =>
                rw [zk] at e
                have e := Option.some.inj e
                subst e
                have z2 := keysOfD_eq zk
                subst z2
                have ev := q.keyVs
                subst ev
                obtain ⟨ws, g1, g2⟩ := b2
                cases g2
                have mu : Mut (H a) := by rw [g1]; trivial
                exact ⟨a, _, k, rfl, rfl, dk_to_dt I g1, Ext.set hc rs.nd mu, rs.set hc ⟨[], upd_same, .nil⟩, f⟩
        · cases e
  · cases e
theorem mil2 : (1000002 : Nat) ≤ sizeLine := by decide
section
variable {X : Cx}
theorem OptVR.get {K : PySem.W.Frag} {ρ : Cs} {H : Hp} {mg : Str → Option Value} {r : Option PV} {z : Option V} {d : PV} {x : V} (h : OptVR K ρ H mg r z) (hd : VR K ρ H mg d x) : VR K ρ H mg (r.getD d) (z.getD x) := by
  cases r with
  | none => rw [show z = none from h]; exact hd
  | some v => obtain ⟨w, rfl, hw⟩ := h; exact hw
theorem mt_get_ok (hu : X.A.units + 1 < cLine) : MtR X "dict.get" (rVM X vGet) := by
  intro pins s σ H x xs v us Q I rx rv h
  obtain ⟨ρ, st, o, vs, rs, ho, hv, h⟩ := h
  unfold vGet at h
  split at h
  · rename_i k
    obtain ⟨y, rfl, hk⟩ := hv.one
    cases q : dictVal o k st with
    | none =>
      rw [q] at h
      dsimp only at h
      cases q3 : dictValT o k st with
      | none =>
        rw [q3] at h
        dsimp only at h
        cases q4 : emptyT o k st with
        | none => rw [q4] at h; exact h.elim
        | some st' =>
          rw [q4] at h
          obtain ⟨a, b, ks, rfl, rfl, I2, e2, r2, f⟩ := emptyT_ok I rs ho hk q4
          cases rx
          obtain ⟨u, rfl, ru⟩ := L2.Vals.one rv
          cases ru
          exact dT_get1 hu I2 (.inl upd_same) (f.mono e2) fun w' s' I' rw' => ⟨_, _, I', rw', h ρ _ _ e2 r2 (.d .non)⟩
      | some r =>
        rw [q3] at h
        obtain ⟨a, b, kvs, ks, rfl, rfl, g, f, hz⟩ := dictValT_ok rs ho hk q3
        cases rx
        obtain ⟨u, rfl, ru⟩ := L2.Vals.one rv
        cases ru
        exact dT_get1 hu I g f fun w' s' I' rw' => ⟨_, H, I', rw', h ρ H _ (Ext.refl _ _) rs (hz.get (.d .non))⟩
    | some r =>
      rw [q] at h
      obtain ⟨a, z, rfl, g, hz⟩ := dictVal_ok rs ho hk q
      cases rx
      obtain ⟨u, rfl, ru⟩ := L2.Vals.one rv
      exact d_get1 hu I g ru fun w' s' I' rw' => ⟨_, H, I', rw', h ρ H _ (Ext.refl _ _) rs (hz.get (.d .non))⟩
  · rename_i k d
    obtain ⟨y, y2, rfl, hk, hd⟩ := hv.two
    cases q : dictVal o k st with
    | none =>
      rw [q] at h
      dsimp only at h
      cases q3 : dictValT o k st with
      | none =>
        rw [q3] at h
        dsimp only at h
        cases q4 : emptyT o k st with
        | none => rw [q4] at h; exact h.elim
        | some st' =>
          rw [q4] at h
          obtain ⟨a, b, ks, rfl, rfl, I2, e2, r2, f⟩ := emptyT_ok I rs ho hk q4
          cases rx
          obtain ⟨u, u2, rfl, ru, ru2⟩ := L2.Vals.two rv
          cases ru
          exact dT_get2 hu I2 (.inl upd_same) (f.mono e2) ru2 fun w' s' I' rw' => ⟨_, _, I', rw', h ρ _ _ e2 r2 (hd.mono e2)⟩
      | some r =>
        rw [q3] at h
        obtain ⟨a, b, kvs, ks, rfl, rfl, g, f, hz⟩ := dictValT_ok rs ho hk q3
        cases rx
        obtain ⟨u, u2, rfl, ru, ru2⟩ := L2.Vals.two rv
        cases ru
        exact dT_get2 hu I g f ru2 fun w' s' I' rw' => ⟨_, H, I', rw', h ρ H _ (Ext.refl _ _) rs (hz.get hd)⟩
    | some r =>
      rw [q] at h
      obtain ⟨a, z, rfl, g, hz⟩ := dictVal_ok rs ho hk q
      cases rx
      obtain ⟨u, u2, rfl, ru, ru2⟩ := L2.Vals.two rv
      exact d_get2 hu I g ru ru2 fun w' s' I' rw' => ⟨_, H, I', rw', h ρ H _ (Ext.refl _ _) rs (hz.get hd)⟩
  · exact h.elim

/-! ### texts -/
def strL (ys : List Str) : List PV := ys.map fun y => .d (.str y)
theorem VRs.strs {K : PySem.W.Frag} {ρ : Cs} {H : Hp} {mg : Str → Option Value} : ∀ ys : List Str, VRs K ρ H mg (strL ys) (ys.map V.str)
  | [] => .nil
  | y :: ys => .cons (.d (.str y)) (VRs.strs ys)
def vSplit (m : Bool) : VM := fun v vs st => match v, vs with
  | .d (.str a), [.d (.str b)] => if b.length != 0 && decide (a.length ≤ 1000000) then newL m (strL (Txt.split a b)) st else none
  | _, _ => none
theorem mt_split_ok {m : Bool} : MtR X "str.split" (rVM X (vSplit m)) := by
  intro pins s σ H x xs v us Q I rx rv h
  obtain ⟨ρ, st, o, vs, rs, ho, hv, h⟩ := h
  unfold vSplit at h
  split at h
  · rename_i a b
    split at h
    · rename_i hc
      simp only [Bool.and_eq_true, bne_iff_ne, ne_eq, decide_eq_true_eq] at hc
      obtain ⟨y, rfl, hy⟩ := hv.one
      rw [hy.str] at rv
      rw [ho.str] at rx
      have := mil2
      exact mt_split pins s σ H _ _ v us Q I rx rv ⟨a, b, rfl, rfl, by simpa using hc.1, by omega, newL_ok rs (VRs.strs _) h⟩
    · exact h.elim
  · exact h.elim
def strsOf : List PV → Option (List Str)
  | [] => some []
  | .d (.str x) :: r => (strsOf r).map (x :: ·)
  | _ :: _ => none
theorem strsOf_eq {K : PySem.W.Frag} {ρ : Cs} {H : Hp} {mg : Str → Option Value} : ∀ {xs : List PV} {vs : List V} {ys : List Str}, VRs K ρ H mg xs vs → strsOf xs = some ys → vs = ys.map V.str
  | [], _, ys, .nil, e => by
    have e := Option.some.inj e
    subst e
    rfl
  | x :: xs, _, ys, .cons h t, e => by
    cases x with
    | d y =>
      cases y with
      | str z =>
        have e : (strsOf xs).map (z :: ·) = some ys := e
        cases q : strsOf xs with
        | none => rw [q] at e; cases e
        | some l =>
          rw [q] at e
          have e := Option.some.inj e
          subst e
          rw [h.str, strsOf_eq t q, List.map_cons]
      | _ => cases e
    | _ => cases e
def vJoin : VM := fun v vs st => match v, vs with
  | .d (.str a), [w] => match seqItems w st with
    | some xs => match strsOf xs with
      | some ys => if (ys.map (·.length)).sum + ys.length * a.length ≤ 16777216 then some (.d (.str (Txt.join a ys)), st) else none
      | none => none
    | none => none
  | _, _ => none
theorem mt_join_ok : MtR X "str.join" (rVM X vJoin) := by
  intro pins s σ H x xs v us Q I rx rv h
  obtain ⟨ρ, st, o, vs, rs, ho, hv, h⟩ := h
  unfold vJoin at h
  split at h
  · rename_i a w
    cases q : seqItems w st with
    | none => rw [q] at h; exact h.elim
    | some ys =>
      rw [q] at h
      dsimp only at h
      cases q2 : strsOf ys with
      | none => rw [q2] at h; exact h.elim
      | some zs =>
        rw [q2] at h
        dsimp only at h
        split at h
        · rename_i hz
          obtain ⟨y, rfl, hy⟩ := hv.one
          obtain ⟨p, ws, rfl, sq, hw⟩ := seqItems_ok rs hy q
          rw [strsOf_eq hw q2] at sq
          rw [ho.str] at rx
          exact mt_join pins s σ H _ _ v us Q I rx rv ⟨a, p, zs, rfl, rfl, sq, hz, h ρ H _ (Ext.refl _ _) rs (.d (.str _))⟩
        · exact h.elim
  · exact h.elim
def vStarts (f : Str → Str → Bool) : VM := fun v vs st => match v, vs with
  | .d (.str a), [.d (.str b)] => some (.d (.bool (f a b)), st)
  | _, _ => none
theorem vStarts_ok {id : String} {f : Str → Str → Bool} (hm : MtR X id fun x xs H Q => ∃ a b, x = .str a ∧ xs = [.str b] ∧ Q (.bl (f a b)) H) : MtR X id (rVM X (vStarts f)) := by
  intro pins s σ H x xs v us Q I rx rv h
  obtain ⟨ρ, st, o, vs, rs, ho, hv, h⟩ := h
  unfold vStarts at h
  split at h
  · rename_i a b
    obtain ⟨y, rfl, hy⟩ := hv.one
    rw [hy.str] at rv
    rw [ho.str] at rx
    exact hm pins s σ H _ _ v us Q I rx rv ⟨a, b, rfl, rfl, h ρ H _ (Ext.refl _ _) rs (.d (.bl _))⟩
  · exact h.elim
def vPartition : VM := fun v vs st => match v, vs with
  | .d (.str a), [.d (.str b)] => if b.length != 0 && decide (a.length ≤ 1000000) then some (mkTup [.d (.str (Txt.partition a b).1), .d (.str (Txt.partition a b).2.1), .d (.str (Txt.partition a b).2.2)], st) else none
  | _, _ => none
theorem mt_partition_ok : MtR X "str.partition" (rVM X vPartition) := by
  intro pins s σ H x xs v us Q I rx rv h
  obtain ⟨ρ, st, o, vs, rs, ho, hv, h⟩ := h
  unfold vPartition at h
  split at h
  · rename_i a b
    split at h
    · rename_i hc
      simp only [Bool.and_eq_true, bne_iff_ne, ne_eq, decide_eq_true_eq] at hc
      obtain ⟨y, rfl, hy⟩ := hv.one
      rw [hy.str] at rv
      rw [ho.str] at rx
      have := mil2
      exact mt_partition pins s σ H _ _ v us Q I rx rv ⟨a, b, rfl, rfl, by simpa using hc.1, by omega, fun p n => h ρ _ _ (rs.ext n) (rs.new n) (new_tup rs (VRs.strs [_, _, _]) n)⟩
    · exact h.elim
  · exact h.elim

/-! ### the lesser, the greater of two ints -/
def vI2 (f : Int → Int → Int) : VB := fun vs st => match vs with
  | [.d (.int i), .d (.int j)] => some (.d (.int (f i j)), st)
  | _ => none
theorem vI2_ok {id : String} {f : Int → Int → Int} (hm : CallR X (.builtin id) fun xs H Q => ∃ i j, xs = [.int i, .int j] ∧ Q (.int (f i j)) H) : CallR X (.builtin id) (rVB X (vI2 f)) := by
  intro pins s σ H xs us Q I r h
  obtain ⟨ρ, st, vs, rs, hv, h⟩ := h
  unfold vI2 at h
  split at h
  · rename_i i j
    obtain ⟨y, z, rfl, hy, hz⟩ := hv.two
    rw [hy.int, hz.int] at r
    exact hm pins s σ H _ us Q I r ⟨i, j, rfl, h ρ H _ (Ext.refl _ _) rs (.d (.int _))⟩
  · exact h.elim
def iMin (i j : Int) : Int := if j < i then j else i
def iMax (i j : Int) : Int := if j > i then j else i
theorem call_min_ok (hc : X.calm = true) : CallR X (.builtin "min") (rVB X (vI2 iMin)) := vI2_ok (call_min2 hc)
theorem call_max_ok (hc : X.calm = true) : CallR X (.builtin "max") (rVB X (vI2 iMax)) := vI2_ok (call_max2 hc)
end
end Sr
/-! sorted of tuples that begin with a text: what stands behind unlike texts need not be alike. -/
namespace PySem.W
open PySem PySem.Calls PyProof.Rows
/-- both begin with a text; behind the same text they are alike -/
def headB (d e : PyData) : Bool := match d, e with
  | .tuple (.str a :: r), .tuple (.str b :: t) => !decide (a = b) || alikeAll r t
  | _, _ => false
def Headed (ds : List PyData) : Prop := ∀ d ∈ ds, ∀ e ∈ ds, headB d e = true
theorem headB_ok {d e : PyData} (h : headB d e = true) : ∃ a r b t, d = .tuple (.str a :: r) ∧ e = .tuple (.str b :: t) ∧ (a = b → alike d e = true) := by
  unfold headB at h
  split at h
  · rename_i a r b t
    refine ⟨a, r, b, t, rfl, rfl, fun q => ?_⟩
    subst q
    have h : alikeAll r t = true := by simpa using h
    show alikeAll (.str a :: r) (.str a :: t) = true
    rw [alikeAll, h]
    rfl
  · cases h
theorem first_text {h : Heap} {v : Value} {a b : Str} {r t : List PyData} {as bs : List Addr} (p : Reads h v (.tuple (.str a :: r)) as) (q : Reads h v (.tuple (.str b :: t)) bs) : a = b := by
  cases p with
  | tuple p1 p2 p3 p4 =>
    cases q with
    | tuple q1 q2 q3 q4 =>
      have e := Option.some.inj (p1.symm.trans q1)
      subst e
      rw [p3] at q3
      injection q3 with e1 e2
      subst e1
      generalize hl : Array.toList _ = l at p4 q4
      cases p4 with
      | cons p5 _ =>
        cases q4 with
        | cons q5 _ =>
          cases p5
          cases q5
          rfl
theorem headed_one {h : Heap} {d e : PyData} {v : Value} {as bs : List Addr} (k : headB d e = true) (p : Reads h v d as) (q : Reads h v e bs) : d = e := by
  obtain ⟨a, r, b, t, rfl, rfl, z⟩ := headB_ok k
  exact alike_unique _ _ _ _ _ (z (first_text p q)) p q
theorem headed_key {h : Heap} {ds : List PyData} (H : Headed ds) {v : Value} {d : PyData} {as : List Addr} (hd : d ∈ ds) (r : Reads h v d as) : (dataKind h ds).keyOf v = some (keyToks d) := by
  cases z : (dataKind h ds).keyOf v with
  | some k =>
    obtain ⟨e, bs, he, p, rfl⟩ := dataKind_inv z
    rw [headed_one (H e he d hd) p r]
    rfl
  | none =>
    have q : ∃ e, e ∈ ds ∧ ∃ bs, Reads h v e bs := ⟨d, hd, as, r⟩
    unfold dataKind at z
    dsimp only at z
    rw [dif_pos q] at z
    cases z
section
variable {prog : Program} {w : World} {A : Around} {s : Shared}
theorem headed_lt {b : Bool} (hb : b = true) {Q : Bool → Shared → Prop} {a c : Str} {r t : List PyData} {vs ws : List Value} {as bs : List Addr} {fin : Bool} (p : ReadsAll s.heap vs (.str a :: r) as) (q : ReadsAll s.heap ws (.str c :: t) bs)
    (hz : alikeAll (.str a :: r) (.str c :: t) = true ∨ a ≠ c) (hu : A.units + min (PyData.depthAll (.str a :: r)) (PyData.depthAll (.str c :: t)) < cLine) (hf : fin = decide ((PyData.str a :: r).length < (PyData.str c :: t).length))
    (h : Q (PyProof.Rows.lexLt itemOrd (keyToksAll (.str a :: r)) (keyToksAll (.str c :: t))) s) : KatLex prog w A b fin Q (vs.zip ws) 0 s := by
  rcases hz with hz | hz
  · exact katLex_alike _ _ 0 _ _ _ _ p q hz hu (fun _ _ x r' t' e => by cases e; intro z; cases z) hf h
  · have h1 : alike (.str a) (.str c) = true := rfl
    have hx : PyData.eqv (.str a) (.str c) = false := by
      show (a == c) = false
      simpa using hz
    have h0 : A.units + min (PyData.str a).depth (PyData.str c).depth < cLine := by
      have e : min (PyData.str a).depth (PyData.str c).depth = 0 := by simp [PyData.depth]
      omega
    cases p with
    | cons p1 p2 =>
      cases q with
      | cons q1 q2 =>
        rw [List.zip_cons_cons]
        refine kat_cons (eqAt_alike _ _ A s _ _ _ _ p1 q1 h1 h0 prog w _ _ ?_)
        rw [hx]
        rw [dataLt_all_no h1 hx] at h
        exact kat_no (oneLt_alike (fun _ xs z => by cases z) p1 q1 h1 (by intro z; cases z) h0 h)
/-- such values can be sorted -/
theorem SortsAt.headed {vs : List Value} {ds : List PyData} (e : EachIs (fun v d => ∃ as, Reads s.heap v d as) vs ds) (H : Headed ds) (hu : ∀ d, d ∈ ds → A.units + d.depth < cLine) : SortsAt prog w A s (dataKind s.heap ds) vs := by
  have form : ∀ d ∈ ds, ∃ a r, d = .tuple (.str a :: r) := fun d hd => by
    obtain ⟨a, r, _, _, h, _⟩ := headB_ok (H d hd d hd)
    exact ⟨a, r, h⟩
  refine ⟨fun v hv => ?_, tuples' true, fun E x y ka kb Q ha hb hq => ?_, fun h2 E Q hq => ?_⟩
  · obtain ⟨d, hd, as, r⟩ := e.left v hv
    exact ⟨_, headed_key H hd r⟩
  · obtain ⟨d, as, hd, ra, rfl⟩ := dataKind_inv ha
    obtain ⟨d', as', hd', rb, rfl⟩ := dataKind_inv hb
    obtain ⟨a, r, c, t, rfl, rfl, z⟩ := headB_ok (H d hd d' hd')
    have hq' : Q (dataLt (.tuple (.str a :: r)) (.tuple (.str c :: t))) s := hq
    rw [dataLt_tuple] at hq'
    have room : A.units + min (PyData.depthAll (.str a :: r)) (PyData.depthAll (.str c :: t)) < cLine := by
      have h1 := hu _ hd
      have e1 : (PyData.tuple (.str a :: r)).depth = PyData.depthAll (.str a :: r) + 1 := rfl
      have h2 := Nat.min_le_left (PyData.depthAll (.str a :: r)) (PyData.depthAll (.str c :: t))
      omega
    cases ra with
    | tuple p1 p2 p3 p4 =>
      cases rb with
      | tuple q1 q2 q3 q4 =>
        have n1 := SeqAt.ReadsAll.length _ _ _ p4
        have n2 := SeqAt.ReadsAll.length _ _ _ q4
        refine kat_lt p1 p3 q1 q3 (headed_lt rfl p4 q4 ?_ room ?_ hq')
        · by_cases g : a = c
          · exact .inl (z g)
          · exact .inr g
        · rw [← n1, ← n2, Array.length_toList, Array.length_toList]
  · obtain ⟨fs, t1, t2, t3⟩ := each_katTups e fun d hd => by
      obtain ⟨a, r, h⟩ := form d hd
      exact ⟨_, _, h⟩
    refine kat_kind (T := .type "str") t1 (by omega) (fun f hf => ?_) (beq_self_eq_true _) hq
    obtain ⟨x, r, as, m1, m2⟩ := t3 f hf
    obtain ⟨a, r', h⟩ := form _ m1
    cases h
    exact looks_reads m2
theorem sorted_headed {E : Value → Shared → Prop} {β : Type} {vs : List Value} {bs : List β} {enc : β → PyData} {R : Value → β → Prop} {l : Addr} {Q : Value → Shared → Prop} (H : Headed (bs.map enc)) (hl : s.heap.IsList l vs.toArray) (e : EachIs R vs bs) (er : EachIs (fun v b => ∃ as, Reads s.heap v (enc b) as) vs bs)
    (hz : bs.length ≤ sizeLine) (hu : ∀ b, b ∈ bs → A.units + 2 + (enc b).depth < cLine) (h : ∀ out, out.length = bs.length → EachIs R out (bs.mergeSort (dataLe false enc)) → Q (.ref (s.heap.objs.size + 1)) { s with heap := sortedAll s.heap vs (List.toArray out) }) :
    wpAny (model prog w) A (call (.builtin "sorted") [.ref l]) Q E s := by
  have now : EachIs (fun v d => ∃ as, Reads (sortingHeap (copyHeap s.heap vs) (s.heap.objs.size + 1) vs) v d as) vs (bs.map enc) :=
    each_map enc (er.mono fun v b ⟨as, r⟩ => ⟨as, Reads.keeps (fun a o z => sorting_copy_old z) r⟩)
  have S := SortsAt.headed (prog := prog) (w := w) (A := A.in1.in1) (s := { s with heap := sortingHeap (copyHeap s.heap vs) (s.heap.objs.size + 1) vs }) now H (fun d hd => by
    obtain ⟨b, hb, rfl⟩ := List.mem_map.mp hd
    exact hu b hb)
  have keys : EachIs (fun v d => (dataKind (sortingHeap (copyHeap s.heap vs) (s.heap.objs.size + 1) vs) (bs.map enc)).keyOf v = some (keyToks d)) vs (bs.map enc) :=
    (each_mem now).mono fun v d ⟨⟨as, r⟩, hd⟩ => headed_key H hd r
  have out := sortVals_each (rev := false) (κ := dataKind (sortingHeap (copyHeap s.heap vs) (s.heap.objs.size + 1) vs) (bs.map enc)) (fun b => keyToks (enc b)) e (each_of_map enc keys)
  exact sorted_vals hl S (e.length ▸ hz) (h _ ((sortVals_length false rfl).trans e.length) out)
/-- alike, or headed -/
theorem sorted_kind {E : Value → Shared → Prop} {β : Type} {vs : List Value} {bs : List β} {enc : β → PyData} {R : Value → β → Prop} {l : Addr} {Q : Value → Shared → Prop} (S : (AllAlike (bs.map enc) ∧ Sortable (bs.map enc)) ∨ Headed (bs.map enc)) (hl : s.heap.IsList l vs.toArray) (e : EachIs R vs bs) (er : EachIs (fun v b => ∃ as, Reads s.heap v (enc b) as) vs bs)
    (hz : bs.length ≤ sizeLine) (hu : ∀ b, b ∈ bs → A.units + 2 + (enc b).depth < cLine) (h : ∀ out, out.length = bs.length → EachIs R out (bs.mergeSort (dataLe false enc)) → Q (.ref (s.heap.objs.size + 1)) { s with heap := sortedAll s.heap vs (List.toArray out) }) :
    wpAny (model prog w) A (call (.builtin "sorted") [.ref l]) Q E s := by
  rcases S with ⟨h1, h2⟩ | H
  · exact sorted_data hl e er h1 h2 hz hu h
  · exact sorted_headed H hl e er hz hu h
end
end PySem.W
/-! Sorting data; the least by length. -/
namespace Sr
open PySem L2

/-! ### sorting -/
def insB {α : Type} (le : α → α → Bool) (a : α) : List α → List α
  | [] => [a]
  | b :: r => if le a b then a :: b :: r else b :: insB le a r
def insSort {α : Type} (le : α → α → Bool) : List α → List α
  | [] => []
  | a :: r => insB le a (insSort le r)
theorem insB_cut {α : Type} {le : α → α → Bool} {a : α} : ∀ {l1 l2 : List α}, (∀ b ∈ l1, (!le a b) = true) → (∀ b ∈ l2, le a b = true) → insB le a (l1 ++ l2) = l1 ++ a :: l2
  | [], [], _, _ => rfl
  | [], b :: l2, _, h => by
    show (if le a b then a :: b :: l2 else b :: insB le a l2) = _
    rw [if_pos (h b List.mem_cons_self)]
    rfl
  | b :: l1, l2, h, k => by
    have hb := h b List.mem_cons_self
    show (if le a b then a :: b :: (l1 ++ l2) else b :: insB le a (l1 ++ l2)) = _
    rw [if_neg (by simpa using hb), insB_cut (fun c hc => h c (List.mem_cons_of_mem _ hc)) k]
    rfl
theorem insSort_eq {α : Type} {le : α → α → Bool} (T : PySem.W.TotalLe le) : ∀ l : List α, insSort le l = l.mergeSort le
  | [] => by rw [List.mergeSort_nil]; rfl
  | a :: r => by
    have tr : ∀ a b c : α, le a b = true → le b c = true → le a c = true := T.trans
    have tt : ∀ a b : α, (le a b || le b a) = true := fun a b => by
      rcases T.total a b with h | h <;> simp [h]
    obtain ⟨l1, l2, e1, e2, h1⟩ := List.mergeSort_cons tr tt a r
    show insB le a (insSort le r) = _
    rw [insSort_eq T r, e1, e2]
    refine insB_cut h1 fun b hb => ?_
    have p := List.pairwise_mergeSort tr tt (a :: r)
    rw [e1] at p
    exact (List.pairwise_cons.mp (List.pairwise_append.mp p).2.1).1 b hb
def alikeL (ds : List PyData) : Bool := ds.all fun d => ds.all fun e => PySem.W.alike d e
def headL (ds : List PyData) : Bool := ds.all fun d => ds.all fun e => PySem.W.headB d e
def isTup1 : PyData → Bool
  | .tuple (_ :: _) => true
  | _ => false
def noTup : PyData → Bool
  | .none => false
  | .tuple _ => false
  | _ => true
/-- such data have an order -/
def kindL (ds : List PyData) : Bool := alikeL ds && (ds.all isTup1 || ds.all noTup) || headL ds
def leP (p q : PV × PyData) : Bool := !PySem.W.dataLt q.2 p.2
def vSortedL (m : Bool) : VB := fun vs st => match vs with
  | [v] => if isList v st then match seqItems v st with
    | some xs => match frzL (frz 6 st) xs with
      | some ds => if kindL ds && (ds.all fun d => d.plain && decide (d.depth ≤ 100)) && decide (ds.length ≤ 1000000) then newL m ((insSort leP (xs.zip ds)).map (·.1)) st else none
      | none => none
    | none => none
    else none
  | _ => none
section
variable {X : Cx}
theorem frzL_len {f : PV → Option PyData} : ∀ {xs : List PV} {ds : List PyData}, frzL f xs = some ds → xs.length = ds.length
  | [], ds, e => by
    have e := Option.some.inj e
    subst e
    rfl
  | x :: xs, ds, e => by
    obtain ⟨d, es, rfl, _, h2⟩ := frzL_cons e
    rw [List.length_cons, List.length_cons, frzL_len h2]
/-- an item: its value, as data, in the abstract heap -/
structure It3 where
  p : PV
  d : PyData
  x : V
def RI (ρ : Cs) (H : Hp) (X : Cx) (u : Value) (b : It3) : Prop := RelV b.x u ∧ VR X.K ρ H X.mg b.p b.x
theorem each3 {pins : List (Addr × Obj)} {σ : L2.St} {H : Hp} {s : Shared} {ρ : Cs} {st : Store} (I : Inv X pins σ H s) (rs : RS X.K ρ H X.mg st) : ∀ {xs : List PV} {vs : List V} {us : List Value} {ds : List PyData}, VRs X.K ρ H X.mg xs vs → Vals vs us → frzL (frz 6 st) xs = some ds → (∀ d ∈ ds, d.plain = true) →
    ∃ bs : List It3, bs.map (fun b => (b.p, b.d)) = xs.zip ds ∧ bs.map (·.d) = ds ∧ bs.map (·.p) = xs ∧ PySem.W.EachIs (RI ρ H X) us bs ∧ PySem.W.EachIs (fun v b => ∃ as, PySem.Reads s.heap v b.d as) us bs
  | [], _, _, ds, .nil, .nil, e, _ => by
    have e := Option.some.inj e
    subst e
    exact ⟨[], rfl, rfl, rfl, .nil, .nil⟩
  | x :: xs, v :: vs, u :: us, ds, .cons h t, .cons r q, e, hp => by
    obtain ⟨d, es, rfl, e1, e2⟩ := frzL_cons e
    obtain ⟨bs, b1, b2, b3, b4, b5⟩ := each3 I rs t q e2 fun d hd => hp d (List.mem_cons_of_mem _ hd)
    have dp := frz_dp rs h e1 (hp d List.mem_cons_self)
    obtain ⟨as, rd⟩ := Dp.reads I d v u dp r
    exact ⟨⟨x, d, v⟩ :: bs, by rw [List.map_cons, b1]; rfl, by rw [List.map_cons, b2], by rw [List.map_cons, b3], .cons ⟨r, h⟩ b4, .cons ⟨as, rd⟩ b5⟩
theorem outs3 {ρ : Cs} {H : Hp} : ∀ {us : List Value} {bs : List It3}, PySem.W.EachIs (RI ρ H X) us bs → Vals (bs.map (·.x)) us ∧ VRs X.K ρ H X.mg (bs.map (·.p)) (bs.map (·.x))
  | _, _, .nil => ⟨.nil, .nil⟩
  | _, _, .cons h t => ⟨.cons h.1 (outs3 t).1, .cons h.2 (outs3 t).2⟩
theorem call_sortedL_ok (hu : X.A.units + 150 < cLine) {m : Bool} : CallR X (.builtin "sorted") (rVB X (vSortedL m)) := by
  intro pins s σ H xs us Q I r h
  obtain ⟨ρ, st, vs, rs, hv, h⟩ := h
  unfold vSortedL at h
  split at h
  · rename_i v
    split at h
    · rename_i hl
      obtain ⟨z, rfl, hz⟩ := hv.one
      obtain ⟨a, ws, ys, rfl, g1, g2, g3⟩ := isList_ok rs hz hl
      rw [g2] at h
      dsimp only at h
      cases q : frzL (frz 6 st) ys with
      | none => rw [q] at h; exact h.elim
      | some ds =>
        rw [q] at h
        dsimp only at h
        split at h
        · rename_i hc
          simp only [Bool.and_eq_true, List.all_eq_true, decide_eq_true_eq] at hc
          obtain ⟨⟨c0, c3⟩, c4⟩ := hc
          obtain ⟨hz2, its, nn, rv, hlen, hget⟩ := lstR I g1
          obtain rfl := Vals.ref1 r
          obtain ⟨bs, b1, b2, b3, b4, b5⟩ := each3 I rs g3 rv q fun d hd => (c3 d hd).1
          have hlb : bs.length = ds.length := by rw [← b2, List.length_map]
          have hle : bs.mergeSort (PySem.W.dataLe false (·.d)) = insSort (fun a b => leP (a.p, a.d) (b.p, b.d)) bs :=
            (insSort_eq (PySem.W.sortLe_total (PyProof.Rows.listOrd PyProof.Rows.itemOrd) false fun b : It3 => PySem.W.keyToks b.d) bs).symm
          have kd : (PySem.W.AllAlike (bs.map (·.d)) ∧ PySem.W.Sortable (bs.map (·.d))) ∨ PySem.W.Headed (bs.map (·.d)) := by
            rw [b2]
            unfold kindL alikeL headL at c0
            simp only [Bool.and_eq_true, Bool.or_eq_true, List.all_eq_true] at c0
            rcases c0 with ⟨c1, c2⟩ | c1
            · refine .inl ⟨c1, ?_⟩
              rcases c2 with c2 | c2
              · refine .inl fun d hd => ?_
                have := c2 d hd
                unfold isTup1 at this
                split at this
                · exact ⟨_, _, rfl⟩
                · cases this
              · refine .inr fun d hd => ?_
                have := c2 d hd
                constructor
                · rintro rfl; cases this
                · rintro xs rfl; cases this
            · exact .inr c1
          refine PySem.W.sorted_kind (l := a) (vs := its) (bs := bs) (enc := (·.d)) (R := RI ρ H X) kd ⟨_, hget, rfl, nn, rfl⟩ b4 b5 (by rw [hlb]; exact Nat.le_trans c4 mil) (fun b hb => ?_) fun out h1 h2 => ?_
          · have := (c3 b.d (by rw [← b2]; exact List.mem_map.mpr ⟨b, hb, rfl⟩)).2
            omega
          · rw [hle] at h2
            obtain ⟨o1, o2⟩ := outs3 h2
            have insMap : ∀ l : List It3, (insSort (fun a b => leP (a.p, a.d) (b.p, b.d)) l).map (fun b => (b.p, b.d)) = insSort leP (l.map fun b => (b.p, b.d)) := by
              have ib : ∀ (a : It3) (l : List It3), (insB (fun a b => leP (a.p, a.d) (b.p, b.d)) a l).map (fun b => (b.p, b.d)) = insB leP (a.p, a.d) (l.map fun b => (b.p, b.d)) := by
                intro a l
                induction l with
                | nil => rfl
                | cons b l ih =>
                  show ((if leP (a.p, a.d) (b.p, b.d) = true then a :: b :: l else b :: insB _ a l) : List It3).map _ = if leP (a.p, a.d) (b.p, b.d) = true then _ else _
                  split
                  · rfl
                  · rw [List.map_cons, ih]
              intro l
              induction l with
              | nil => rfl
              | cons b l ih =>
                show (insB _ b (insSort _ l)).map _ = insB leP (b.p, b.d) (insSort leP (l.map _))
                rw [ib, ih]
            have ep : (insSort (fun a b => leP (a.p, a.d) (b.p, b.d)) bs).map (·.p) = (insSort leP (ys.zip ds)).map (·.1) := by
              rw [← b1, ← insMap, List.map_map]
              rfl
            rw [ep] at o2
            obtain ⟨ee, he'⟩ := PyProof.Rows.sortedAll_at s.heap its out.toArray
            have hlo : ((insSort (fun a b => leP (a.p, a.d) (b.p, b.d)) bs).map (·.x)).length ≤ sizeLine := by
              rw [o1.length, h1, hlb]
              exact Nat.le_trans c4 mil
            exact ⟨.ref _, upd H (s.heap.objs.size + 1) (.lst ((insSort (fun a b => leP (a.p, a.d) (b.p, b.d)) bs).map (·.x))), I.laid (t' := s.toks) (fun _ _ => PyProof.Rows.sortedAll_old) (Nat.le_succ _) ⟨hlo, out, ee, o1, he'⟩, rfl, newL_ok rs o2 h _ (I.hok.fresh (Nat.le_succ _))⟩
        · exact h.elim
    · exact h.elim
  · exact h.elim
end
end Sr
/-! min(xs, key=len). -/
namespace Sr
open PySem L2

section
variable {prog : Program} {w : World} {A : Around} {E : Value → Shared → Prop} {s : Shared}
/-- later, with the old objects as they were -/
def Lat (s s' : Shared) : Prop := ∃ h' tk, s' = { s with heap := h', toks := tk } ∧ ∀ b o, s.heap.get? b = some o → h'.get? b = some o
def Lens (prog : Program) (w : World) (A : Around) (s : Shared) (vs : Array Value) (kf : Nat → Nat) : Prop := ∀ (i : Nat) (v : Value), vs[i]? = some v → ∀ (s' : Shared) (Q : Value → Shared → Prop) (E : Value → Shared → Prop), Lat s s' → (∀ t, Q (.int (kf i) t) { s' with toks := s'.toks + 1 + 1 }) → wpAny (model prog w) A (call (.builtin "len") [v]) Q E s'
theorem min_len {l : Addr} {vs : Array Value} {kf : Nat → Nat} {Q : Value → Shared → Prop} (hh : A.handled = none) (hl : s.heap.IsList l vs) (hn : 0 < vs.size) (hk : Lens prog w A.in1 s vs kf)
    (h : ∀ v s', vs[PySem.argBest (fun i j => decide (kf i < kf j)) (vs.size - 1)]? = some v → Lat s s' → Q v s') :
    wpAny (model prog w) A (call (.builtin "min") [.ref l] [(Str.ofString "key", .builtin "len")]) Q E s := by
  refine PySem.call_min_walkKB (PySem.W.iter_listW (A := A.in1) hh hl fun s₂ e W st hfp hw hkp => ?_)
  have hsz : s₂.heap.objs.size = s.heap.objs.size + 1 := by rw [e]; exact Heap.size_push ..
  refine ⟨_, _, _, _, _, _, _, Lat s, fun i k _ => ∃ t, k = .int (kf i) t, _, rfl, W, st, hfp, hn, ?_, ⟨_, s.toks, e, fun b o q => by have := hkp b o q; rw [e] at this; exact this⟩, fun v s' hv hj => h v s' hv hj⟩
  refine ⟨?_, ?_, ?_, ?_⟩
  · rintro s1 s2 ⟨h1, t1, rfl, k1⟩ m
    refine ⟨s2.heap, s2.toks, ?_, fun b o q => m.heap b o (fun hb => ?_) (k1 b o q)⟩
    · have e1 := m.gens
      have e2 := m.drawn
      have e3 := m.os
      cases s2
      dsimp only at e1 e2 e3
      rw [e1, e2, e3]
    · have hlt := Heap.lt_size q
      rcases List.mem_cons.mp hb with hb | hb
      · rw [hb, hsz] at hlt
        exact absurd hlt (Nat.not_lt.mpr (Nat.le_succ _))
      · rw [List.mem_singleton.mp hb] at hlt
        exact absurd hlt (Nat.lt_irrefl _)
  · rintro i k s1 s2 hv _
    exact hv
  · intro i v s1 o Q' E' hi hv hj hst hS hq
    refine hk i v hv s1 Q' E' hj fun t => hq _ _ ?_ ?_ hS ⟨t, rfl⟩ fun j k' z => z
    · obtain ⟨h1, t1, rfl, k1⟩ := hj
      exact ⟨h1, _, rfl, k1⟩
    · exact W.frame (i + 1) s1 s1.heap _ hst (by omega) fun b _ o q => q
  · rintro i j ki kj s1 Q' E' hj ⟨t, rfl⟩ ⟨u, rfl⟩ hq
    refine PySem.P.lt_int ?_
    have : decide ((kf i : Int) < (kf j : Int)) = decide (kf i < kf j) := by simp
    rw [this]
    exact hq
end

/-- the first of the shortest -/
def leastLen (x : PV × Nat) : List (PV × Nat) → PV × Nat
  | [] => x
  | y :: r => leastLen (if y.2 < x.2 then y else x) r
def lenOf (v : PV) (st : Store) : Option Nat := (seqItems v st).map List.length
def lensOf (st : Store) : List PV → Option (List (PV × Nat))
  | [] => some []
  | v :: r => match lenOf v st, lensOf st r with
    | some n, some ps => some ((v, n) :: ps)
    | _, _ => none
def vMinLen : V1 := fun v st => if isList v st then match seqItems v st with
  | some xs => match lensOf st xs with
    | some (p :: ps) => some ((leastLen p ps).1, st)
    | _ => none
  | none => none
  else none
def dMinLen (d : Den) : Den := fun fr st => (d fr st).bind fun v st1 => lift (vMinLen v st1)
section
variable {X : Cx} {E : WX} {e : Expr} {d : Den}
theorem lensOf_ok {ρ : Cs} {H : Hp} {st : Store} (rs : RS X.K ρ H X.mg st) : ∀ {xs : List PV} {vs : List V} {ps : List (PV × Nat)}, VRs X.K ρ H X.mg xs vs → lensOf st xs = some ps →
    ps.length = xs.length ∧ ∀ (i : Nat) (p : PV × Nat), ps[i]? = some p → ∃ v, vs[i]? = some v ∧ VR X.K ρ H X.mg p.1 v ∧ ∃ a ys, v = .ref a ∧ (SqL X.K H a ys ∨ SqT X.K H a ys) ∧ ys.length = p.2
  | [], _, ps, .nil, e => by
    have e := Option.some.inj e
    subst e
    exact ⟨rfl, fun i p q => by simp at q⟩
  | x :: xs, v :: vs, ps, .cons h t, e => by
    have e : (match lenOf x st, lensOf st xs with
      | some n, some ps => some ((x, n) :: ps)
      | _, _ => none) = some ps := e
    cases q1 : lenOf x st with
    | none => rw [q1] at e; cases e
    | some n =>
      cases q2 : lensOf st xs with
      | none => rw [q1, q2] at e; cases e
      | some qs =>
        rw [q1, q2] at e
        have e := Option.some.inj e
        subst e
        obtain ⟨l1, l2⟩ := lensOf_ok rs t q2
        refine ⟨by rw [List.length_cons, List.length_cons, l1], fun i p q => ?_⟩
        cases i with
        | succ j => exact l2 j p q
        | zero =>
          cases q
          unfold lenOf at q1
          cases z : seqItems x st with
          | none => rw [z] at q1; cases q1
          | some ys =>
            rw [z] at q1
            cases q1
            obtain ⟨a, ws, e1, sq, hw⟩ := seqItems_ok rs h z
            exact ⟨v, rfl, h, a, ws, e1, sq, hw.length.symm⟩
theorem leastLen_fold : ∀ (ps : List (PV × Nat)) (x : PV × Nat), leastLen x ps = ps.foldl (fun a y => if (fun y a : PV × Nat => decide (y.2 < a.2)) y a then y else a) x
  | [], _ => rfl
  | y :: ps, x => by
    show leastLen (if y.2 < x.2 then y else x) ps = _
    rw [leastLen_fold ps, List.foldl_cons]
    simp
theorem Lat.inv {pins : List (Addr × Obj)} {σ : L2.St} {H : Hp} {s s' : Shared} (I : Inv X pins σ H s) (h : Lat s s') : Inv X pins σ H s' := by
  obtain ⟨h', tk, rfl, k⟩ := h
  exact I.kept k
/-- the kept names of a call with a key -/
theorem se_minLen (hc : X.calm = true) {p p2 kp pos : Pos} (hg : Gl X "min") (hm : X.mg "min" = none) (hgl : Gl X "len") (hml : X.mg "len" = none) (he : PE X e (tE X E d)) (hs : noStar [e] = true) :
    PE X (.Call (.Name "min" p) [e] [⟨some "key", .Name "len" p2, kp⟩] pos) (tE X E (dMinLen d)) := by
  refine ⟨fun pins s σ H Q I h => ?_⟩
  refine wpAny_Call_Name_kw (ld_blt (u := .builtin "min") I hg hm (by decide +kernel) ?_)
  refine PyProof.Rows.callWith_kw ?_ (by rw [(star_cons hs).1]; rfl) (star_any hs) rfl rfl
  obtain ⟨ρ, fr, st, A, h⟩ := h
  have ha : PA X [e] (tEs X E (dCons d dNil)) := sa_cons he sa_nil hs
  refine thn (ha.run pos pins s σ H (fun vs H1 => ∃ v ρ1 st1 x, vs = [x] ∧ At X σ H1 ρ1 fr st1 ∧ Ext ρ H ρ1 H1 ∧ VR X.K ρ1 H1 X.mg v x ∧ (lift (vMinLen v st1)).wp (fun v st' => ∀ ρ' H' x, Ext ρ H ρ' H' → RS X.K ρ' H' X.mg st' → VR X.K ρ' H' X.mg v x → Q x H') (okX X E σ ρ H)) I
    ⟨ρ, fr, st, A, ?_⟩) fun us s1 ⟨vs, H1, I1, r1, v, ρ1, st1, x, e1, A1, e2, v1, hq⟩ => ?_
  · have h2 := Res.wp_bind h
    show (((d fr st).bind fun v st1 => (dNil fr st1).bind fun vs st2 => .ok (v :: vs) st2) : Res (List PV)).wp _ _
    cases q : d fr st with
    | bad => rw [q] at h2; exact h2.elim
    | exc x st1 => rw [q] at h2; exact h2
    | ok v st1 =>
      rw [q] at h2
      show ∀ ρ' H' x, _ → _ → VRs X.K ρ' H' X.mg [v] x → _
      intro ρ' H' x e1 r1 v1
      obtain ⟨y, rfl, hy⟩ := v1.one
      exact ⟨v, ρ', st1, y, rfl, A.step e1 r1, e1, hy, h2⟩
  · subst e1
    show wpAny _ _ (evalAll ((backToKw pos (keywordEach [⟨some "key", .Name "len" p2, kp⟩] X.env)).map (·.2))) _ _ s1
    refine wpAny_evalAll_cons (wpAny_bind (ld_blt (u := .builtin "len") I1 hgl hml (by decide +kernel) (wpAny_bind (wpAny_standAt (wpAny_pure (wpAny_evalAll_nil ?_))))))
    obtain ⟨u, rfl, ru⟩ := L2.Vals.one r1
    cases hz : vMinLen v st1 with
    | none => rw [hz] at hq; exact hq.elim
    | some res =>
      rw [hz] at hq
      unfold vMinLen at hz
      split at hz
      · rename_i hl
        obtain ⟨a, ws, ys, rfl, g1, g2, g3⟩ := isList_ok A1.rs v1 hl
        rw [g2] at hz
        dsimp only at hz
        cases q3 : lensOf st1 ys with
        | none => rw [q3] at hz; cases hz
        | some ps =>
          rw [q3] at hz
          cases ps with
          | nil => cases hz
          | cons p0 ps =>
            have hz := Option.some.inj hz
            subst hz
            cases ru
            obtain ⟨hz2, its, nn, rv, hlen, hget⟩ := lstR I1 g1
            obtain ⟨l1, l2⟩ := lensOf_ok A1.rs g3 q3
            have hn : its.toArray.size = ps.length + 1 := by rw [List.size_toArray, ← hlen, ← g3.length, ← l1, List.length_cons]
            have hl64 := line63
            refine min_len (kf := fun i => ((p0 :: ps).getD i (.d .none, 0)).2) (I1.ok.hd hc) (vs := its.toArray) ⟨_, hget, rfl, nn, rfl⟩ (by omega) ?_ ?_
            · intro i v' hv' s' Q' E' hlat hq'
              have hi : i < (p0 :: ps).length := by
                have := (List.getElem?_eq_some_iff.mp (show its[i]? = some v' by simpa using hv')).1
                rw [List.length_cons, ← hn, List.size_toArray]; exact this
              have hp : (p0 :: ps)[i]? = some ((p0 :: ps).getD i (.d .none, 0)) := by
                rw [List.getElem?_eq_getElem hi, List.getD_eq_getElem?_getD, List.getElem?_eq_getElem hi]; rfl
              obtain ⟨z, k1, k2, b, zs, rfl, sq, hzs⟩ := l2 i _ hp
              obtain ⟨u', hu', ru'⟩ := L2.Vals.get rv k1
              have : v' = u' := by
                have h1 : its[i]? = some v' := by simpa using hv'
                rw [h1] at hu'
                exact Option.some.inj hu'
              subst this
              cases ru'
              have I' := Lat.inv I1 hlat
              rcases sq with sq | sq
              · obtain ⟨jts, r', pl, hzz⟩ := I'.list sq
                have hlen2 := r'.length
                have := hq' (s'.toks + 1)
                dsimp only at this
                rw [← hzs, hlen2] at this
                exact Calls.call_len_list pl.isList (by simp only [List.size_toArray]; omega) (by rw [List.size_toArray]; exact this)
              · obtain ⟨jts, r', pl, hzz⟩ := I'.tuple sq
                have hlen2 := r'.length
                have := hq' (s'.toks + 1)
                dsimp only at this
                rw [← hzs, hlen2] at this
                exact PyProof.Rows.len_tuple pl (by simp only [List.size_toArray]; omega) (by rw [List.size_toArray]; exact this)
            · intro v' s' hv' hlat
              have eb : its.toArray.size - 1 = ps.length := by omega
              rw [eb] at hv'
              obtain ⟨b1, b2⟩ := PySem.W.argBest_fold (fun y a : PV × Nat => decide (y.2 < a.2)) (.d .none, 0) p0 ps ps.length (Nat.le_refl _)
              rw [List.take_length, ← leastLen_fold] at b2
              have hi := Nat.lt_succ_of_le b1
              have hp := List.getElem?_eq_getElem (l := p0 :: ps) hi
              have hpd : (p0 :: ps)[PySem.argBest (fun i j => (fun y a : PV × Nat => decide (y.2 < a.2)) ((p0 :: ps).getD i (.d .none, 0)) ((p0 :: ps).getD j (.d .none, 0))) ps.length]? = some (leastLen p0 ps) := by
                rw [← b2, List.getD_eq_getElem?_getD, hp]; rfl
              obtain ⟨z, k1, k2, _⟩ := l2 _ _ hpd
              obtain ⟨u', hu', ru'⟩ := L2.Vals.get rv k1
              have e4 : v' = u' := by
                have h1 : its[PySem.argBest (fun i j => (fun y a : PV × Nat => decide (y.2 < a.2)) ((p0 :: ps).getD i (.d .none, 0)) ((p0 :: ps).getD j (.d .none, 0))) ps.length]? = some v' := by simpa using hv'
                rw [h1] at hu'
                exact Option.some.inj hu'
              subst e4
              exact ⟨z, H1, Lat.inv I1 hlat, ru', hq ρ1 H1 z e2 A1.rs k2⟩
      · cases hz
end
end Sr
/-! isinstance of built-in kinds; sum, all; str of an int. -/
namespace Sr
open PySem L2

def tyN (v : PV) (st : Store) : Option String := match v with
  | .d .none => some "NoneType"
  | .d (.bool _) => some "bool"
  | .d (.int _) => some "int"
  | .d (.str _) => some "str"
  | .d (.list _) => some "list"
  | .d (.tuple _) => some "tuple"
  | .d (.dict _) => some "dict"
  | .tup _ => some "tuple"
  | .cell n => match st[n]? with
    | some (.lst _) => some "list"
    | some (.dic _) => some "dict"
    | some (.dit _) => some "dict"
    | _ => none
  | .fn _ => none
def kinds : List String := ["NoneType", "bool", "int", "str", "list", "tuple", "dict"]
def asks : List String := ["tuple", "str", "bool", "int"]
def isiB (n T : String) : Bool := n == T || (n == "bool" && T == "int")
theorem isiB_ok : ∀ n ∈ kinds, ∀ T ∈ asks, kitB n T = some (isiB n T) := by decide +kernel
theorem tyN_ok {X : Cx} {ρ : Cs} {H : Hp} {st : Store} {v : PV} {x : V} {n : String} (rs : RS X.K ρ H X.mg st) (h : VR X.K ρ H X.mg v x) (e : tyN v st = some n) : n ∈ kinds ∧ TyX X.K H x (.type n) := by
  have tup : ∀ {a : Addr} {vs : List V}, FzT X.K ρ H a vs → TyX X.K H (.ref a) (.type "tuple") := fun {a vs} f => by
    rcases f with ⟨f, _⟩ | ⟨o, its, m, h1, h2, _⟩
    · exact .base (.tup f)
    · exact .kTuple h1 h2
  cases v with
  | d d =>
    cases h with
    | d h =>
      cases h with
      | non => cases e; exact ⟨by decide, .base .non⟩
      | bl b => cases e; exact ⟨by decide, .base (.bl b)⟩
      | int i => cases e; exact ⟨by decide, .base (.int i)⟩
      | str y => cases e; exact ⟨by decide, .base (.str y)⟩
      | lst f _ =>
        cases e
        refine ⟨by decide, ?_⟩
        rcases f.1 with f | ⟨o, f⟩
        · exact .base (.lst f)
        · exact .base (.frz f)
      | tup f _ => cases e; exact ⟨by decide, tup f⟩
      | dic f _ _ => cases e; exact ⟨by decide, .base (.dK f)⟩
      | dit f _ _ _ => cases e; exact ⟨by decide, .base (.dT f)⟩
  | tup xs =>
    cases h with
    | tup f _ => cases e; exact ⟨by decide, tup f⟩
  | cell m =>
    cases h with
    | cell hn =>
      have e : (match st[m]? with
        | some (.lst _) => some "list"
        | some (.dic _) => some "dict"
        | some (.dit _) => some "dict"
        | _ => none) = some n := e
      cases q : st[m]? with
      | none => rw [q] at e; cases e
      | some w =>
        rw [q] at e
        obtain ⟨a, e1, e2⟩ := rs.at_ m w q
        rw [hn] at e1
        cases e1
        cases w with
        | lst xs => obtain ⟨vs, g, _⟩ := e2; cases e; exact ⟨by decide, .base (.lst g)⟩
        | dic xs => obtain ⟨vs, g, _⟩ := e2; cases e; exact ⟨by decide, .base (.dK g)⟩
        | dit xs => obtain ⟨vs, g, _⟩ := e2; cases e; exact ⟨by decide, .base (.dT g)⟩
        | _ => cases e
  | fn z => cases e
def vIsi (T : String) : V1 := fun v st => match tyN v st with
  | some n => vB2 (isiB n T) st
  | none => none
section
variable {X : Cx} {E : WX} {e : Expr} {d : Den} {p p2 pos : Pos}
theorem pe_tyName {x : Str} {T : String} (hg : Gl X x) (hm : X.mg x = none) (hv : bootBuiltins x = some (.type T)) (hn : x ≠ "__name__") (hd : (x == ("__debug__" : Str)) = false) : PE X (.Name x p) (tC (.ty T)) :=
  ⟨fun pins s σ H Q I h => ld_blt I hg hm hv ⟨.ty T, H, I, rfl, h⟩ hn hd⟩
theorem se_isi {x : Str} {T : String} (hg : Gl X "isinstance") (hm : X.mg "isinstance" = none) (hgx : Gl X x) (hmx : X.mg x = none) (hv : bootBuiltins x = some (.type T)) (hn : x ≠ "__name__") (hd : (x == ("__debug__" : Str)) = false) (hT : T ∈ asks)
    (he : PE X e (tE X E d)) (hs : noStar [e, .Name x p2] = true) : PE X (.Call (.Name "isinstance" p) [e, .Name x p2] [] pos) (tE X E (dUn (vIsi T) d)) := by
  have ha : PA X [e, .Name x p2] (tCons (tE X E d) (tCons (tC (.ty T)) tNil)) := pa_cons he (pa_cons (pe_tyName hgx hmx hv hn hd) pa_nil) (star_cons hs).1
  refine ⟨fun pins s σ H Q I h => (pe_callB call_isi hg hm (by decide +kernel) ha (by decide +kernel) (by decide +kernel) (star_cons hs).1 (star_any (star_cons (env := X.env) hs).2)).run pins s σ H Q I ?_⟩
  obtain ⟨ρ, fr, st, A, h⟩ := h
  refine tE.step A h fun v st1 ρ1 H1 y e1 A1 v1 h1 => ?_
  unfold vIsi at h1
  cases q : tyN v st1 with
  | none => rw [q] at h1; exact h1.elim
  | some n =>
    rw [q] at h1
    obtain ⟨k1, k2⟩ := tyN_ok A1.rs v1 q
    exact ⟨y, .ty T, .type n, .type T, isiB n T, rfl, .ty T, k2, kit_ty (isiB_ok n k1 T hT), h1 ρ1 H1 _ e1 A1.rs (.d (.bl _))⟩
end

/-! ### sum, all, str -/
def intsOf : List PV → Option (List Int)
  | [] => some []
  | .d (.int i) :: r => (intsOf r).map (i :: ·)
  | _ :: _ => none
def boolsOf : List PV → Option (List Bool)
  | [] => some []
  | .d (.bool i) :: r => (boolsOf r).map (i :: ·)
  | _ :: _ => none
section
variable {K : PySem.W.Frag} {ρ : Cs} {H : Hp} {mg : Str → Option Value}
theorem intsOf_eq : ∀ {xs : List PV} {vs : List V} {ys : List Int}, VRs K ρ H mg xs vs → intsOf xs = some ys → vs = ys.map V.int
  | [], _, ys, .nil, e => by
    have e := Option.some.inj e
    subst e
    rfl
  | x :: xs, _, ys, .cons h t, e => by
    cases x with
    | d y =>
      cases y with
      | int z =>
        have e : (intsOf xs).map (z :: ·) = some ys := e
        cases q : intsOf xs with
        | none => rw [q] at e; cases e
        | some l =>
          rw [q] at e
          have e := Option.some.inj e
          subst e
          rw [h.int, intsOf_eq t q, List.map_cons]
      | _ => cases e
    | _ => cases e
theorem VR.bool {b : Bool} {v : V} (h : VR K ρ H mg (.d (.bool b)) v) : v = .bl b := by
  cases h with
  | d h => cases h; rfl
theorem boolsOf_eq : ∀ {xs : List PV} {vs : List V} {ys : List Bool}, VRs K ρ H mg xs vs → boolsOf xs = some ys → vs = ys.map V.bl
  | [], _, ys, .nil, e => by
    have e := Option.some.inj e
    subst e
    rfl
  | x :: xs, _, ys, .cons h t, e => by
    cases x with
    | d y =>
      cases y with
      | bool z =>
        have e : (boolsOf xs).map (z :: ·) = some ys := e
        cases q : boolsOf xs with
        | none => rw [q] at e; cases e
        | some l =>
          rw [q] at e
          have e := Option.some.inj e
          subst e
          rw [h.bool, boolsOf_eq t q, List.map_cons]
      | _ => cases e
    | _ => cases e
end
def vSum : VB := fun vs st => match vs with
  | [v] => if isList v st then match seqItems v st with
    | some xs => (intsOf xs).map fun is => (.d (.int is.sum), st)
    | none => none
    else none
  | _ => none
def vAll : VB := fun vs st => match vs with
  | [v] => if isList v st then match seqItems v st with
    | some xs => (boolsOf xs).map fun is => (.d (.bool (is.all id)), st)
    | none => none
    else none
  | _ => none
def vStrOf : VB := fun vs st => match vs with
  | [.d (.int i)] => if i.natAbs.log2 < 1920 then some (.d (.str (toString i)), st) else none
  | [.d (.str x)] => some (.d (.str x), st)
  | _ => none
section
variable {X : Cx}
theorem call_sum_ok (hc : X.calm = true) : CallR X (.builtin "sum") (rVB X vSum) := by
  intro pins s σ H xs us Q I r h
  obtain ⟨ρ, st, vs, rs, hv, h⟩ := h
  unfold vSum at h
  split at h
  · split at h
    · rename_i hl
      obtain ⟨z, rfl, hz⟩ := hv.one
      obtain ⟨a, ws, ys, rfl, g1, g2, g3⟩ := isList_ok rs hz hl
      rw [g2] at h
      dsimp only at h
      cases q : intsOf ys with
      | none => rw [q] at h; exact h.elim
      | some is =>
        rw [q] at h
        have e := intsOf_eq g3 q
        subst e
        exact cr_sum hc pins s σ H _ us Q I r ⟨a, is, rfl, .inl g1, h ρ H _ (Ext.refl _ _) rs (.d (.int _))⟩
    · exact h.elim
  · exact h.elim
theorem call_all_ok (hc : X.calm = true) : CallR X (.builtin "all") (rVB X vAll) := by
  intro pins s σ H xs us Q I r h
  obtain ⟨ρ, st, vs, rs, hv, h⟩ := h
  unfold vAll at h
  split at h
  · split at h
    · rename_i hl
      obtain ⟨z, rfl, hz⟩ := hv.one
      obtain ⟨a, ws, ys, rfl, g1, g2, g3⟩ := isList_ok rs hz hl
      rw [g2] at h
      dsimp only at h
      cases q : boolsOf ys with
      | none => rw [q] at h; exact h.elim
      | some is =>
        rw [q] at h
        have e := boolsOf_eq g3 q
        subst e
        exact cr_all hc pins s σ H _ us Q I r ⟨a, is, rfl, .inl g1, h ρ H _ (Ext.refl _ _) rs (.d (.bl _))⟩
    · exact h.elim
  · exact h.elim
theorem call_str_ok : CallR X (.type "str") (rVB X vStrOf) := by
  intro pins s σ H xs us Q I r h
  obtain ⟨ρ, st, vs, rs, hv, h⟩ := h
  unfold vStrOf at h
  split at h
  · rename_i i
    split at h
    · rename_i hi
      obtain ⟨z, rfl, hz⟩ := hv.one
      rw [hz.int] at r
      exact call_str_int pins s σ H _ us Q I r ⟨i, rfl, hi, h ρ H _ (Ext.refl _ _) rs (.d (.str _))⟩
    · exact h.elim
  · obtain ⟨z, rfl, hz⟩ := hv.one
    rw [hz.str] at r
    exact SkE.call_str_str pins s σ H _ us Q I r ⟨_, rfl, h ρ H _ (Ext.refl _ _) rs (.d (.str _))⟩
  · exact h.elim
end
end Sr
/-! enumerate of a tuple; zip. -/
namespace Sr
open PySem L2
/-- enumerate(v) with nothing else handed in -/
theorem meets_enumB {v : Value} {o : Obj} {H : Heap → Prop} (B : Begins v o H) :
    Meets (Builtin.«enumerate.__new__» ⟨[.type "enumerate", v], []⟩) (fun _ R s => H s.heap ∧
      R (.ok (.ret (.ref (s.heap.push o).objs.size))) { s with heap := (s.heap.push o).push { cls := .type "enumerate", data := .fields #[.none, .bool false, .ref s.heap.objs.size, rawInt 0, .none, .none] } }) :=
  .of_wp fun prog w A R s told => by
    cases s with
    | mk heap gens drawn toks os =>
    have of_enum := sub_enumerate
    have first : ∀ {A' : Around} {E Q : Value → Shared → Prop}, Q (.ref heap.objs.size) ⟨heap.push o, gens, drawn, toks, os⟩ → wpAny (model prog w) A' (pyIter v) Q E ⟨heap, gens, drawn, toks, os⟩ := B.iter prog w _ _ _ _ told.1
    have last := told.2
    wp_walk using first
    refine wpAny_stack_any fun _ => wpAny_pure ?_
    split
    · rename_i kind _ _ _ _ _
      cases (kind == Value.type "enumerate") <;> (wp_walk using first; exact ⟨_, rfl, last⟩)
    · wp_walk using first
      exact ⟨_, rfl, last⟩
section
variable {prog : Program} {w : World} {A : Around} {E : Value → Shared → Prop} {s : Shared}
/-- what enumerate(t) leaves: the tuple's iterator, and what numbers it -/
def enumHeap (h : Heap) (t : Addr) : Heap := (h.push { cls := .type "tuple_iterator", data := .fields #[.ref t, .int 0 0] }).push { cls := .type "enumerate", data := .fields #[.none, .bool false, .ref h.objs.size, rawInt 0, .none, .none] }
theorem enumHeap_num (h : Heap) (t : Addr) : IsEnum (enumHeap h t) (h.objs.size + 1) h.objs.size 0 .none := by
  have at_ := Heap.get?_push_size (h.push { cls := .type "tuple_iterator", data := .fields #[.ref t, .int 0 0] }) (o := { cls := .type "enumerate", data := .fields #[.none, .bool false, .ref h.objs.size, rawInt 0, .none, .none] }) rfl
  rwa [Heap.size_push] at at_
theorem enumHeap_it (h : Heap) (t : Addr) : (enumHeap h t).IsTupleIter h.objs.size t 0 := ⟨_, Heap.get?_push_of_some _ (Heap.get?_push_size _ rfl), rfl, rfl⟩
theorem enumHeap_old {h : Heap} {t b : Addr} {o : Obj} (q : h.get? b = some o) : (enumHeap h t).get? b = some o := Heap.get?_push_of_some _ (Heap.get?_push_of_some _ q)
theorem call_enumT {t : Addr} {items : Array Value} {Q : Value → Shared → Prop} (hT : s.heap.IsTuple t items) (h : Q (.ref (s.heap.objs.size + 1)) { s with heap := enumHeap s.heap t }) : wpAny (model prog w) A (call (.type "enumerate") [.ref t]) Q E s := by
  refine callType_new F.called_enumerate (by decide) (F.typeCall_enumerate_1 _) (F.newCall_enumerate_1 _) (fun obj => F.args_object_init_2 obj _) F.entry_enumerate_new (meets_enumB (begins_tuple t items)) ⟨hT, ?_⟩
  have place : ∀ o : Obj, (s.heap.push o).objs.size = s.heap.objs.size + 1 := fun o => Heap.size_push ..
  show Shared.TypeIs _ _ _ ∧ Q _ _
  rw [place]
  exact ⟨⟨_, enumHeap_num s.heap t, rfl⟩, h⟩
end

/-- the tuple at a, its items numbered, each in a new pair -/
def IteT (K : PySem.W.Frag) (a : Addr) : It where
  go := fun i H => ∃ (xs : List V) (x : V), SqT K H a xs ∧ xs[i]? = some x
  yld := fun i H v H' => ∃ T x, v = .ref T ∧ H T = none ∧ H' = upd H T (.tup [.int (i : Nat), x]) ∧ ∀ xs, SqT K H a xs → xs[i]? = some x
  stop := fun i H => ∃ xs : List V, SqT K H a xs ∧ xs.length ≤ i
/-- how far the walk is: the counter e over the iterator it -/
def AtT (a e it : Addr) (i : Nat) (h : Heap) : Prop := (∃ old, IsEnum h e it (0 + (i : Nat)) old) ∧ h.IsTupleIter it a i
theorem AtT.keep {a e it : Addr} {i : Nat} {h h' : Heap} (st : AtT a e it i h) (k : ∀ b ∈ [e, it], ∀ o, h.get? b = some o → h'.get? b = some o) : AtT a e it i h' := by
  obtain ⟨⟨old, num⟩, walk⟩ := st
  exact ⟨⟨old, k e (by simp) _ num⟩, walk.at fun o => k it (by simp) o⟩
theorem AtT.live {a e it : Addr} {i : Nat} {h : Heap} (st : AtT a e it i h) : ∀ b ∈ [e, it], b < h.objs.size ∧ ∃ o, h.get? b = some o ∧ ∀ v, o.data ≠ .cell v := by
  obtain ⟨⟨old, num⟩, o, there, _, dat⟩ := st
  simp only [List.mem_cons, List.not_mem_nil, or_false, forall_eq_or_imp, forall_eq]
  exact ⟨⟨Heap.lt_size num, _, num, nofun⟩, Heap.lt_size there, o, there, fun v q => by rw [dat] at q; cases q⟩
theorem turn_enumT {P : Program} {w : World} {K : PySem.W.Frag} {elts : List Expr} {kk : Nat} {tpos : Pos} {a e it : Addr} (hai : a ≠ it) (hae : a ≠ e) (hei : e ≠ it) : Turn P w K (.Tuple elts kk tpos) (IteT K a) [e, it] e (AtT a e it) where
  mem := List.mem_cons_self
  obj := fun i h st b hb => (st.live b hb).2
  keep := fun i h h' st k => st.keep k
  self := fun A i s Q E st => let ⟨⟨_, num⟩, _⟩ := st; wpAny_pyIter_enum num
  item := by
    rintro X rfl rfl rfl hc i pins s σ H E I hf st ⟨xs, x, there, hx⟩
    obtain ⟨its, each, tup, _⟩ := I.tuple there
    obtain ⟨u, hu, ru⟩ := each.get hx
    have walk := WalksT.enumFrom 0 (Draws.tuple (prog := X.prog) (w := X.w) (A := X.A.in1) (I.ok.hd hc) it a hai its.toArray) e hei (by simp [hei, Ne.symm hae]) (by simp)
    refine walk.item i s _ E (by simpa using (List.getElem?_eq_some_iff.mp hu).1) ⟨st.1, st.2, tup⟩ fun T vals h1 tk told fresh made mid kept => ⟨_, rfl, ?_⟩
    obtain ⟨t, y, hy, rfl⟩ := told
    obtain rfl : u = y := Option.some.inj (hu.symm.trans (by simpa using hy))
    refine walk.go elts kk tpos i T _ _ _ mid fun h2 far kept2 => ?_
    have made2 : h2.IsTuple T #[.int (0 + (i : Nat)) t, u] := made.at fun o q => kept2 T o (walk.apart i T h1 mid) q
    have pair : ObjOk X.prog X.w (upd H T (.tup [.int (i : Nat), x])) h2 T (.tup [.int (i : Nat), x]) := ⟨by show 2 ≤ sizeLine; decide, [.int (0 + (i : Nat)) t, u], .cons ⟨t, by rw [Int.zero_add]⟩ (.cons ru .nil), made2⟩
    refine ⟨.ref T, _, I.turnedNew (t' := tk) (ch := [e, it]) (fun b o hb q => kept2 b o hb (kept b o hb q)) hf fresh pair, rfl, ⟨T, x, rfl, I.hok.fresh fresh, rfl, fun ys hy => by rw [I.tuple_inj hy there]; exact hx⟩, ⟨far.1, far.2.1⟩, fun b hb => ?_⟩
    rw [upd_ne (Nat.ne_of_lt (Nat.lt_of_lt_of_le (st.live b hb).1 fresh))]
    exact (hf b hb).1
  done := by
    rintro X rfl rfl rfl hc i pins s σ H E I hf st ⟨xs, there, over⟩
    obtain ⟨its, each, tup, _⟩ := I.tuple there
    obtain ⟨⟨old, num⟩, far⟩ := st
    have none_left : its.toArray[i]? = none := by
      have := each.length
      simp
      omega
    have quiet : Draws X.prog X.w X.A.in1 it [it, a] i (fun _ _ => False) (fun j h => j = i ∧ h.IsTupleIter it a i ∧ h.IsTuple a its.toArray) :=
      { live := fun _ _ ⟨_, ⟨o, q, _⟩, _⟩ => ⟨o, q⟩
        frame := fun _ _ _ ⟨e1, q1, q2⟩ k => ⟨e1, q1.at fun o => k it (by simp) o, q2.at fun o => k a (by simp) o⟩
        item := fun j _ _ _ lt ⟨e1, _⟩ => absurd e1 (Nat.ne_of_lt lt)
        done := fun _ _ _ ⟨_, q1, q2⟩ => wpAny_nextOf_tuple_end (I.ok.hd hc) q1 q2 none_left }
    have f := hf it (by simp)
    exact wpAny_pyNext_enum_endD quiet (by rw [Int.zero_add] at num; exact num) ⟨rfl, far, tup⟩ fun h1 same => ⟨rfl, I.turned (t' := s.toks) same f.1 f.2.1 f.2.2.2.1 f.2.2.2.2.1 f.2.2.2.2.2⟩
def iEnumT (K : PySem.W.Frag) (ta : TA) : TI := fun σ H R => ta σ H fun vs H1 => ∃ a xs, vs = [.ref a] ∧ SqT K H1 a xs ∧ R (IteT K a) H1
section
variable {X : Cx} {E : WX} {e e2 : Expr} {r : Dens} {p pos tpos : Pos} {elts : List Expr} {kk : Nat}
theorem pi_enumT {ta : TA} (hg : Gl X "enumerate") (hm : X.mg "enumerate" = none) (ha : PA X [e] ta) (hs : starEach [e] X.env = [(false, eval e X.env)]) : PI X (.Tuple elts kk tpos) (.Call (.Name "enumerate" p) [e] [] pos) (iEnumT X.K ta) := by
  refine ⟨fun pins s σ H R I h => PyProof.Rows.Call_ (ld_blt I hg hm (u := .type "enumerate") (by decide +kernel) (PyProof.Rows.callWith_type1 (thn (ha.run pos pins s σ H _ I h) ?_) hs rfl))⟩
  rintro us s1 ⟨vs, H1, I1, r1, a, xs, rfl, there, q⟩
  obtain rfl := Vals.ref1 r1
  obtain ⟨its, _, tup, _⟩ := I1.tuple there
  have low : a < s1.heap.objs.size := by obtain ⟨_, z, _⟩ := id tup; exact Heap.lt_size z
  refine call_enumT tup (wpAny_pyIter_enum (enumHeap_num s1.heap a) ⟨s1.heap.objs.size + 1, [s1.heap.objs.size + 1, s1.heap.objs.size], _, _, H1, rfl, I1.kept (t' := s1.toks) fun _ _ => enumHeap_old, turn_enumT (Nat.ne_of_lt low) (Nat.ne_of_lt (Nat.lt_succ_of_lt low)) (Nat.succ_ne_self _), ⟨⟨.none, enumHeap_num s1.heap a⟩, enumHeap_it s1.heap a⟩, fun b hb => ?_, q⟩)
  have high : s1.heap.objs.size ≤ b := by
    simp only [List.mem_cons, List.not_mem_nil, or_false] at hb
    rcases hb with rfl | rfl
    · exact Nat.le_succ _
    · exact Nat.le_refl _
  exact I1.fpOk high (I1.hok.fresh high)
theorem new_pairOf {ρ : Cs} {H : Hp} {D : Option Addr} {T : Addr} {st : Store} {x y : PV} {v w : V} (hD : ∀ d, D = some d → ∃ o, H d = some o) (r : RS X.K ρ (del H D) X.mg st) (nT : H T = none) (hx : VR X.K ρ (del H D) X.mg x v) (hy : VR X.K ρ (del H D) X.mg y w) :
    Ext ρ (del H D) ρ (del (upd H T (.tup [v, w])) D) ∧ RS X.K ρ (del (upd H T (.tup [v, w])) D) X.mg st ∧ VR X.K ρ (del (upd H T (.tup [v, w])) D) X.mg (mkTup [x, y]) (.ref T) ∧ ∀ d, D = some d → upd H T (.tup [v, w]) d = H d := by
  have nD : ∀ d, D = some d → T ≠ d := fun d hd z => by
    obtain ⟨o, ho⟩ := hD d hd
    rw [← z, nT] at ho
    cases ho
  have nT2 : del H D T = none := by
    cases q : del H D T with
    | none => rfl
    | some o =>
      have := del_some q
      rw [nT] at this
      cases this
  rw [del_upd nD]
  exact ⟨r.ext nT2, r.new nT2, new_tup r (.cons hx (.cons hy .nil)) nT2, fun d hd => upd_ne (Ne.symm (nD d hd))⟩
theorem wk_enumT {ρ0 : Cs} {H0 : Hp} {a : Addr} {vs : List V} {xs : List PV} (h : FzT X.K ρ0 H0 a vs) (q : VRs X.K ρ0 H0 X.mg xs vs) : Wk X (IteT X.K a) (.vals (enumVals xs)) ρ0 H0 := by
  intro i ρ H D st hD e r
  have sq := sqT_del (K := X.K) (h.mono e).sq
  refine ⟨fun v hv => ?_, fun hs => ⟨vs, sq, by have hl := vals_stop hs; rw [← q.length]; simpa [enumVals] using hl⟩⟩
  have h1 := vals_item hv
  unfold enumVals at h1
  rw [List.getElem?_map, List.getElem?_zipIdx] at h1
  cases z : xs[i]? with
  | none => rw [z] at h1; cases h1
  | some w =>
    rw [z] at h1
    have h1 := Option.some.inj h1
    subst h1
    obtain ⟨x, hx, rx⟩ := q.get z
    refine ⟨⟨vs, x, sq, hx⟩, fun y H' hy => ?_⟩
    obtain ⟨T, x', rfl, nT, rfl, hy⟩ := hy
    have e2 := Option.some.inj ((hy vs sq).symm.trans hx)
    subst e2
    have hz : ((0 + i : Nat) : Int) = (i : Nat) := by omega
    obtain ⟨k1, k2, k3, k4⟩ := new_pairOf hD r nT (.d (.int ((i : Nat) : Int))) (rx.mono e)
    refine ⟨k1, k2, ?_, k4⟩
    show VR _ _ _ _ (mkTup [.d (.int ((0 + i : Nat) : Int)), w]) _
    rw [hz]
    exact k3
theorem wk_liveE {ρ0 : Cs} {H0 : Hp} {a : Addr} {n k : Nat} (h : ρ0.at_ n = some a) : Wk X (Ite X.K a) (.live n k true) ρ0 H0 := by
  intro i ρ H D st hD e r
  have hn : ρ.at_ n = some a := by
    obtain ⟨m, rfl⟩ := e.more
    have h : ρ0.l[ρ0.k + n]? = some a := h
    show (ρ0.l ++ m)[ρ0.k + n]? = some a
    rw [List.getElem?_append_left (List.getElem?_eq_some_iff.mp h).1]
    exact h
  have look : ∀ {o : Option PV}, (Src.live n k true).item i st = some o → ∃ ys vs, H a = some (.lst vs) ∧ VRs X.K ρ (del H D) X.mg ys vs ∧ (ys[i]?.map fun y => mkTup [.d (.int (i : Nat)), y]) = o := fun {o} q => by
    have q : (match st[n]? with
      | some (.lst ys) => some (ys[i]?.map fun y => mkTup [.d (.int (i : Nat)), y])
      | _ => none) = some o := q
    cases z : st[n]? with
    | none => rw [z] at q; cases q
    | some u =>
      rw [z] at q
      cases u with
      | lst ys =>
        obtain ⟨b, h1, vs, h2, h3⟩ := r.at_ n _ z
        rw [hn] at h1
        cases h1
        exact ⟨ys, vs, del_some h2, h3, Option.some.inj q⟩
      | _ => cases q
  refine ⟨fun v hv => ?_, fun hs => ?_⟩
  · obtain ⟨ys, vs, h2, h3, h4⟩ := look hv
    cases z : ys[i]? with
    | none => rw [z] at h4; cases h4
    | some w =>
      rw [z] at h4
      have h4 := Option.some.inj h4
      subst h4
      obtain ⟨x, hx, rx⟩ := h3.get z
      refine ⟨⟨vs, x, .of h2, hx⟩, fun y H' hy => ?_⟩
      obtain ⟨T, x', rfl, nT, rfl, hy⟩ := hy
      have e2 := Option.some.inj ((hy vs (.of h2)).symm.trans hx)
      subst e2
      obtain ⟨k1, k2, k3, k4⟩ := new_pairOf hD r nT (.d (.int ((i : Nat) : Int))) rx
      exact ⟨k1, k2, k3, k4⟩
  · obtain ⟨ys, vs, h2, h3, h4⟩ := look hs
    refine ⟨vs, .of h2, ?_⟩
    cases z : ys[i]? with
    | none => rw [← h3.length]; exact List.getElem?_eq_none_iff.mp z
    | some w => rw [z] at h4; cases h4
/-- enumerate(a list | a tuple that stays) -/
def enumS (v : PV) (st1 : Store) : Res Src := match v with
  | .cell n => match st1[n]? with
    | some (.lst ys) => .ok (.live n (ys.length + 1) true) st1
    | _ => .bad
  | v => match listItems v with
    | some xs => .ok (.vals (enumVals xs)) st1
    | none => match tupItems v with
      | some xs => .ok (.vals (enumVals xs)) st1
      | none => .bad
def dEnum2 (d : Dens) : DI := fun fr st => (d fr st).bind fun vs st1 => match vs with
  | [v] => enumS v st1
  | _ => .bad
theorem si_enum2 (hg : Gl X "enumerate") (hm : X.mg "enumerate" = none) (ha : PA X [e] (tEs X E r)) (hs : noStar [e] = true) : PI X (.Tuple elts kk tpos) (.Call (.Name "enumerate" p) [e] [] pos) (tI X E (dEnum2 r)) := by
  have hst : starEach [e] X.env = [(false, eval e X.env)] := by rw [(star_cons hs).1]; rfl
  obtain ⟨run1⟩ := pi_enum (elts := elts) (kk := kk) (tpos := tpos) (p := p) (pos := pos) hg hm ha hst
  obtain ⟨run2⟩ := pi_enumT (elts := elts) (kk := kk) (tpos := tpos) (p := p) (pos := pos) hg hm ha hst
  refine ⟨fun pins s σ H R I h => ?_⟩
  obtain ⟨ρ, fr, st, A, h⟩ := h
  cases q : r fr st with
  | bad =>
    refine run1 pins s σ H R I ⟨ρ, fr, st, A, ?_⟩
    unfold dEnum2 at h
    rw [q] at h ⊢
    exact h.elim
  | exc x st1 =>
    refine run1 pins s σ H R I ⟨ρ, fr, st, A, ?_⟩
    unfold dEnum2 at h
    rw [q] at h ⊢
    exact h
  | ok vs st1 =>
    unfold dEnum2 at h
    rw [q] at h
    have h : (match vs with
      | [v] => enumS v st1
      | _ => .bad).wp _ _ := h
    have fin : ∀ {Q : List V → Hp → Prop}, (∀ ρ1 H1 ws, Ext ρ H ρ1 H1 → At X σ H1 ρ1 fr st1 → VRs X.K ρ1 H1 X.mg vs ws → Q ws H1) → tEs X E r σ H Q := fun k => ⟨ρ, fr, st, A, by
      show (r fr st).wp _ _
      rw [q]
      exact fun ρ1 H1 ws e1 r1 v1 => k ρ1 H1 ws e1 (A.step e1 r1) v1⟩
    cases vs with
    | nil => exact h.elim
    | cons v vs =>
      cases vs with
      | cons _ _ => exact h.elim
      | nil =>
      have h : (enumS v st1).wp _ _ := h
      by_cases hc : ∃ n, v = .cell n
      · obtain ⟨n, rfl⟩ := hc
        unfold enumS at h
        dsimp only at h
        cases y : st1[n]? with
        | none => rw [y] at h; exact h.elim
        | some u =>
          rw [y] at h
          cases u with
          | lst ys =>
            refine run1 pins s σ H R I (fin fun ρ1 H1 ws e1 A1 v1 => ?_)
            obtain ⟨y', rfl, hy⟩ := v1.one
            cases hy with
            | cell hc =>
              obtain ⟨b, h1, vs, h2, h3⟩ := A1.rs.at_ n _ y
              rw [hc] at h1
              cases h1
              exact ⟨_, vs, rfl, .of h2, h ρ1 H1 _ e1 A1.rs (wk_liveE hc)⟩
          | _ => exact h.elim
      have heq : enumS v st1 = (match listItems v with
        | some xs => .ok (.vals (enumVals xs)) st1
        | none => match tupItems v with
          | some xs => .ok (.vals (enumVals xs)) st1
          | none => .bad) := by
        cases v with
        | cell n => exact absurd ⟨n, rfl⟩ hc
        | _ => rfl
      rw [heq] at h
      cases z : listItems v with
      | some xs =>
        rw [z] at h
        refine run1 pins s σ H R I (fin fun ρ1 H1 ws e1 A1 v1 => ?_)
        obtain ⟨y, rfl, hy⟩ := v1.one
        obtain ⟨a, us, rfl, f, hv⟩ := listItems_ok hy z
        exact ⟨a, us, rfl, f.sq, h ρ1 H1 _ e1 A1.rs (wk_enum f hv)⟩
      | none =>
        rw [z] at h
        dsimp only at h
        cases z2 : tupItems v with
        | none => rw [z2] at h; exact h.elim
        | some xs =>
          rw [z2] at h
          refine run2 pins s σ H R I (fin fun ρ1 H1 ws e1 A1 v1 => ?_)
          obtain ⟨y, rfl, hy⟩ := v1.one
          obtain ⟨a, us, rfl, f, hv⟩ := tupItems_ok hy z2
          exact ⟨a, us, rfl, f.sq, h ρ1 H1 _ e1 A1.rs (wk_enumT f hv)⟩
end
end Sr
/-! zip of two lists, of two tuples. -/
namespace Sr
open PySem L2
def zipVals (xs ys : List PV) : List PV := (xs.zip ys).map fun p => mkTup [p.1, p.2]
theorem zip_get {xs ys : List PV} {i : Nat} {v : PV} (h : (zipVals xs ys)[i]? = some v) : ∃ x y, xs[i]? = some x ∧ ys[i]? = some y ∧ v = mkTup [x, y] := by
  unfold zipVals at h
  rw [List.getElem?_map] at h
  cases q : (xs.zip ys)[i]? with
  | none => rw [q] at h; cases h
  | some z =>
    rw [q] at h
    cases h
    obtain ⟨h1, h2⟩ := List.getElem?_zip_eq_some.mp q
    exact ⟨z.1, z.2, h1, h2, rfl⟩
theorem zip_len {xs ys : List PV} : (zipVals xs ys).length = min xs.length ys.length := by unfold zipVals; simp
section
variable {X : Cx} {E : WX} {e e2 : Expr} {r : Dens} {p pos tpos : Pos} {elts : List Expr} {kk : Nat}
theorem wk_zip {ρ0 : Cs} {H0 : Hp} {a b : Addr} {vs ws : List V} {xs ys : List PV} (h : FzL ρ0 H0 a vs) (q : VRs X.K ρ0 H0 X.mg xs vs) (h' : FzL ρ0 H0 b ws) (q' : VRs X.K ρ0 H0 X.mg ys ws) : Wk X (Itz X.K a b) (.vals (zipVals xs ys)) ρ0 H0 := by
  intro i ρ H D st hD e r
  have sq := sqL_del (K := X.K) (h.mono e).sq
  have sq' := sqL_del (K := X.K) (h'.mono e).sq
  refine ⟨fun v hv => ?_, fun hs => ⟨vs, ws, sq, sq', by have hl := vals_stop hs; rw [zip_len, q.length, q'.length] at hl; omega⟩⟩
  obtain ⟨x, y, hx, hy, rfl⟩ := zip_get (vals_item hv)
  obtain ⟨x1, gx, rx⟩ := q.get hx
  obtain ⟨y1, gy, ry⟩ := q'.get hy
  refine ⟨⟨vs, ws, x1, y1, sq, sq', gx, gy⟩, fun z H' hz => ?_⟩
  obtain ⟨T, x2, y2, rfl, nT, rfl, kx, ky⟩ := hz
  have e1 := Option.some.inj ((kx vs sq).symm.trans gx)
  have e2 := Option.some.inj ((ky ws sq').symm.trans gy)
  subst e1 e2
  exact new_pairOf hD r nT (rx.mono e) (ry.mono e)
theorem wk_zipT {ρ0 : Cs} {H0 : Hp} {a b : Addr} {vs ws : List V} {xs ys : List PV} (h : FzT X.K ρ0 H0 a vs) (q : VRs X.K ρ0 H0 X.mg xs vs) (h' : FzT X.K ρ0 H0 b ws) (q' : VRs X.K ρ0 H0 X.mg ys ws) : Wk X (RZ.ItzT X.K a b) (.vals (zipVals xs ys)) ρ0 H0 := by
  intro i ρ H D st hD e r
  have sq := sqT_del (K := X.K) (h.mono e).sq
  have sq' := sqT_del (K := X.K) (h'.mono e).sq
  refine ⟨fun v hv => ?_, fun hs => ⟨vs, ws, sq, sq', by have hl := vals_stop hs; rw [zip_len, q.length, q'.length] at hl; omega⟩⟩
  obtain ⟨x, y, hx, hy, rfl⟩ := zip_get (vals_item hv)
  obtain ⟨x1, gx, rx⟩ := q.get hx
  obtain ⟨y1, gy, ry⟩ := q'.get hy
  refine ⟨⟨vs, ws, x1, y1, sq, sq', gx, gy⟩, fun z H' hz => ?_⟩
  obtain ⟨T, x2, y2, rfl, nT, rfl, kx, ky⟩ := hz
  have e1 := Option.some.inj ((kx vs sq).symm.trans gx)
  have e2 := Option.some.inj ((ky ws sq').symm.trans gy)
  subst e1 e2
  exact new_pairOf hD r nT (rx.mono e) (ry.mono e)
def dZip (d : Dens) : DI := fun fr st => (d fr st).bind fun vs st1 => match vs with
  | [v, w] => match listItems v, listItems w with
    | some xs, some ys => .ok (.vals (zipVals xs ys)) st1
    | _, _ => match tupItems v, tupItems w with
      | some xs, some ys => .ok (.vals (zipVals xs ys)) st1
      | _, _ => .bad
  | _ => .bad
theorem si_zip (hg : Gl X "zip") (hm : X.mg "zip" = none) (ha : PA X [e, e2] (tEs X E r)) (hs : noStar [e, e2] = true) : PI X (.Tuple elts kk tpos) (.Call (.Name "zip" p) [e, e2] [] pos) (tI X E (dZip r)) := by
  have h2 := (star_cons (env := X.env) hs).2
  refine ⟨fun pins s σ H R I h => (RZ.pi_zipA (elts := elts) (kk := kk) (tpos := tpos) (p := p) (pos := pos) hg hm ha (star_cons hs).1 (star_any h2)).run pins s σ H R I ?_⟩
  obtain ⟨ρ, fr, st, A, h⟩ := h
  refine tEs.step A h fun vs st1 ρ1 H1 us e1 A1 v1 h1 => ?_
  split at h1
  · rename_i v w
    obtain ⟨y, z, rfl, hy, hz⟩ := v1.two
    cases q1 : listItems v with
    | some xs =>
      cases q2 : listItems w with
      | some ys =>
        rw [q1, q2] at h1
        obtain ⟨a, us1, rfl, f1, g1⟩ := listItems_ok hy q1
        obtain ⟨b, us2, rfl, f2, g2⟩ := listItems_ok hz q2
        exact ⟨a, b, us1, us2, rfl, .inl ⟨f1.sq, f2.sq, h1 ρ1 H1 _ e1 A1.rs (wk_zip f1 g1 f2 g2)⟩⟩
      | none =>
        rw [q1, q2] at h1
        dsimp only at h1
        have nt : tupItems v = none := by
          cases v with
          | d y => cases y <;> first | rfl | cases q1
          | _ => first | rfl | cases q1
        rw [nt] at h1
        exact h1.elim
    | none =>
      rw [q1] at h1
      dsimp only at h1
      cases q3 : tupItems v with
      | none => rw [q3] at h1; exact h1.elim
      | some xs =>
        cases q4 : tupItems w with
        | none => rw [q3, q4] at h1; exact h1.elim
        | some ys =>
          rw [q3, q4] at h1
          obtain ⟨a, us1, rfl, f1, g1⟩ := tupItems_ok hy q3
          obtain ⟨b, us2, rfl, f2, g2⟩ := tupItems_ok hz q4
          exact ⟨a, b, us1, us2, rfl, .inr ⟨f1.sq, f2.sq, h1 ρ1 H1 _ e1 A1.rs (wk_zipT f1 g1 f2 g2)⟩⟩
  · exact h1.elim
end
end Sr
/-! Dicts of the module, by their names: never changed. -/
namespace Sr
open PySem L2

/-- what the module's name x stands for: a dict with these keys, values that are data -/
def MDict (X : Cx) (x : Str) (kvs : List (Key × PyData)) : Prop := ∃ (a : Addr) (ws : List (Key × Value)), X.mg x = some (.ref a) ∧ (∀ h : Heap, X.K.In h → h.DictOf (mixKind X.prog X.w) a ws) ∧ (a == sysModules) = false ∧ ws.length ≤ sizeLine ∧
  Paired (fun p q => p.1 = q.1 ∧ ∃ v, RelV v q.2 ∧ ∀ ρ H, DR X.K ρ H p.2 v) kvs ws
def keyGet (kvs : List (Key × PyData)) (k : Key) : Option PyData := match kvs with
  | [] => none
  | p :: r => if p.1 = k then some p.2 else keyGet r k
theorem keyGet_ok {X : Cx} {kvs : List (Key × PyData)} {ws : List (Key × Value)} (h : Paired (fun p q => p.1 = q.1 ∧ ∃ v, RelV v q.2 ∧ ∀ ρ H, DR X.K ρ H p.2 v) kvs ws) (k : Key) :
    match keyGet kvs k with
    | some d => ∃ u v, valueAt ws k = some u ∧ RelV v u ∧ ∀ ρ H, DR X.K ρ H d v
    | none => valueAt ws k = none := by
  induction h with
  | nil => rfl
  | @cons p q ps qs r t ih =>
    obtain ⟨e, v, h1, h2⟩ := r
    unfold keyGet valueAt
    by_cases hk : p.1 = k
    · rw [if_pos hk]
      refine ⟨q.2, v, ?_, h1, h2⟩
      rw [List.find?_cons, show decide (q.1 = k) = true from decide_eq_true (by rw [← e]; exact hk)]
      rfl
    · rw [if_neg hk]
      have hq : decide (q.1 = k) = false := decide_eq_false (by rw [← e]; exact hk)
      unfold valueAt at ih
      rw [List.find?_cons, hq]
      exact ih
theorem pe_mdict {X : Cx} {x : Str} {a : Addr} {p : Pos} (hg : Gl X x) (hm : X.mg x = some (.ref a)) (hd : (x == ("__debug__" : Str)) = false) : PE X (.Name x p) (tC (.ref a)) :=
  ⟨fun pins s σ H Q I h => ld_glob I hg hm ⟨.ref a, H, I, rfl, h⟩ hd⟩
/-- G[e] -/
def dGIx (kvs : List (Key × PyData)) (d : Den) : Den := fun fr st => (d fr st).bind fun v st1 => match toKey v with
  | some k => match keyGet kvs k with
    | some y => .ok (.d y) st1
    | none => .bad
  | none => .bad
/-- e in G, e not in G -/
def dGIn (neg : Bool) (kvs : List (Key × PyData)) (d : Den) : Den := fun fr st => (d fr st).bind fun v st1 => match toKey v with
  | some k => .ok (.d (.bool (xor neg (keyGet kvs k).isSome))) st1
  | none => .bad
/-- G.get(e, y) -/
def dGGet (kvs : List (Key × PyData)) (r : Dens) : Den := fun fr st => (r fr st).bind fun vs st1 => match vs with
  | [v, y] => match toKey v with
    | some k => .ok (match keyGet kvs k with
      | some z => .d z
      | none => y) st1
    | none => .bad
  | _ => .bad
section
variable {X : Cx} {E : WX} {e e2 : Expr} {d : Den} {r : Dens} {x : Str} {kvs : List (Key × PyData)} {p apos pos : Pos}
theorem se_gix (M : MDict X x kvs) (hg : Gl X x) (hd : (x == ("__debug__" : Str)) = false) (he : PE X e (tE X E d)) (hs : plainIx e = true) : PE X (.Subscript (.Name x p) e pos) (tE X E (dGIx kvs d)) := by
  obtain ⟨a, ws, hm, hD, hsm, hz, hp⟩ := M
  have ix : IxR X (fun o i H Q => ∃ k u v, o = .ref a ∧ i = kV k ∧ valueAt ws k = some u ∧ RelV v u ∧ Q v H) := by
    intro value slice pins s σ H o i v u Q I ro ri h hsub
    obtain ⟨k, w, y, rfl, rfl, hw, ry, q⟩ := h
    cases ro
    have dd := hD _ I.kIn
    exact PyProof.Rows.tail_any dd.typeIs PySem.F.slot_dict_getitem.lookup (wpAny_getItem_of (kV_is ri) dd.mapOf hw ⟨y, H, I.tok _, ry, q⟩) hsub
  refine ⟨fun pins s σ H Q I h => (pe_ix ix (pe_mdict hg hm hd) he (plainIx_ok hs)).run pins s σ H Q I ?_⟩
  obtain ⟨ρ, fr, st, A, h⟩ := h
  refine tE.step A h fun v st1 ρ1 H1 y e1 A1 v1 h1 => ?_
  cases q : toKey v with
  | none => rw [q] at h1; exact h1.elim
  | some k =>
    rw [q] at h1
    dsimp only at h1
    have kg := keyGet_ok hp k
    cases q2 : keyGet kvs k with
    | none => rw [q2] at h1; exact h1.elim
    | some z =>
      rw [q2] at h1 kg
      obtain ⟨u, w, k1, k2, k3⟩ := kg
      exact ⟨k, u, w, rfl, toKey_ok v1 q, k1, k2, h1 ρ1 H1 _ e1 A1.rs (.d (k3 ρ1 H1))⟩
theorem se_gin {neg : Bool} (M : MDict X x kvs) (hg : Gl X x) (hd : (x == ("__debug__" : Str)) = false) (he : PE X e (tE X E d)) : 
    PE X (.Compare e [if neg then .NotIn else .In] [.Name x p] pos) (tE X E (dGIn neg kvs d)) ∧ PT X (.Compare e [if neg then .NotIn else .In] [.Name x p] pos) (tT X E (dCmpT (dGIn neg kvs d))) := by
  obtain ⟨a, ws, hm, hD, hsm, hz, hp⟩ := M
  have op : OpR X (compareOp (if neg then .NotIn else .In)) (fun i o H Q => ∃ k, o = .ref a ∧ i = kV k ∧ Q (.bl (xor neg (valueAt ws k).isSome)) H) := by
    intro pins s σ H i o v u Q I ri ro h
    obtain ⟨k, rfl, rfl, q⟩ := h
    cases ro
    have dd := hD _ I.kIn
    cases neg with
    | true => exact wpAny_notIn_of (kV_is ri) hsm dd.mapOf ⟨.bl _, H, I.tok _, rfl, by simpa using q⟩
    | false => exact wpAny_in_of (kV_is ri) hsm dd.mapOf ⟨.bl _, H, I.tok _, rfl, by simpa using q⟩
  have hmk : behindInMarks (if neg then .NotIn else .In) (.Name x p) = false := by cases neg <;> rfl
  have key : ∀ {σ : L2.St} {H : Hp} {Q : VK}, tE X E (dGIn neg kvs d) σ H Q → tOp (fun i o H Q => ∃ k, o = .ref a ∧ i = kV k ∧ Q (.bl (xor neg (valueAt ws k).isSome)) H) (tE X E d) (tC (.ref a)) σ H Q := fun {σ H Q} h => by
    obtain ⟨ρ, fr, st, A, h⟩ := h
    refine tE.step A h fun v st1 ρ1 H1 y e1 A1 v1 h1 => ?_
    cases q : toKey v with
    | none => rw [q] at h1; exact h1.elim
    | some k =>
      rw [q] at h1
      have kg := keyGet_ok hp k
      have es : (keyGet kvs k).isSome = (valueAt ws k).isSome := by
        cases q2 : keyGet kvs k with
        | none => rw [q2] at kg; rw [kg]; rfl
        | some z => rw [q2] at kg; obtain ⟨u, w, k1, _⟩ := kg; rw [k1]; rfl
      have h1 := h1 ρ1 H1 _ e1 A1.rs (.d (.bl _))
      rw [es] at h1
      exact ⟨k, rfl, toKey_ok v1 q, h1⟩
  refine ⟨⟨fun pins s σ H Q I h => (pe_cmpR op he (pe_mdict hg hm hd) hmk).run pins s σ H Q I (key h)⟩, ⟨fun pins s σ H Q I h => (pt_cmpR op he (pe_mdict hg hm hd) hmk).run pins s σ H Q I ?_⟩⟩
  refine key ?_
  obtain ⟨ρ, fr, st, A, h⟩ := h
  refine ⟨ρ, fr, st, A, Res.wp_mono (Res.wp_bind h) (fun v st1 h1 ρ1 H1 y e1 r1 v1 => ?_) fun _ _ q => q⟩
  cases q : vB v with
  | none => rw [q] at h1; exact h1.elim
  | some k =>
    rw [q] at h1
    exact ⟨k, vB_bl v1 q, h1 ρ1 H1 e1 r1⟩
theorem se_gget (hcx : X.A.units + 1 < cLine) (M : MDict X x kvs) (hg : Gl X x) (hd : (x == ("__debug__" : Str)) = false) (ha : PA X [e, e2] (tEs X E r)) (hs : noStar [e, e2] = true) (hl : (apos.endLine == pos.line) = true) :
    PE X (.Call (.Attribute (.Name x p) "get" apos) [e, e2] [] pos) (tE X E (dGGet kvs r)) := by
  obtain ⟨a, ws, hm, hD, hsm, hz, hp⟩ := M
  refine ⟨fun pins s σ H Q I h => ?_⟩
  refine wpAny_Call_method (T := "dict") (id := "dict.get") rfl ?_ hl PySem.F.plainAttrs_dict PySem.F.slot_dict_get PySem.F.type_dict_get (ld_glob I hg hm ?_ hd)
  · rw [starFew hs, kwAll]
    rfl
  have dd := hD _ I.kIn
  refine ⟨dd.typeIs, dd.mapOf.noDict, ?_⟩
  obtain ⟨ρ, fr, st, A, h⟩ := h
  have hA := ha.run pos pins s σ H (fun vs H1 => ∃ ρ1 st1 as, At X σ H1 ρ1 fr st1 ∧ Ext ρ H ρ1 H1 ∧ VRs X.K ρ1 H1 X.mg as vs ∧ (match as with
    | [v, y] => match toKey v with
      | some k => Res.ok (match keyGet kvs k with
        | some z => PV.d z
        | none => y) st1
      | none => .bad
    | _ => .bad).wp (fun v st' => ∀ ρ' H' x, Ext ρ H ρ' H' → RS X.K ρ' H' X.mg st' → VR X.K ρ' H' X.mg v x → Q x H') (okX X E σ ρ H)) I ⟨ρ, fr, st, A, by
      refine Res.wp_mono (Res.wp_bind h) (fun as st1 q ρ1 H1 ws e1 r1 v1 => ⟨ρ1, st1, as, A.step e1 r1, e1, v1, q⟩) fun _ _ q => q⟩
  rw [(star_cons hs).1] at hA ⊢
  refine Calls.callWith_builtin (star_any (star_cons (env := X.env) hs).2) (Calls.evalArgs_plain ?_)
  refine thn hA fun us s1 ⟨vs, H1, I1, r1, ρ1, st1, as, A1, e1, v1, hq⟩ => ?_
  · split at hq
    · rename_i v y
      obtain ⟨z1, z2, rfl, h1, h2⟩ := v1.two
      obtain ⟨u1, u2, rfl, r1, r2⟩ := L2.Vals.two r1
      cases q : toKey v with
      | none => rw [q] at hq; exact hq.elim
      | some k =>
        rw [q] at hq
        dsimp only at hq
        have ek := toKey_ok h1 q
        subst ek
        have dd := hD _ I1.kIn
        have kg := keyGet_ok hp k
        refine call_meetsIn PySem.F.slot_dict_get dd.typeIs PySem.F.entry_dict_get (PySem.F.args_dict_get_3 _ _ _) (meets_dict_get_default (mixKind X.prog X.w) a (kV_is r1) hsm u2) ⟨_, dd.mapOf, ?_⟩
        cases q2 : keyGet kvs k with
        | none =>
          rw [q2] at kg hq
          rw [kg]
          exact ⟨z2, H1, I1.tok _, r2, hq ρ1 H1 _ e1 A1.rs h2⟩
        | some z =>
          rw [q2] at kg hq
          obtain ⟨u, w, k1, k2, k3⟩ := kg
          rw [k1]
          exact ⟨w, H1, I1.tok _, k2, hq ρ1 H1 _ e1 A1.rs (.d (k3 ρ1 H1))⟩
    · exact hq.elim
end
end Sr
/-! Displays of dicts by tuples; the keys of a dict as a list. -/
namespace Sr
open PySem L2

/-! ### {(a, b): v, ..} -/
def dPairsT : List (Dens × Den) → Fr → Store → Res (List (List PV × PV))
  | [], _, st => .ok [] st
  | p :: r, fr, st => (p.1 fr st).bind fun k st1 => if sizeOk k.length then (p.2 fr st1).bind fun v st2 => (dPairsT r fr st2).bind fun ps st3 => .ok ((k, v) :: ps) st3 else .bad
def toKeys : List PV → Option (List Key)
  | [] => some []
  | v :: r => match toKey v, toKeys r with
    | some k, some ks => some (k :: ks)
    | _, _ => none
def keysOfT : List (List PV × PV) → Option (List (List Key × PV))
  | [] => some []
  | p :: r => match toKeys p.1, keysOfT r with
    | some k, some ks => some ((k, p.2) :: ks)
    | _, _ => none
def mergePT (kvs more : List (List Key × PV)) : List (List Key × PV) := more.foldl (fun acc kv => putP acc kv.1 kv.2) kvs
def newDT (kvs : List (List Key × PV)) (st : Store) : Option (PV × Store) := match kvs with
  | [] => none
  | kvs => match datas (kvs.map (·.2)) with
    | some ds => some (.d (.dict ((kvs.map fun p => PyData.tuple (p.1.map keyD)).zip ds)), st)
    | none => none
def dDictT (ps : List (Dens × Den)) : Den := fun fr st => (dPairsT ps fr st).bind fun ws st1 => match keysOfT ws with
  | some kvs => if kvs.length ≤ 15 then lift (newDT (mergePT [] kvs) st1) else .bad
  | none => .bad
def tHideU (te : TE) : TE := fun σ H Q => ∃ D, H D = some (.dT []) ∧ te σ (del H (some D)) fun y H' => H' D = none → Q y (upd H' D (.dT []))
section
variable {X : Cx} {E : WX} {e : Expr} {te : TE} {d : Den} {pos : Pos}
theorem pe_hideU (h : PE X e te) : PE X e (tHideU te) := by
  refine ⟨fun pins s σ H Q I hq => ?_⟩
  obtain ⟨D, hD, hq⟩ := hq
  obtain ⟨ob, he, I1, _⟩ := hide (.inr (.inr rfl)) I hD
  refine thn (h.run _ s σ _ _ I1 hq) fun u s1 ⟨v, H1, J, r, q⟩ => ?_
  have p2 : H1 D = none := (J.pin (D, ob) (List.mem_append_right _ List.mem_cons_self)).2.1
  exact ⟨v, _, unhide (.inr (.inr rfl)) I hD he J, r, q p2⟩
structure PPT (K : PySem.W.Frag) (ρ : Cs) (H : Hp) (mg : Str → Option Value) (p : List PV × PV) (q : V × V) : Prop where
  k : ∃ b vs, q.1 = .ref b ∧ H b = some (.tup vs) ∧ b ∉ ρ ∧ VRs K ρ H mg p.1 vs
  v : VR K ρ H mg p.2 q.2
theorem PPT.mono {K : PySem.W.Frag} {ρ ρ' : Cs} {H H' : Hp} {mg : Str → Option Value} {p : List PV × PV} {q : V × V} (e : Ext ρ H ρ' H') (h : PPT K ρ H mg p q) : PPT K ρ' H' mg p q := by
  obtain ⟨⟨b, vs, h1, h2, h3, h4⟩, h5⟩ := h
  exact ⟨⟨b, vs, h1, (e.keep _ _ h2 h3).1, (e.keep _ _ h2 h3).2, h4.mono e⟩, h5.mono e⟩
def trsT (X : Cx) (E : WX) (ps : List (Dens × Den)) : List (TE × TE) := ps.map fun p => (tHideU (tTup (tEs X E p.1)), tHideU (tE X E p.2))
theorem pairsT_of {σ : L2.St} {fr : Fr} {D : Addr} : ∀ {ps : List (Dens × Den)} {H : Hp} {ρ : Cs} {st : Store} {F : List (List PV × PV) → Store → Prop} {R : List (V × V) → Hp → Prop}, H D = some (.dT []) → At X σ (del H (some D)) ρ fr st →
    (dPairsT ps fr st).wp F (okX X E σ ρ (del H (some D))) →
    (∀ ws st' ρ' H2 xs, F ws st' → Ext ρ (del H (some D)) ρ' H2 → RS X.K ρ' H2 X.mg st' → Paired (PPT X.K ρ' H2 X.mg) ws xs → H2 D = none → R xs (upd H2 D (.dT []))) → tPairs (trsT X E ps) σ H R
  | [], H, ρ, st, F, R, hD, A, h, k => by
    have := k [] st ρ _ [] h (Ext.refl _ _) A.rs .nil del_self
    rw [put_del hD] at this
    exact this
  | p :: ps, H, ρ, st, F, R, hD, A, h, k => by
    have h : ((p.1 fr st).bind fun k st1 => if sizeOk k.length then (p.2 fr st1).bind fun v st2 => (dPairsT ps fr st2).bind fun ps st3 => .ok ((k, v) :: ps) st3 else .bad).wp F (okX X E σ ρ (del H (some D))) := h
    refine ⟨D, hD, tEs.step A h fun a st1 ρ1 H1 x e1 A1 v1 h1 => ?_⟩
    split at h1
    · rename_i hz
      refine ⟨by rw [← v1.length]; exact sizeOk_le hz, fun b nb nD => ?_⟩
      have e2 := A1.rs.ext (o := .tup x) nb
      have A2 : At X σ (upd H1 b (.tup x)) ρ1 fr st1 := A1.step e2 (A1.rs.new nb)
      have h1 := Res.wp_mono h1 (fun _ _ q => q) fun _ _ q => q.mono e2
      have g2 : (upd H1 b (.tup x)) b = some (.tup x) := upd_same
      refine ⟨D, upd_same, ?_⟩
      rw [del_put nD]
      refine tE.step A2 h1 fun c st2 ρ2 H2 y e3 A3 v2 h2 n2 => ?_
      refine pairsT_of (ρ := ρ2) (st := st2) upd_same (by rw [del_put n2]; exact A3) (by rw [del_put n2]; exact Res.wp_bind h2) fun ws st3 ρ3 H3 xs hF e4 r3 v3 n3 => ?_
      rw [del_put n2] at e4
      obtain ⟨g3, g4⟩ := e3.keep _ _ g2 (A1.rs.fresh nb)
      exact k _ _ ρ3 H3 _ (Res.wp_mono hF (fun _ _ q => q) fun _ _ q => q) (((e1.trans e2).trans e3).trans e4) r3 (.cons (PPT.mono e4 ⟨⟨b, x, rfl, g3, g4, (v1.mono e2).mono e3⟩, v2⟩) v3) n3
    · exact h1.elim

def mergeT (kvs more : List (List Key × V)) : List (List Key × V) := more.foldl (fun acc kv => putK acc kv.1 kv.2) kvs
theorem length_mergeT (more : List (List Key × V)) : ∀ kvs : List (List Key × V), (mergeT kvs more).length ≤ kvs.length + more.length := by
  induction more with
  | nil => exact fun kvs => Nat.le_refl kvs.length
  | cons q more ih => exact fun kvs => Nat.le_trans (ih (putK kvs q.1 q.2)) (by
      have one := length_putK kvs q.1 q.2
      simp only [List.length_cons]
      omega)
theorem kt_merge {H : Hp} : ∀ {more : List (List Key × V)} {rs : List (List Key × Addr × Value)} {kvs : List (List Key × V)} {xs : List (List Key × Addr × Value)}, L2.KT H more rs → L2.KT H kvs xs → L2.KT H (mergeT kvs more) (storedAllH xs rs)
  | [], _, _, _, .nil, h => h
  | p :: more, q :: rs, kvs, xs, .cons r t, h => by
    have h1 := h.put p.1 (b := q.2.1) r.2.1 r.2.2
    show L2.KT H (mergeT (putK kvs p.1 p.2) more) (storedAllH (storedH xs q.1 q.2.1 q.2.2) rs)
    rw [← r.1]
    exact kt_merge t h1
def KeyedT (H : Hp) : List (V × V) → List (List Key × V) → Prop := Paired fun q l => ∃ b, q.1 = .ref b ∧ H b = some (.tup (l.1.map kV)) ∧ q.2 = l.2
theorem carriesT {P : Program} {w : World} {H : Hp} {h : Heap} (ok : HOk P w H h) : ∀ {ps : List (V × V)} {ls : List (List Key × V)} {us : List (Value × Value)}, KeyedT H ps ls → VV ps us → ∃ rs, CarriesH (tupleKind (mixKind P w)) h us rs ∧ L2.KT H ls rs
  | [], _, _, .nil, .nil => ⟨[], trivial, .nil⟩
  | p :: ps, l :: ls, u :: us, .cons k t, .cons r q => by
    obtain ⟨rs, c, kt⟩ := carriesT ok t q
    obtain ⟨b, e1, e2, e3⟩ := k
    obtain ⟨r1, r2⟩ := r
    rw [e1] at r1
    obtain ⟨u1, u2⟩ := u
    have r1 : u1 = Value.ref b := r1
    subst r1
    exact ⟨(l.1, b, u2) :: rs, ⟨rfl, rfl, key_of ok e2, c⟩, .cons ⟨rfl, e2, by rw [← e3]; exact r2⟩ kt⟩
def tDispT (trs : List (TE × TE)) : TE := fun σ H Q => ∀ p, H p = none → tPairs trs σ (upd H p (.dT [])) fun ps H2 => H2 p = some (.dT []) ∧ ∃ ls, KeyedT H2 ps ls ∧ ls.length ≤ 15 ∧ Q (.ref p) (upd H2 p (.dT (mergeT [] ls)))
/-- what a dict by rows holds, written anew -/
theorem dT_stands {P : Program} {w : World} {H2 : Hp} {h' : Heap} {a : Addr} {ob : HO} {old new : List (List Key × V)} {xs : List (List Key × Addr × Value)} (e : H2 a = some (.dT old)) (few : new.length ≤ sizeLine) (own : (a == sysModules) = false) (kt : L2.KT H2 new xs)
    (dd : h'.DictOfH (tupleKind (mixKind P w)) a xs) : ObjOk P w (upd H2 a ob) h' a (.dT new) :=
  let ⟨q, es, ep, g1, g2, g3, g4, _, g5⟩ := dd
  ⟨few, own, xs, kt.keeps fun c ys z => (upd_ne (ne_of z e nofun)).trans z, q, es, ep, g1, g2, g3, g4, g5⟩
theorem pe_dispT (hu : X.A.units < cLine) {keys : List (Option Expr)} {values : List Expr} {trs : List (TE × TE)} (h : PPs X pos keys values trs) (hall : keys.all (·.isSome) = true) (hl : keys.length = values.length) (h0 : keys ≠ [])
    (h15 : keys.length ≤ 15) : PE X (.Dict keys values pos) (tDispT trs) := ⟨fun pins s σ H Q I q => by
  have len := pairTrees_length keys values X.env pos hall hl
  have any : pairTrees keys values X.env pos ≠ [] := fun z => h0 (List.eq_nil_of_length_eq_zero (by rw [← len, z]; rfl))
  have room : (pairTrees keys values X.env pos).length ≤ 15 := Nat.le_trans (Nat.le_of_eq len) h15
  rw [arm_eval_Dict, zip_pairTrees keys values X.env pos hall hl, dictDisplay_pairs _ any (Nat.lt_of_le_of_lt room (by decide))]
  refine wpAny_bind (wpAny_standAt (wpAny_bind (wpAny_subDictH (knd := tupleKind (mixKind X.prog X.w)) (Q := fun d s' => wpAny (model X.prog X.w) X.A (pure (Value.ref d)) (EP X pins σ Q) X.xe s') hu room
    (thn (h.run pins _ σ _ _ (I.laid (a := s.heap.objs.size) (o := .dT []) (t' := s.toks) (fun _ _ z => Heap.get?_push_of_some _ z) (Nat.le_refl _) (dt_empty s.heap I.big)) (q _ (I.hok.fresh (Nat.le_refl _)))) ?_))))
  rintro ws s2 ⟨ps, H2, I2, rel, e, ls, kd, few, last⟩
  obtain ⟨rs, carry, kt⟩ := carriesT I2.hok kd rel
  obtain ⟨_, own, xs, empty, stands⟩ := dt_of I2.hok e
  cases empty
  exact ⟨rs, carry, stands, fun h' tk dd same => wpAny_pure ⟨.ref s.heap.objs.size, _, d_write I2 (by rw [e]; exact True.intro) same (let ⟨o, _, _, at_, _⟩ := dd; ⟨o, at_⟩)
    (dT_stands e (Nat.le_trans (length_mergeT ls []) (by rw [sizeLine_eq, List.length_nil]; omega)) own (kt_merge kt (show L2.KT H2 [] [] from .nil)) dd), rfl, last⟩⟩⟩
theorem toKeys_ok {K : PySem.W.Frag} {ρ : Cs} {H : Hp} {mg : Str → Option Value} : ∀ {xs : List PV} {vs : List V} {ks : List Key}, VRs K ρ H mg xs vs → toKeys xs = some ks → vs = ks.map kV
  | [], _, ks, .nil, e => by cases e; rfl
  | v :: r, _, ks, .cons h t, e => by
    have e : (match toKey v, toKeys r with
      | some k, some ks => some (k :: ks)
      | _, _ => none) = some ks := e
    cases q1 : toKey v with
    | none => rw [q1] at e; cases e
    | some k =>
      cases q2 : toKeys r with
      | none => rw [q1, q2] at e; cases e
      | some js =>
        rw [q1, q2] at e
        cases e
        rw [toKey_ok h q1, toKeys_ok t q2, List.map_cons]
theorem keysOfT_ok {K : PySem.W.Frag} {ρ : Cs} {H : Hp} {mg : Str → Option Value} : ∀ {ws : List (List PV × PV)} {xs : List (V × V)} {kvs : List (List Key × PV)}, Paired (PPT K ρ H mg) ws xs → keysOfT ws = some kvs → ∃ ls, KeyedT H xs ls ∧ VRk K ρ H mg kvs ls
  | [], _, kvs, .nil, e => by cases e; exact ⟨[], .nil, .nil⟩
  | p :: ws, q :: xs, kvs, .cons h t, e => by
    have e : (match toKeys p.1, keysOfT ws with
      | some k, some ks => some ((k, p.2) :: ks)
      | _, _ => none) = some kvs := e
    cases q1 : toKeys p.1 with
    | none => rw [q1] at e; cases e
    | some k =>
      cases q2 : keysOfT ws with
      | none => rw [q1, q2] at e; cases e
      | some ks =>
        rw [q1, q2] at e
        cases e
        obtain ⟨ls, e1, e2⟩ := keysOfT_ok t q2
        obtain ⟨⟨b, vs, k1, k2, _, k4⟩, k5⟩ := h
        rw [toKeys_ok k4 q1] at k2
        exact ⟨(k, q.2) :: ls, .cons ⟨b, k1, k2, rfl⟩ e1, .cons ⟨rfl, k5⟩ e2⟩
theorem VRk.mergeT {K : PySem.W.Frag} {ρ : Cs} {H : Hp} {mg : Str → Option Value} : ∀ {more : List (List Key × PV)} {mw : List (List Key × V)} {kvs : List (List Key × PV)} {ws : List (List Key × V)}, VRk K ρ H mg more mw → VRk K ρ H mg kvs ws → VRk K ρ H mg (mergePT kvs more) (mergeT ws mw)
  | [], _, _, _, .nil, h => h
  | p :: more, q :: mw, kvs, ws, .cons r t, h => by
    have h1 := h.put p.1 r.2
    have e : q.1 = p.1 := r.1.symm
    show VRk K ρ H mg (mergePT (putP kvs p.1 p.2) more) (Sr.mergeT (putK ws q.1 q.2) mw)
    rw [e]
    exact VRk.mergeT t h1
theorem newDT_ok {ρ : Cs} {H : Hp} {st : Store} {kvs : List (List Key × PV)} {ws : List (List Key × V)} {Q : VK} (rs : RS X.K ρ H X.mg st) (v : VRk X.K ρ H X.mg kvs ws) (h : okV X ρ H (newDT kvs st) Q) : ∀ p, H p = none → Q (.ref p) (upd H p (.dT ws)) := by
  intro p n
  obtain ⟨k1, k2⟩ := v.keys
  cases kvs with
  | nil => exact h.elim
  | cons p0 kvs =>
    have h : okV X ρ H (match datas ((p0 :: kvs).map (·.2)) with
      | some ds => some (.d (.dict (((p0 :: kvs).map fun p => PyData.tuple (p.1.map keyD)).zip ds)), st)
      | none => none) Q := h
    cases e : datas ((p0 :: kvs).map (·.2)) with
    | none => rw [e] at h; exact h.elim
    | some ds =>
      rw [e] at h
      have e2 := datas_eq e
      rw [e2] at k2
      have ek : ((p0 :: kvs).map fun p => PyData.tuple (p.1.map keyD)) = ws.map fun p => PyData.tuple (p.1.map keyD) := by
        have z := congrArg (List.map fun k : List Key => PyData.tuple (k.map keyD)) k1
        rw [List.map_map, List.map_map] at z
        exact z
      refine h ρ _ _ (rs.ext n) (rs.new n) (.d ?_)
      rw [ek]
      refine .dit upd_same (fun z => ?_) (rs.fresh n) (DRs.mono (rs.ext n) k2.toD)
      subst z
      cases v
theorem se_dictT (hu : X.A.units < cLine) {keys : List (Option Expr)} {values : List Expr} {ps : List (Dens × Den)} (h : PPs X pos keys values (trsT X E ps)) (hall : keys.all (·.isSome) = true) (hl : keys.length = values.length) (h0 : keys ≠ []) (h15 : keys.length ≤ 15) :
    PE X (.Dict keys values pos) (tE X E (dDictT ps)) := by
  refine ⟨fun pins s σ H Q I hq => (pe_dispT hu h hall hl h0 h15).run pins s σ H Q I ?_⟩
  obtain ⟨ρ, fr, st, A, hq⟩ := hq
  intro p n
  have hq := Res.wp_bind hq
  refine pairsT_of (ρ := ρ) (st := st) upd_same (by rw [del_put n]; exact A) (by rw [del_put n]; exact hq) fun ws st1 ρ1 H1 xs hF e1 r1 v1 n1 => ?_
  rw [del_put n] at e1
  cases q : keysOfT ws with
  | none => rw [q] at hF; exact hF.elim
  | some kvs =>
    rw [q] at hF
    dsimp only at hF
    split at hF
    · rename_i hz
      obtain ⟨ls, e2, v2⟩ := keysOfT_ok v1 q
      refine ⟨upd_same, ls, ?_, by rw [← v2.length]; exact hz, ?_⟩
      · refine Paired.mapP e2 fun a b ⟨c, c1, c2, c3⟩ => ⟨c, c1, ?_, c3⟩
        rw [upd_ne (ne_of_none c2 n1)]
        exact c2
      · have hn : okV X ρ1 H1 (newDT (mergePT [] kvs) st1) Q := okV.of (E := E) (σ := σ) e1 (Res.wp_mono hF (fun _ _ q => q) fun _ _ q => q.mono e1)
        have := newDT_ok r1 (VRk.mergeT v2 .nil) hn p n1
        have e3 : upd (upd H1 p (.dT [])) p (.dT (mergeT [] ls)) = upd H1 p (.dT (mergeT [] ls)) := by
          funext b
          by_cases z : b = p
          · rw [z, upd_same, upd_same]
          · rw [upd_ne z, upd_ne z, upd_ne z]
        rw [e3]
        exact this
    · exact hF.elim
theorem spsT_nil : PPs X pos [] [] (trsT X E []) := pps_nil
theorem spsT_cons {es : List Expr} {j : Nat} {tp : Pos} {v : Expr} {ks : List (Option Expr)} {vs : List Expr} {dk : Dens} {dv : Den} {ps : List (Dens × Den)} (hk : PA X es (tEs X E dk)) (hv : PE X v (tE X E dv)) (hr : PPs X pos ks vs (trsT X E ps)) :
    PPs X pos (some (.Tuple es j tp) :: ks) (v :: vs) (trsT X E ((dk, dv) :: ps)) := pps_cons (pe_hideU (pe_tup hk)) (pe_hideU hv) hr
end

/-! ### the keys of a dict -/
def keyPV (k : Key) : PV := .d (keyD k)
/-- a key that is a tuple -/
def keyTV (k : List Key) : PV := .d (.tuple (k.map keyD))
def vListD (m : Bool) : VB := fun vs st => match vs with
  | [.d (.dict kvs)] => if tupH kvs then none else newL m (kvs.map fun p => .d p.1) st
  | [.d (.str x)] => if sizeOk x.length then newL m (x.cps.toList.map fun c => .d (.str ⟨#[c]⟩)) st else none
  | [.cell n] => match st[n]? with
    | some (.dic kvs) => newL m (kvs.map fun p => .d (keyD p.1)) st
    | some (.dicL _) => none
    | some (.dit kvs) => newL m (kvs.map fun p => keyTV p.1) st
    | some (.ditL kvs) => newL m (kvs.map fun p => keyTV p.1) st
    | _ => vListOf m [.cell n] st
  | vs => vListOf m vs st
theorem keys_VRs {K : PySem.W.Frag} {ρ : Cs} {H : Hp} {mg : Str → Option Value} {α : Type} : ∀ {kvs : List (Key × α)}, VRs K ρ H mg (kvs.map fun p => PV.d (keyD p.1)) (kvs.map fun p => kV p.1)
  | [] => .nil
  | p :: r => by
    refine .cons (.d ?_) keys_VRs
    obtain ⟨k, _⟩ := p
    cases k with
    | inl i => exact .int i
    | inr x => exact .str x
theorem keyD_DRs {K : PySem.W.Frag} {ρ : Cs} {H : Hp} : ∀ {k : List Key}, DRs K ρ H (k.map keyD) (k.map kV)
  | [] => .nil
  | .inl i :: r => .cons (.int i) keyD_DRs
  | .inr x :: r => .cons (.str x) keyD_DRs
theorem keysT_VRs {K : PySem.W.Frag} {ρ : Cs} {H : Hp} {mg : Str → Option Value} {st : Store} (rs : RS K ρ H mg st) {ws : List (List Key × V)} {bs : List Addr} (h : IsKeys H ws bs) : VRs K ρ H mg (ws.map fun p => keyTV p.1) (bs.map V.ref) := by
  unfold IsKeys at h
  induction h with
  | nil => exact .nil
  | cons h t ih => exact .cons (.d (.tup (.inl ⟨h, rs.tup h⟩) keyD_DRs)) ih
theorem keysT_eq {K : PySem.W.Frag} {ρ : Cs} {H : Hp} {mg : Str → Option Value} {kvs : List (List Key × PV)} {ws : List (List Key × V)} (h : VRk K ρ H mg kvs ws) : (kvs.map fun p => keyTV p.1) = ws.map fun p => keyTV p.1 := by
  have z := congrArg (List.map keyTV) h.keys.1
  rw [List.map_map, List.map_map] at z
  exact z
theorem keysK_eq {K : PySem.W.Frag} {ρ : Cs} {H : Hp} {mg : Str → Option Value} {kvs : List (Key × PV)} {ws : List (Key × V)} (h : VRk K ρ H mg kvs ws) : (kvs.map fun p => PV.d (keyD p.1)) = ws.map fun p => PV.d (keyD p.1) := by
  have z := congrArg (List.map fun k : Key => PV.d (keyD k)) h.keys.1
  rw [List.map_map, List.map_map] at z
  exact z
theorem signs_vals {x : Str} {vs : List Value} : vs.length = x.cps.toList.length → (∀ (j : Nat) (v : Value), vs[j]? = some v → ∃ c u, x.cps.toList[j]? = some c ∧ v = .str ⟨#[c]⟩ u) → Vals (x.cps.toList.map fun c => V.str ⟨#[c]⟩) vs := by
  generalize x.cps.toList = l
  intro hl h
  induction l generalizing vs with
  | nil =>
    cases vs with
    | nil => exact .nil
    | cons v vs => cases hl
  | cons c l ih =>
    cases vs with
    | nil => cases hl
    | cons v vs =>
      obtain ⟨c', u, e1, e2⟩ := h 0 v rfl
      simp at e1
      subst e1
      exact .cons ⟨u, e2⟩ (ih (by simpa using hl) fun j w e => by simpa using h (j + 1) w (by simpa using e))
theorem call_list_text {X : Cx} (hc : X.calm = true) : CallR X (.type "list") (fun xs H Q => ∃ x, xs = [V.str x] ∧ x.cps.size ≤ sizeLine ∧ ∀ p, H p = none → Q (.ref p) (upd H p (.lst (x.cps.toList.map fun c => V.str ⟨#[c]⟩)))) := by
  intro pins s σ H xs us Q I r h
  obtain ⟨x, rfl, hz, q⟩ := h
  obtain ⟨u, rfl, t, rfl⟩ := r.one
  refine call_list_str (I.ok.hd hc) x t (hn := hz) fun h' tk acc c kp e it => ?_
  have rv : Vals (x.cps.toList.map fun c => V.str ⟨#[c]⟩) acc.toList := signs_vals (by rw [Array.length_toList, it.1, Array.length_toList]) fun j v hv => by
    obtain ⟨c, u, g1, g2⟩ := it.2 j v (by rw [← Array.getElem?_toList]; exact hv)
    exact ⟨c, u, by rw [Array.getElem?_toList]; exact g1, g2⟩
  exact ⟨.ref s.heap.objs.size, _, I.laid (t' := tk) (o := .lst (x.cps.toList.map fun c => V.str ⟨#[c]⟩)) kp (Nat.le_refl _) ⟨by rw [List.length_map, Array.length_toList]; exact hz, acc.toList, c, rv, by rw [Array.toArray_toList]; exact e⟩, rfl, q _ (I.hok.fresh (Nat.le_refl _))⟩
theorem signs_VRs {K : PySem.W.Frag} {ρ : Cs} {H : Hp} {mg : Str → Option Value} : ∀ l : List Nat, VRs K ρ H mg (l.map fun c => PV.d (.str ⟨#[c]⟩)) (l.map fun c => V.str ⟨#[c]⟩)
  | [] => .nil
  | c :: l => .cons (.d (.str _)) (signs_VRs l)
theorem call_list_ok' {X : Cx} (hc : X.calm = true) {m : Bool} : CallR X (.type "list") (rVB X (vListD m)) := by
  intro pins s σ H xs us Q I r h
  obtain ⟨ρ, st, vs, rs, hv, h⟩ := h
  unfold vListD at h
  split at h
  · obtain ⟨x, rfl, hx⟩ := hv.one
    cases hx with
    | d hx =>
      cases hx with
      | dit h1 h0 h2 h3 => rw [tupH_dit h0 h3, if_pos rfl] at h; exact h.elim
      | @dic a ws ds h1 h2 h3 =>
        rw [tupH_dic, if_neg (by decide)] at h
        have e : (((ws.map fun p => keyD p.1).zip ds).map fun p => PV.d p.1) = ws.map fun p => PV.d (keyD p.1) := by
          have hl := h3.length
          have e1 : (((ws.map fun p => keyD p.1).zip ds).map Prod.fst) = ws.map fun p => keyD p.1 := List.map_fst_zip (by simp at hl ⊢; omega)
          have e2 := congrArg (List.map PV.d) e1
          rw [List.map_map, List.map_map] at e2
          exact e2
        rw [e] at h
        exact call_list_dK hc pins s σ H _ us Q I r ⟨_, ws, rfl, h1, newL_ok rs keys_VRs h⟩
  · obtain ⟨x, rfl, hx⟩ := hv.one
    rw [hx.str] at r
    split at h
    · rename_i hz
      exact call_list_text hc pins s σ H _ us Q I r ⟨_, rfl, by have := sizeOk_le hz; exact this, newL_ok rs (signs_VRs _) h⟩
    · exact h.elim
  · rename_i n
    cases q : st[n]? with
    | none => rw [q] at h; exact call_list_ok pins s σ H xs us Q I r ⟨ρ, st, _, rs, hv, h⟩
    | some o =>
      rw [q] at h
      have at_ : ∀ {x : V}, VR X.K ρ H X.mg (.cell n) x → ∃ a, x = .ref a ∧ OR X.K ρ H X.mg o a := fun {x} hx => by
        cases hx with
        | cell hn =>
          obtain ⟨a, e1, e2⟩ := rs.at_ n _ q
          rw [hn] at e1
          cases e1
          exact ⟨_, rfl, e2⟩
      cases o with
      | dic kvs =>
        obtain ⟨x, rfl, hx⟩ := hv.one
        obtain ⟨a, rfl, ws, e2, e3⟩ := at_ hx
        have h : okV X ρ H (newL m (kvs.map fun p => .d (keyD p.1)) st) Q := h
        rw [keysK_eq e3] at h
        exact call_list_dK hc pins s σ H _ us Q I r ⟨_, ws, rfl, e2, newL_ok rs keys_VRs h⟩
      | dit kvs =>
        obtain ⟨x, rfl, hx⟩ := hv.one
        obtain ⟨a, rfl, ws, e2, e3⟩ := at_ hx
        have h : okV X ρ H (newL m (kvs.map fun p => keyTV p.1) st) Q := h
        rw [keysT_eq e3] at h
        exact call_list_dT hc pins s σ H _ us Q I r ⟨_, ws, rfl, .inl e2, fun p bs n hk => newL_ok rs (keysT_VRs rs hk) h p n⟩
      | ditL kvs =>
        obtain ⟨x, rfl, hx⟩ := hv.one
        obtain ⟨a, rfl, od, ws, e2, e3⟩ := at_ hx
        have h : okV X ρ H (newL m (kvs.map fun p => keyTV p.1) st) Q := h
        rw [keysT_eq e3] at h
        exact call_list_dT hc pins s σ H _ us Q I r ⟨_, ws, rfl, .inr ⟨od, e2⟩, fun p bs n hk => newL_ok rs (keysT_VRs rs hk) h p n⟩
      | dicL kvs => exact h.elim
      | _ => exact call_list_ok pins s σ H xs us Q I r ⟨ρ, st, _, rs, hv, h⟩
  · exact call_list_ok pins s σ H xs us Q I r ⟨ρ, st, _, rs, hv, h⟩
end Sr
/-! x[::-1] of tuples and texts; list(range(..)). -/
namespace Sr
open PySem PySem.Spec PyProof.Rows L2
section
variable {prog : Program} {w : World} {A : Around} {E : Value → Shared → Prop} {s : Shared}
theorem back_places (n : Nat) : Builtin.Slice.slicePlaces ((n : Int) - 1) (-1) (-1) = n := by
  simp only [Builtin.Slice.slicePlaces, show ¬ ((-1 : Int) > 0) by decide, if_false, show (- -1 : Int) = 1 by decide, Int.ediv_one]
  split <;> omega
theorem parts_told {sl : Addr} {a b c : Value} {Q : Value × Value × Value → Shared → Prop} (hs : s.heap.IsSliceOf sl a b c) (h : Q (a, b, c) s) : wpAny (model prog w) A (Builtin.Slice.sliceFields (.ref sl)) Q E s := by
  obtain ⟨o, there, _, dat⟩ := hs
  have get : ∀ {i : Nat} {x : Value} {R : Value → Shared → Prop}, (#[a, b, c] : Array Value)[i]? = some x → R x s → wpAny (model prog w) A (field (.ref sl) i) R E s := fun hi => wpAny_field there dat hi
  exact wpAny_bind (get (i := 0) rfl (wpAny_bind (get (i := 1) rfl (wpAny_bind (get (i := 2) rfl (wpAny_pure h))))))
theorem back_applied {sl : Addr} {n : Nat} {u : Tok} {Q : Int × Int × Nat → Shared → Prop} (hs : s.heap.IsSliceOf sl .none .none (.int (-1) u)) (h : Q ((n : Int) - 1, -1, n) s) :
    wpAny (model prog w) A (Builtin.Slice.sliceApplied (.ref sl) (pure (n : Int))) Q E s := by
  have told : Q ((n : Int) - 1, -1, Builtin.Slice.slicePlaces ((n : Int) - 1) (-1) (-1)) s := by rw [back_places]; exact h
  exact wpAny_bind (parts_told hs (wpAny_bind (slicePart_int (wpAny_ite_false (by decide) (wpAny_bind (slicePart_none (wpAny_bind (slicePart_none (wpAny_bind (wpAny_pure (wpAny_pure told)))))))))))
/-- a text from its end -/
def revS (x : Str) : Str := ⟨x.cps.toList.reverse.toArray⟩
theorem items_back (xs : Array Value) : ((List.range xs.size).filterMap fun (m : Nat) => xs[((((xs.size : Nat) : Int) - 1) + (m : Int) * (-1)).toNat]?).toArray = xs.toList.reverse.toArray := by
  have place : ∀ m : Nat, ((((xs.size : Nat) : Int) - 1) + (m : Int) * (-1)).toNat = xs.size - 1 - m := fun m => by omega
  have whole : ((List.range xs.size).map fun k => xs.size - 1 - k).filterMap (xs[·]?) = xs.toList.reverse := by rw [PySem.W.krv_range, List.filterMap_reverse, PySem.W.krv_all]
  simp only [place, ← whole, List.filterMap_map, Function.comp_def]
theorem meets_back (t sl : Addr) (items : Array Value) (u : Tok) : Meets (Builtin.«tuple.__getitem__» ⟨[.ref t, .ref sl], []⟩) (fun _ R s => IsTup s.heap t items ∧ s.heap.IsSliceOf sl .none .none (.int (-1) u) ∧ items.size ≤ sizeLine ∧
    R (.ok (.ret (.ref s.heap.objs.size))) { s with heap := s.heap.push { cls := .type "tuple", data := .seq items.toList.reverse.toArray } }) :=
  .of_wp fun prog w A R s ⟨ht, hs, hz, h⟩ => by
    have kind : s.TypeIs (.ref sl) "slice" := let ⟨o, there, cls, _⟩ := hs; ⟨o, there, cls⟩
    have room : PySem.sizeOk (.seq items.toList.reverse.toArray) := show items.toList.reverse.toArray.size ≤ sizeLine by simpa using hz
    show wpAny _ _ (Builtin.Tuple.tupleItemsOf (.ref t) >>= _) _ _ s
    refine wpAny_bind (tupleItemsOf_ ht (wpAny_bind (wpAny_typeOf kind (wpAny_ite_true (by decide) (wpAny_bind (back_applied hs (wpAny_ite_false (by simp) ?_)))))))
    rw [items_back]
    exact wpAny_bind (wpAny_newObj_type (wpAny_pure ⟨_, rfl, h⟩) room)
end
section
variable {X : Cx} {e : Expr} {te : TE} {k : Nat} {p1 p2 p3 pos : Pos}
/-- the slice of [::-1] -/
theorem back_made {pins : List (Addr × Obj)} {σ : L2.St} {H : Hp} {s : Shared} {Q : Value → Shared → Prop} (I : Inv X pins σ H s) (h : ∀ sl u s', Inv X pins σ H s' → s'.heap.IsSliceOf sl .none .none (.int (-1) u) → Q (.ref sl) s') :
    wpAny (model X.prog X.w) X.A (eval (.Slice none none (some (.UnaryOp .USub (.Constant (.int 1) k p1) p2)) p3) X.env) Q X.xe s := by
  have step : PE X (.UnaryOp .USub (.Constant (.int 1) k p1) p2) _ := pe_un un_neg pe_int
  refine wpAny_Slice (wpAny_pure (wpAny_pure (thn (step.run pins s σ H (fun x H1 => x = .int (-1) ∧ H1 = H) I ⟨1, rfl, rfl, rfl⟩) ?_)))
  rintro v s1 ⟨x, H1, I1, r, rfl, rfl⟩
  obtain ⟨u, rfl⟩ := r
  exact h _ u _ (I1.kept (t' := s1.toks) fun _ _ => Heap.get?_push_of_some _) (Heap.IsSliceOf.new _ _ _ _)
theorem PE.or {t1 t2 : TE} (h1 : PE X e t1) (h2 : PE X e t2) : PE X e (fun σ H Q => t1 σ H Q ∨ t2 σ H Q) := ⟨fun pins s σ H Q I h => h.elim (h1.run pins s σ H Q I) (h2.run pins s σ H Q I)⟩
def tBackT (K : PySem.W.Frag) (te : TE) : TE := fun σ H Q => te σ H fun x H1 => ∃ a xs, x = .ref a ∧ SqT K H1 a xs ∧ ∀ p, H1 p = none → Q (.ref p) (upd H1 p (.tup xs.reverse))
def tBackS (te : TE) : TE := fun σ H Q => te σ H fun x H1 => ∃ z, x = .str z ∧ z.length ≤ sizeLine ∧ Q (.str (revS z)) H1
theorem pe_backT (he : PE X e te) : PE X (.Subscript e (.Slice none none (some (.UnaryOp .USub (.Constant (.int 1) k p1) p2)) p3) pos) (tBackT X.K te) := by
  refine ⟨fun pins s σ H Q I h => Subscript_ (thn (he.run pins s σ H _ I h) ?_)⟩
  rintro v s1 ⟨x, H1, I1, r, a, xs, rfl, there, q⟩
  cases r
  refine back_made I1 fun sl u s2 I2 made => ?_
  obtain ⟨its, each, tup, room⟩ := I2.tuple there
  have size : its.toArray.size ≤ sizeLine := by rw [List.size_toArray, ← each.length]; exact room
  have back : Vals xs.reverse its.toArray.toList.reverse := by rw [List.toList_toArray]; exact each.reverse
  exact tail_any (ops := [.ref a, .ref sl]) tup.typeIs PyProof.Rows.slot_tuple_getitem.lookup (getItem_meets tup.typeIs (by decide) PyProof.Rows.slot_tuple_getitem entry_tuple_getitem (args_tuple_getitem _ _) (meets_back a sl its.toArray u) ⟨tup, made, size,
    .ref _, _, I2.laid (t' := s2.toks) (o := .tup xs.reverse) (fun _ _ => Heap.get?_push_of_some _) (Nat.le_refl _) ⟨by rw [List.length_reverse]; exact room, _, back, IsTup.new _ _⟩, rfl, q _ (I2.hok.fresh (Nat.le_refl _))⟩) (by with_unfolding_all rfl)
theorem pe_backS (he : PE X e te) : PE X (.Subscript e (.Slice none none (some (.UnaryOp .USub (.Constant (.int 1) k p1) p2)) p3) pos) (tBackS te) := by
  refine ⟨fun pins s σ H Q I h => Subscript_ (thn (he.run pins s σ H _ I h) ?_)⟩
  rintro v s1 ⟨x, H1, I1, r, z, rfl, size, q⟩
  obtain ⟨t, rfl⟩ := r
  refine back_made I1 fun sl u s2 I2 made => tail_any (T := "str") (ops := [.str z t, .ref sl]) (typeIs_str _ _ _) PySem.F.slot_str_getitem.lookup (wpAny_getItem_str_slice (l := none) (u := none) (st := some (-1, u)) made rfl ?_) (by with_unfolding_all rfl)
  have told : sliceMade z t none none (some (-1, u)) = .str (revS z) := by
    unfold sliceMade
    rw [if_neg (by simp)]
    show Made.str ⟨((Builtin.Str.strSliceIndices none none (-1) z.length).filterMap (z.cps[·]?)).toArray⟩ = _
    rw [picked_rev, PySem.W.krv_range, List.filterMap_reverse]
    unfold revS
    rw [← PySem.W.krv_all z.cps]
    rfl
  rw [told]
  exact ⟨by show z.cps.toList.reverse.toArray.size ≤ _; rw [List.size_toArray, List.length_reverse, Array.length_toList]; exact size, .str _, H1, I2.tok _, ⟨_, rfl⟩, q⟩
end
def vRev2 (m : Bool) : V1 := fun v st => match v with
  | .d (.str z) => if sizeOk z.length then some (.d (.str (revS z)), st) else none
  | v => match tupItems v with
    | some xs => some (mkTup xs.reverse, st)
    | none => vRev m v st
section
variable {X : Cx} {E : WX} {e : Expr} {d : Den} {pos : Pos}
theorem se_rev2 {m : Bool} {k : Nat} {p1 p2 p3 : Pos} (he : PE X e (tE X E d)) : PE X (.Subscript e (.Slice none none (some (.UnaryOp .USub (.Constant (.int 1) k p1) p2)) p3) pos) (tE X E (dUn (vRev2 m) d)) := by
  refine ⟨fun pins s σ H Q I h => (PE.or (pe_revL he) (PE.or (pe_backT he) (pe_backS he))).run pins s σ H Q I ?_⟩
  obtain ⟨ρ, fr, st, A, h⟩ := h
  have hw := Res.wp_bind h
  cases q : d fr st with
  | bad => rw [q] at hw; exact hw.elim
  | exc x st1 => rw [q] at hw; exact .inl ⟨ρ, fr, st, A, by rw [q]; exact hw⟩
  | ok v st1 =>
    rw [q] at hw
    have said : ∀ {R : VK}, (∀ ρ1 H1 x, Ext ρ H ρ1 H1 → RS X.K ρ1 H1 X.mg st1 → VR X.K ρ1 H1 X.mg v x → R x H1) → tE X E d σ H R := tE.of_ok A q
    have told : ∀ {ρ1 : Cs} {H1 : Hp}, Ext ρ H ρ1 H1 → okV X ρ1 H1 (vRev2 m v st1) Q := fun {ρ1 H1} e1 => okV.of (E := E) (σ := σ) e1 (Res.wp_mono (show (lift (vRev2 m v st1)).wp _ _ from hw) (fun _ _ z => z) fun _ _ z => z.mono e1)
    clear hw
    unfold vRev2 at told
    split at told
    · rename_i z
      refine .inr (.inr (said fun ρ1 H1 x e1 r1 v1 => ?_))
      have h1 := told e1
      split at h1
      · rename_i hz
        exact ⟨z, v1.str, sizeOk_le hz, h1 ρ1 H1 _ (Ext.refl _ _) r1 (.d (.str _))⟩
      · exact h1.elim
    · split at told
      · rename_i xs q2
        refine .inr (.inl (said fun ρ1 H1 x e1 r1 v1 => ?_))
        obtain ⟨p, vs, rfl, f, hv⟩ := tupItems_ok v1 q2
        exact ⟨p, vs, rfl, f.sq, fun t nt => told e1 ρ1 _ _ (r1.ext nt) (r1.new nt) (new_tup r1 hv.reverse nt)⟩
      · refine .inl (said fun ρ1 H1 x e1 r1 v1 => ?_)
        have h1 := told e1
        unfold vRev at h1
        split at h1
        · rename_i hl
          obtain ⟨p, vs, xs, rfl, g1, g2, g3⟩ := isList_ok r1 v1 hl
          rw [g2] at h1
          exact ⟨p, vs, rfl, .inl g1, newL_ok r1 g3.reverse h1⟩
        · exact h1.elim
end

/-! ### list(range(..)) -/
def dListRg1 (m : Bool) (a : Den) : Den := fun fr st => (a fr st).bind fun v st1 => match v with
  | .d (.int j) => if inB j then lift (newL m (rangeVals 0 (j - 0).toNat) st1) else .bad
  | _ => .bad
def dListRg2 (m : Bool) (a b : Den) : Den := fun fr st => (a fr st).bind fun v st1 => (b fr st1).bind fun w st2 => match v, w with
  | .d (.int i), .d (.int j) => if inB i && inB j then lift (newL m (rangeVals i (j - i).toNat) st2) else .bad
  | _, _ => .bad
theorem rgV_VRs {K : PySem.W.Frag} {ρ : Cs} {H : Hp} {mg : Str → Option Value} (i j : Int) : VRs K ρ H mg (rangeVals i (j - i).toNat) (rgV i j) := by
  unfold rangeVals rgV
  generalize (List.range (j - i).toNat) = l
  induction l with
  | nil => exact .nil
  | cons a l ih => exact .cons (.d (.int _)) ih
section
variable {X : Cx} {E : WX} {a b : Expr} {da db : Den} {p p2 pos pos2 : Pos}
theorem rg_ok {i j : Int} (hi : inB i = true) (hj : inB j = true) : RgOk i j := by
  have h1 := inB_ok hi
  have h2 := inB_ok hj
  exact ⟨by omega, by omega, by omega, by omega, by omega⟩
theorem se_listRg1 {m : Bool} (hc : X.calm = true) (hgl : Gl X "list") (hml : X.mg "list" = none) (hg : Gl X "range") (hm : X.mg "range" = none) (ha : PE X a (tE X E da)) (hs : noStar [a] = true) :
    PE X (.Call (.Name "list" p) [.Call (.Name "range" p2) [a] [] pos2] [] pos) (tE X E (dListRg1 m da)) := by
  refine ⟨fun pins s σ H Q I h => (pe_listRg hc hgl hml (prg_1 hg hm ha (star_cons hs).1)).run pins s σ H Q I ?_⟩
  obtain ⟨ρ, fr, st, A, h⟩ := h
  refine tE.step A h fun v st1 ρ1 H1 x e1 A1 v1 h1 => ?_
  split at h1
  · rename_i k
    split at h1
    · rename_i hb
      exact ⟨k, v1.int, rg_ok (by decide) hb, newL_ok A1.rs (rgV_VRs 0 k) (okV.of e1 h1)⟩
    · exact h1.elim
  · exact h1.elim
theorem se_listRg2 {m : Bool} (hc : X.calm = true) (hgl : Gl X "list") (hml : X.mg "list" = none) (hg : Gl X "range") (hm : X.mg "range" = none) (ha : PE X a (tE X E da)) (hb : PE X b (tE X E db)) (hs : noStar [a, b] = true) :
    PE X (.Call (.Name "list" p) [.Call (.Name "range" p2) [a, b] [] pos2] [] pos) (tE X E (dListRg2 m da db)) := by
  have h2 := star_cons (env := X.env) hs
  have h3 := star_cons (env := X.env) h2.2
  refine ⟨fun pins s σ H Q I h => (pe_listRg hc hgl hml (prg_2 hg hm ha hb h2.1 h3.1 (star_any h2.2))).run pins s σ H Q I ?_⟩
  obtain ⟨ρ, fr, st, A, h⟩ := h
  refine tE.step A h fun v st1 ρ1 H1 x e1 A1 v1 h1 => ?_
  refine tE.step A1 h1 fun w st2 ρ2 H2 y e2 A2 v2 h2 => ?_
  split at h2
  · rename_i i j
    split at h2
    · rename_i hb
      rw [Bool.and_eq_true] at hb
      exact ⟨i, j, (v1.mono e2).int, v2.int, rg_ok hb.1 hb.2, newL_ok A2.rs (rgV_VRs i j) (okV.of (e1.trans e2) h2)⟩
    · exact h2.elim
  · exact h2.elim
end
end Sr
/-! a list times an int. -/
namespace Sr
open PySem L2
section
variable {X : Cx}
def rRepR : R2 := fun x y H Q => ∃ l k xs, x = .ref l ∧ y = .int k ∧ Rd H l (.lst xs) ∧ -(2 ^ 63) ≤ k ∧ k < 2 ^ 63 ∧ xs.length * k.toNat ≤ sizeLine ∧
  ∀ p, H p = none → Q (.ref p) (upd H p (.lst (List.replicate k.toNat xs).flatten))
/-- copies joined from the left -/
theorem joined_copies (its : List Value) : ∀ (m : Nat) (acc : Array Value), (List.replicate m its.toArray).foldl (fun p q => p ++ q) acc = acc ++ (List.replicate m its).flatten.toArray
  | 0, acc => by simp
  | m + 1, acc => by
    rw [List.replicate_succ, List.foldl_cons, joined_copies its m, List.replicate_succ, List.flatten_cons, Array.append_assoc]
    simp
theorem mul_items (its : List Value) (m : Nat) : (List.replicate (if its.toArray.isEmpty = true then 0 else m) its.toArray).foldl (fun p q => p ++ q) #[] = (List.replicate m its).flatten.toArray := by
  rw [joined_copies]
  by_cases he : its = []
  · subst he
    simp
  · rw [if_neg (by simpa using he)]
    simp
theorem op_repR : OpR X (binaryOp .Mult) rRepR := by
  rintro pins s σ H _ _ _ _ Q I rx ry ⟨l, k, xs, rfl, rfl, there, low, high, fits, post⟩
  cases rx
  obtain ⟨t, rfl⟩ := ry
  obtain ⟨_, its, n, each, same, at_l⟩ := lstR I there
  rw [same] at fits
  have small : its.toArray.size * k.toNat ≤ sizeLine := by simpa using fits
  have meet := AutoListH.list___mul___list_int_3 l its.toArray n k t (by rw [fitsIndex_both low high]; decide) (fun z => absurd small (Nat.not_le.mpr (Nat.lt_of_le_of_lt (by decide) z))) (by rw [notLongL small]; decide)
  rw [mul_items] at meet
  have typed : s.TypeIs (.ref l) "list" := ⟨_, at_l, rfl⟩
  have laid := I.lnew (t' := s.toks) (each.rep k.toNat) (by rw [PyProof.Rows.lm_len_rep_flat, same, Nat.mul_comm]; exact fits)
  have done : wpAny (model X.prog X.w) X.A (call (.builtin "list.__mul__") [.ref l, .int k t]) (EP X pins σ Q) X.xe s := call_meets F.slot_list_mul typed F.entry_list_mul (F.args_list_mul_2 _ _) meet ⟨at_l, V.ref s.heap.objs.size, _, laid, rfl, post _ I.fresh⟩
  exact wpAny_binaryOp_repeat_ref (T := "list") (U := "int") (by decide) typed (typeIs_int · k t) noFill_list_mul F.fills_int_mul F.slot_int_rmul repeat_list F.slot_int_index.lookup
    (call_meets F.slot_int_rmul (typeIs_int s k t) F.entry_int_rmul (F.args_int_rmul_2 _ _) (int___rmul___int_list k t l its.toArray n) ⟨at_l, rfl, typed, done⟩)
end
def vMul2P (m : Bool) : V2 := fun v w st => match w with
  | .d (.int k) => if isList v st then match seqItems v st with
      | some xs => if decide (0 ≤ k) && decide (k ≤ 1000) && decide (xs.length ≤ 1000) then newL m (List.replicate k.toNat xs).flatten st else none
      | none => none
    else vMulT v w st
  | _ => vMulT v w st
theorem op_mul2P_ok {X : Cx} {m : Bool} : OpR X (binaryOp .Mult) (rV2 X (vMul2P m)) := by
  intro pins s σ H x y v u Q I rx ry h
  have h0 := h
  obtain ⟨ρ, st, a, b, rs, ha, hb, h⟩ := h
  unfold vMul2P at h
  split at h
  · rename_i k
    split at h
    · rename_i hl
      obtain ⟨p, vs, xs, rfl, g1, g2, g3⟩ := isList_ok rs ha hl
      rw [g2] at h
      dsimp only at h
      split at h
      · rename_i hz
        simp only [Bool.and_eq_true, decide_eq_true_eq] at hz
        refine op_repR pins s σ H _ _ v u Q I rx ry ⟨p, k, vs, rfl, hb.int, g1, by omega, by omega, ?_, newL_ok rs (g3.rep k.toNat) h⟩
        have h1 : vs.length ≤ 1000 := by rw [← g3.length]; exact hz.2
        have h2 : k.toNat ≤ 1000 := by omega
        exact Nat.le_trans (Nat.mul_le_mul h1 h2) (by decide)
      · exact h.elim
    · exact op_mulT_ok pins s σ H x y v u Q I rx ry ⟨ρ, st, a, _, rs, ha, hb, h⟩
  · exact op_mulT_ok pins s σ H x y v u Q I rx ry ⟨ρ, st, a, _, rs, ha, hb, h⟩
end Sr
/-! sorted of a tuple. -/
namespace PySem.W
open PySem PySem.Calls PyProof.Rows
section
variable {prog : Program} {w : World} {A : Around} {E : Value → Shared → Prop} {s : Shared}
/-- sorted(t), t a tuple of alike data: a new list of the same, in order -/
theorem sorted_tuple {β : Type} {bs : List β} {enc : β → PyData} {R : Value → β → Prop} {vs : List Value} {l : Addr} {o : Obj} {n : Nat} {Q : Value → Shared → Prop} (ho : s.heap.get? l = some o) (hc : o.cls = .type "tuple") (hd : o.data = .seq vs.toArray n)
    (e : EachIs R vs bs) (er : EachIs (fun v b => ∃ as, Reads s.heap v (enc b) as) vs bs) (al : AllAlike (bs.map enc)) (so : Sortable (bs.map enc)) (hz : bs.length ≤ sizeLine) (hu : ∀ b, b ∈ bs → A.units + 3 + (enc b).depth < cLine)
    (h : ∀ (h1 h2 : Heap) (out : List Value) (c : Nat), (∀ b u, s.heap.get? b = some u → h1.get? b = some u) → (∀ b u, h1.get? b = some u → h2.get? b = some u) → h2.get? h1.objs.size = some (seqObj "list" out.toArray c) → out.length = bs.length → EachIs R out (bs.mergeSort (dataLe false enc)) → Q (.ref h1.objs.size) { s with heap := h2 }) :
    wpAny (model prog w) A (call (.builtin "sorted") [.ref l]) Q E s := by
  have hv : vs.length ≤ sizeLine := by rw [e.length]; exact hz
  refine call_function_entry kind_sorted plain_sorted entry_sorted (args_sorted1 _) ?_
  show wpAny _ _ (checkCount "sorted" 1 1 _ >>= _) _ _ s
  refine wpAny_bind (wpAny_pure (wpAny_bind (wpAny_collect_seq l (.inr rfl) ho hc hd (fun h1 k1 => ?_) (by simpa using hv))))
  rw [List.toList_toArray]
  refine wpAny_bind (wpAny_newList ?_ hv)
  have new : (h1.push (seqObj "list" vs.toArray 0)).get? h1.objs.size = some (seqObj "list" vs.toArray 0) := Heap.get?_push_size _ rfl
  have kept : ∀ b u, h1.get? b = some u → (h1.push (seqObj "list" vs.toArray 0)).get? b = some u := fun _ _ z => Heap.get?_push_of_some _ z
  refine wpAny_bind (wpAny_holding (list_sort_data (R := R) (enc := enc) (bs := bs) (vs := vs) (n := 0) (a := h1.objs.size) new e (er.mono fun v b q => ?_) al so hz (fun b hb => ?_) fun out h2 h3 => ?_))
  · obtain ⟨as, r⟩ := q
    refine ⟨as, Reads.keeps (fun b u z => kept b u (k1 b u z)) r, fun z => ?_⟩
    obtain ⟨u, hu2⟩ := PyProof.On.reads_mem_get r _ z
    exact Nat.lt_irrefl _ (Heap.lt_size (k1 _ u hu2))
  · have := hu b hb
    show A.units + 1 + 1 + _ < _
    omega
  · obtain ⟨c, hc2⟩ := sortedHeap_at (out := out.toArray) new
    refine wpAny_pure ⟨_, rfl, h h1 _ out c k1 (fun b u z => ?_) hc2 h2 h3⟩
    rw [sortedHeap_old (Nat.ne_of_lt (Heap.lt_size z)) (Heap.lt_size (kept b u z))]
    exact kept b u z
end
end PySem.W
namespace Sr
open PySem L2
def sortOf (m : Bool) (xs : List PV) (st : Store) : Option (PV × Store) := match frzL (frz 6 st) xs with
  | some ds => if alikeL ds && (ds.all isTup1 || ds.all noTup) && (ds.all fun d => d.plain && decide (d.depth ≤ 100)) && decide (ds.length ≤ 1000000) then newL m ((insSort leP (xs.zip ds)).map (fun q : PV × PyData => q.1)) st else none
  | none => none
def vSorted (m : Bool) : VB := fun vs st => match vs with
  | [v] => match tupItems v with
    | some xs => sortOf m xs st
    | none => vSortedL m [v] st
  | _ => none
theorem call_sorted_ok {X : Cx} (hu : X.A.units + 150 < cLine) {m : Bool} : CallR X (.builtin "sorted") (rVB X (vSorted m)) := by
  intro pins s σ H xs us Q I r h
  have h0 := h
  obtain ⟨ρ, st, vs, rs, hv, h⟩ := h
  unfold vSorted at h
  split at h
  · rename_i v
    cases qt : tupItems v with
    | none =>
      rw [qt] at h
      exact call_sortedL_ok hu pins s σ H xs us Q I r ⟨ρ, st, _, rs, hv, h⟩
    | some ys =>
      rw [qt] at h
      dsimp only at h
      unfold sortOf at h
      obtain ⟨z, rfl, hz⟩ := hv.one
      obtain ⟨a, ws, rfl, f1, g3⟩ := tupItems_ok hz qt
      cases q : frzL (frz 6 st) ys with
      | none => rw [q] at h; exact h.elim
      | some ds =>
        rw [q] at h
        dsimp only at h
        split at h
        · rename_i hc
          simp only [Bool.and_eq_true, Bool.or_eq_true, List.all_eq_true, decide_eq_true_eq] at hc
          obtain ⟨⟨⟨c1, c2⟩, c3⟩, c4⟩ := hc
          obtain ⟨its, rv, hget, hz2⟩ := I.tuple f1.sq
          obtain rfl := Vals.ref1 r
          obtain ⟨bs, b1, b2, b3, b4, b5⟩ := each3 I rs g3 rv q fun d hd => (c3 d hd).1
          have hlb : bs.length = ds.length := by rw [← b2, List.length_map]
          have hle : bs.mergeSort (PySem.W.dataLe false (·.d)) = insSort (fun a b => leP (a.p, a.d) (b.p, b.d)) bs :=
            (insSort_eq (PySem.W.sortLe_total (PyProof.Rows.listOrd PyProof.Rows.itemOrd) false fun b : It3 => PySem.W.keyToks b.d) bs).symm
          have al : PySem.W.AllAlike (bs.map (·.d)) := by
            rw [b2]
            intro d hd d' hd'
            have := c1
            unfold alikeL at this
            rw [List.all_eq_true] at this
            exact List.all_eq_true.mp (this d hd) d' hd'
          have srt : PySem.W.Sortable (bs.map (·.d)) := by
            rw [b2]
            rcases c2 with c2 | c2
            · refine .inl fun d hd => ?_
              have := c2 d hd
              unfold isTup1 at this
              split at this
              · exact ⟨_, _, rfl⟩
              · cases this
            · refine .inr fun d hd => ?_
              have := c2 d hd
              constructor
              · rintro rfl; cases this
              · rintro xs rfl; cases this
          obtain ⟨o, ho, hc, n, hd⟩ := hget
          refine PySem.W.sorted_tuple (l := a) (vs := its) (bs := bs) (enc := (·.d)) (R := RI ρ H X) ho hc hd b4 b5 al srt (by rw [hlb]; exact Nat.le_trans c4 mil) (fun b hb => ?_) fun g1 g2 out cc k1 k2 he' h1 h2 => ?_
          · have := (c3 b.d (by rw [← b2]; exact List.mem_map.mpr ⟨b, hb, rfl⟩)).2
            omega
          · rw [hle] at h2
            obtain ⟨o1, o2⟩ := outs3 h2
            have insMap : ∀ l : List It3, (insSort (fun a b => leP (a.p, a.d) (b.p, b.d)) l).map (fun b => (b.p, b.d)) = insSort leP (l.map fun b => (b.p, b.d)) := by
              have ib : ∀ (a : It3) (l : List It3), (insB (fun a b => leP (a.p, a.d) (b.p, b.d)) a l).map (fun b => (b.p, b.d)) = insB leP (a.p, a.d) (l.map fun b => (b.p, b.d)) := by
                intro a l
                induction l with
                | nil => rfl
                | cons b l ih =>
                  show ((if leP (a.p, a.d) (b.p, b.d) = true then a :: b :: l else b :: insB _ a l) : List It3).map _ = if leP (a.p, a.d) (b.p, b.d) = true then _ else _
                  split
                  · rfl
                  · rw [List.map_cons, ih]
              intro l
              induction l with
              | nil => rfl
              | cons b l ih =>
                show (insB _ b (insSort _ l)).map _ = insB leP (b.p, b.d) (insSort leP (l.map _))
                rw [ib, ih]
            have ep : (insSort (fun a b => leP (a.p, a.d) (b.p, b.d)) bs).map (·.p) = (insSort leP (ys.zip ds)).map (fun q : PV × PyData => q.1) := by
              rw [← b1, ← insMap, List.map_map]
              rfl
            rw [ep] at o2
            have hlo : ((insSort (fun a b => leP (a.p, a.d) (b.p, b.d)) bs).map (·.x)).length ≤ sizeLine := by
              rw [o1.length, h1, hlb]
              exact Nat.le_trans c4 mil
            have I1 : Inv X pins σ H { s with heap := g1 } := I.kept (t' := s.toks) k1
            exact ⟨.ref _, upd H g1.objs.size (.lst ((insSort (fun a b => leP (a.p, a.d) (b.p, b.d)) bs).map (·.x))), I1.laid (t' := s.toks) k2 (Nat.le_refl _) ⟨hlo, out, cc, o1, he'⟩, rfl, newL_ok rs o2 h _ (I1.hok.fresh (Nat.le_refl _))⟩
        · exact h.elim
  · exact h.elim
end Sr
/-! repr of data with empty dicts within. -/
namespace Sr
open PySem L2
mutual
def shy : PyData → Bool
  | .none => true
  | .bool _ => true
  | .int _ => true
  | .str _ => true
  | .list xs => shyAll xs
  | .tuple xs => shyAll xs
  | .dict kvs => kvs.isEmpty
def shyAll : List PyData → Bool
  | [] => true
  | x :: xs => shy x && shyAll xs
end
section
variable {X : Cx} {pins : List (Addr × Obj)} {σ : L2.St} {ρ : Cs} {H : Hp} {s : Shared}
theorem DRs.len {K : PySem.W.Frag} : ∀ {ds : List PyData} {vs : List V}, DRs K ρ H ds vs → ds.length = vs.length
  | _, _, .nil => rfl
  | _, _, .cons _ h => by rw [List.length_cons, List.length_cons, h.len]
theorem dr_dic0 {K : PySem.W.Frag} {d : PyData} {v : V} (h : DR K ρ H d v) (e : d = .dict []) : ∃ a, v = .ref a ∧ H a = some (.dK []) := by
  cases h with
  | @dic a kvs ds h1 h2 h3 =>
    have e := PyData.dict.inj e
    have l := h3.len
    rw [List.length_map] at l
    have e1 := congrArg List.length e
    rw [List.length_zip, List.length_map, l, Nat.min_self] at e1
    obtain rfl := List.eq_nil_of_length_eq_zero e1
    exact ⟨a, rfl, h1⟩
  | @dit a kvs ds h1 h2 h3 h4 =>
    have e := PyData.dict.inj e
    have l := h4.len
    rw [List.length_map] at l
    have e1 := congrArg List.length e
    rw [List.length_zip, List.length_map, l, Nat.min_self] at e1
    exact absurd (List.eq_nil_of_length_eq_zero e1) h2
  | _ => cases e
def Sysm (K : PySem.W.Frag) : Prop := ∃ o, K.lookup sysModules = some o
theorem H_sysm (S : Sysm X.K) (I : Inv X pins σ H s) : H sysModules = none := by
  obtain ⟨o, ho⟩ := S
  exact (I.bs _ _ (I.mod.kin _ _ ho)).2
theorem ne_sysm (S : Sysm X.K) (I : Inv X pins σ H s) {a : Addr} {o : HO} (h : H a = some o) : sysModules ≠ a := by
  rintro rfl
  rw [H_sysm S I] at h
  cases h
mutual
theorem DR.reads2 (S : Sysm X.K) (I : Inv X pins σ H s) : ∀ (d : PyData) (v : V) (u : Value), shy d = true → DR X.K ρ H d v → RelV v u → ∃ as, Reads s.heap u d as ∧ sysModules ∉ as
  | .none, _, _, _, h, r => by
    cases h
    cases r
    exact ⟨_, Reads.none, List.not_mem_nil⟩
  | .bool b, _, _, _, h, r => by
    cases h
    cases r
    exact ⟨_, Reads.bool b, List.not_mem_nil⟩
  | .int i, _, _, _, h, r => by
    cases h
    obtain ⟨t, rfl⟩ := r
    exact ⟨_, Reads.int i t, List.not_mem_nil⟩
  | .str x, _, _, _, h, r => by
    cases h
    obtain ⟨t, rfl⟩ := r
    exact ⟨_, Reads.str x t, List.not_mem_nil⟩
  | .list ds, _, _, p, h, r => by
    cases h with
    | lst hs ha =>
      cases r
      obtain ⟨its, rv, ⟨o, n, ho, hc, _, hd⟩, _⟩ := I.list (xs := _) hs.sq
      obtain ⟨as, hr, hn⟩ := DRs.reads2 S I ds _ its (by rw [shy] at p; exact p) ha rv
      refine ⟨_, Reads.list ho hc hd hr, fun hm => ?_⟩
      rcases List.mem_cons.mp hm with hm | hm
      · rcases hs.1 with h | ⟨o', h⟩
        · exact ne_sysm S I h hm
        · exact ne_sysm S I h hm
      · exact hn hm
  | .tuple ds, _, _, p, h, r => by
    cases h with
    | tup hs ha =>
      cases r
      obtain ⟨its, rv, ⟨o, ho, hc, n, hd⟩, _⟩ := I.tuple hs.sq
      obtain ⟨as, hr, hn⟩ := DRs.reads2 S I ds _ its (by rw [shy] at p; exact p) ha rv
      exact ⟨_, Reads.tuple ho hc hd hr, hn⟩
  | .dict kvs, _, _, p, h, r => by
    have p : kvs.isEmpty = true := by rw [shy] at p; exact p
    obtain rfl := List.isEmpty_iff.mp p
    obtain ⟨a, rfl, ha⟩ := dr_dic0 h rfl
    cases r
    obtain ⟨z, hsm, vs, kv, o, es, ep, ho, hx, hdt, r1, r2, r3⟩ := I.hok a _ ha
    have hvs : vs = [] := List.eq_nil_of_length_eq_zero (by have := Paired.length kv; rw [← this]; rfl)
    subst hvs
    have hes : es = #[] := Array.eq_empty_of_size_eq_zero (by have := r2.length; rw [Array.length_toList] at this; exact this)
    subst hes
    refine ⟨_, Reads.dict (kvs := []) (as := []) (bs := []) ho hx.1 hdt .nil .nil, fun hm => ?_⟩
    rcases List.mem_append.mp hm with hm | hm
    · obtain rfl := List.mem_singleton.mp hm
      simp at hsm
    · cases hm
theorem DRs.reads2 (S : Sysm X.K) (I : Inv X pins σ H s) : ∀ (ds : List PyData) (vs : List V) (us : List Value), shyAll ds = true → DRs X.K ρ H ds vs → Vals vs us → ∃ as, ReadsAll s.heap us ds as ∧ sysModules ∉ as
  | [], _, _, _, h, r => by
    cases h
    cases r
    exact ⟨_, ReadsAll.nil, List.not_mem_nil⟩
  | d :: ds, _, _, p, h, r => by
    rw [shyAll, Bool.and_eq_true] at p
    cases h with
    | cons h1 h2 =>
      cases r with
      | cons r1 r2 =>
        obtain ⟨as, q1, n1⟩ := DR.reads2 S I d _ _ p.1 h1 r1
        obtain ⟨bs, q2, n2⟩ := DRs.reads2 S I ds _ _ p.2 h2 r2
        exact ⟨_, ReadsAll.cons q1 q2, fun hm => (List.mem_append.mp hm).elim n1 n2⟩
end
end
def vRepr : VB := fun vs st => match vs with
  | [.d d] => if d.showable && shy d && decide (d.depth ≤ 100) && sizeOk d.shown.length then some (.d (.str d.shown), st) else none
  | vs => vReprP vs st
theorem call_repr_ok {X : Cx} (hu : X.A.units + 150 < cLine) (hg : X.A.guards = some []) (S : Sysm X.K) : CallR X (.builtin "repr") (rVB X vRepr) := by
  intro pins s σ H xs us Q I r h
  have h0 := h
  obtain ⟨ρ, st, vs, rs, hv, h⟩ := h
  unfold vRepr at h
  split at h
  · rename_i d
    obtain ⟨x, rfl, hx⟩ := hv.one
    split at h
    · rename_i hc
      simp only [Bool.and_eq_true, decide_eq_true_eq] at hc
      obtain ⟨⟨⟨c1, c2⟩, c3⟩, c4⟩ := hc
      have hz := sizeOk_le c4
      have fin := h ρ H _ (Ext.refl _ _) rs (.d (.str _))
      obtain ⟨u, rfl, ru⟩ := vals1 r
      obtain ⟨as, rd, hn⟩ := DR.reads2 S I d x u c2 (by cases hx with | d h => exact h) ru
      cases rd with
      | none => exact P.repr_of_none ⟨.str _, H, I.tok _, ⟨_, rfl⟩, by simpa only [PyData.shown] using fin⟩
      | bool b => exact P.repr_of_bool ⟨.str _, H, I.tok _, ⟨_, rfl⟩, by simpa only [PyData.shown] using fin⟩
      | int i t =>
        have hi : i.natAbs.log2 < 1920 := by simpa [PyData.showable] using c1
        exact PySem.P.repr_of_int hi ⟨.str _, H, I.tok _, ⟨_, rfl⟩, by simpa only [PyData.shown] using fin⟩
      | str z t =>
        exact P.repr_of_str (hsz := by simpa only [PyData.shown] using hz) ⟨.str _, H, I.tok _, ⟨_, rfl⟩, by simpa only [PyData.shown] using fin⟩
      | @list a o ws n ds bs h1 h2 h3 h4 =>
        exact repr_of_reads' (Reads.list h1 h2 h3 h4) c1 (fun _ => hn) hg (by omega) (fun _ _ e => e) (fun h' t tk hk => ⟨.str _, H, I.kept (t' := tk) hk, ⟨t, rfl⟩, fin⟩) hz
      | @tuple a o ws n ds bs h1 h2 h3 h4 =>
        exact repr_of_reads' (Reads.tuple h1 h2 h3 h4) c1 (fun _ => hn) hg (by omega) (fun _ _ e => e) (fun h' t tk hk => ⟨.str _, H, I.kept (t' := tk) hk, ⟨t, rfl⟩, fin⟩) hz
      | dict h1 h2 h3 h4 h5 =>
        exact repr_of_reads' (Reads.dict h1 h2 h3 h4 h5) c1 (fun _ => hn) hg (by omega) (fun _ _ e => e) (fun h' t tk hk => ⟨.str _, H, I.kept (t' := tk) hk, ⟨t, rfl⟩, fin⟩) hz
    · exact h.elim
  · exact call_reprP_ok hu hg pins s σ H xs us Q I r ⟨ρ, st, _, rs, hv, h⟩
end Sr
namespace Sr
open PySem PySem.Spec PyProof.Rows L2
theorem tuple_mul_few (l : Addr) (items : Array Value) (n : Nat) (dd : Option Addr) (sl : Array (Option Value)) (x : Int) (u : Tok) (lo : -(2 ^ 63) ≤ x) (hi : x ≤ 1) :
    Meets (Builtin.«tuple.__mul__» ⟨[.ref l, .int x u], []⟩) (fun _ R s => s.heap.get? l = some { cls := .type "tuple", dict := dd, data := .seq items n, slots := sl } ∧
      if (items.isEmpty || x == 1) = true then R (.ok (.ret (Value.ref l))) s else R (.ok (.ret (Value.ref s.heap.objs.size))) { s with heap := s.heap.push { cls := Value.type "tuple", data := Data.seq #[] } }) :=
  .of_wp fun prog w A R s h => by
    cases s
    cases h with | intro hl h => 
    have ix := AutoSeq1.idx_int
    have fits : (decide (x < -(2 ^ 63)) || decide (x ≥ 2 ^ 63)) = false := by simp; omega
    wp_walk using wpAny_loadPart' hl
    refine wpAny_ite_false (decide_eq_false (by rw [fits]; decide)) ?_
    wp_walk using wpAny_loadPart' hl
    by_cases same : (items.isEmpty || x == 1) = true
    · rw [if_pos same] at h
      refine wpAny_ite_true (decide_eq_true same) ?_
      wp_walk using wpAny_loadPart' hl
      exact ⟨_, rfl, h⟩
    · rw [if_neg same] at h
      have gone : (decide (x ≤ 0) || items.isEmpty) = true := by
        simp only [Bool.or_eq_true, beq_iff_eq, not_or] at same
        rw [decide_eq_true (by omega)]
        rfl
      refine wpAny_ite_false (decide_eq_false same) (wpAny_ite_true (decide_eq_true gone) ?_)
      wp_walk using wpAny_loadPart' hl
      exact ⟨_, rfl, h⟩
def rRep1 (K : PySem.W.Frag) : R2 := fun x y H Q => ∃ l k xs, x = .ref l ∧ y = .int k ∧ SqT K H l xs ∧ -(2 ^ 63) ≤ k ∧ k ≤ 1 ∧ ((xs = [] ∨ k = 1) → Q (.ref l) H) ∧ (¬ (xs = [] ∨ k = 1) → ∀ p, H p = none → Q (.ref p) (upd H p (.tup [])))
theorem op_rep1 {X : Cx} : OpR X (binaryOp .Mult) (rRep1 X.K) := by
  rintro pins s σ H _ _ _ _ Q I rx ry ⟨l, k, xs, rfl, rfl, there, low, few, stays, gone⟩
  cases rx
  obtain ⟨t, rfl⟩ := ry
  obtain ⟨its, each, ⟨o, at_l, cls, n, dat⟩, _⟩ := I.tuple there
  cases o
  dsimp only at cls dat
  subst cls dat
  have typed : s.TypeIs (.ref l) "tuple" := ⟨_, at_l, rfl⟩
  have void : its.toArray.isEmpty = xs.isEmpty := by cases each <;> rfl
  have done : wpAny (model X.prog X.w) X.A (call (.builtin "tuple.__mul__") [.ref l, .int k t]) (EP X pins σ Q) X.xe s := by
    refine call_meets F.slot_tuple_mul typed F.entry_tuple_mul (F.args_tuple_mul_2 _ _) (tuple_mul_few l its.toArray n _ _ k t low few) ⟨at_l, ?_⟩
    rw [void]
    split
    · rename_i c
      simp only [Bool.or_eq_true, List.isEmpty_iff, beq_iff_eq] at c
      exact ⟨.ref l, H, I, rfl, stays c⟩
    · rename_i c
      simp only [Bool.or_eq_true, List.isEmpty_iff, beq_iff_eq] at c
      have nothing : ObjOk X.prog X.w (upd H s.heap.objs.size (.tup [])) (s.heap.push { cls := Value.type "tuple", data := Data.seq #[] }) s.heap.objs.size (.tup []) := ⟨Nat.zero_le _, [], .nil, IsTup.new _ _⟩
      exact ⟨.ref s.heap.objs.size, _, I.laid (t' := s.toks) (fun _ _ => Heap.get?_push_of_some _) (Nat.le_refl _) nothing, rfl, gone c _ I.fresh⟩
  exact wpAny_binaryOp_repeat_ref (T := "tuple") (U := "int") (by decide) typed (typeIs_int · k t) noFill_tuple_mul F.fills_int_mul F.slot_int_rmul repeat_tuple F.slot_int_index.lookup
    (call_meets F.slot_int_rmul (typeIs_int s k t) F.entry_int_rmul (F.args_int_rmul_2 _ _) (int_rmul_tuple k t l its.toArray n _ _) ⟨at_l, rfl, typed, done⟩)
/-! tuple * k, k at most 1 -/
def vRep1 : V2 := fun v w st => match w with
  | .d (.int k) => match tupItems v with
    | some xs => if decide (-1000000 ≤ k) && decide (k ≤ 1) then (if xs.isEmpty || k == 1 then some (v, st) else some (.d (.tuple []), st)) else none
    | none => none
  | _ => none
theorem op_vRep1 {X : Cx} : OpR X (binaryOp .Mult) (rV2 X vRep1) := by
  intro pins s σ H x y v u Q I rx ry h
  obtain ⟨ρ, st, a, b, rs, ha, hb, h⟩ := h
  unfold vRep1 at h
  split at h
  · rename_i k
    cases q : tupItems a with
    | none => rw [q] at h; exact h.elim
    | some xs =>
      rw [q] at h
      dsimp only at h
      split at h
      · rename_i hz
        simp only [Bool.and_eq_true, decide_eq_true_eq] at hz
        obtain ⟨p, vs, rfl, f1, v1⟩ := tupItems_ok ha q
        have ev : (xs = [] ∨ k = 1) ↔ (vs = [] ∨ k = 1) := by
          have := v1.length
          constructor
          · rintro (e | e)
            · subst e; exact .inl (List.eq_nil_of_length_eq_zero this.symm)
            · exact .inr e
          · rintro (e | e)
            · subst e; exact .inl (List.eq_nil_of_length_eq_zero this)
            · exact .inr e
        have eb : (xs.isEmpty || k == 1) = true ↔ (xs = [] ∨ k = 1) := by
          cases xs <;> simp
        refine op_rep1 pins s σ H _ _ v u Q I rx ry ⟨p, k, vs, rfl, hb.int, f1.sq, by omega, hz.2, fun e => ?_, fun e t nt => ?_⟩
        · rw [if_pos (eb.mpr (ev.mpr e))] at h
          exact h ρ H _ (Ext.refl _ _) rs ha
        · rw [if_neg (fun c => e (ev.mp (eb.mp c)))] at h
          have := new_tup (xs := []) (vs := []) rs .nil nt
          exact h ρ _ _ (rs.ext nt) (rs.new nt) this
      · exact h.elim
  · exact h.elim
def vMul2 (m : Bool) : V2 := fun v w st => match vMul2P m v w st with
  | some r => some r
  | none => vRep1 v w st
theorem op_mul2_ok {X : Cx} {m : Bool} : OpR X (binaryOp .Mult) (rV2 X (vMul2 m)) := by
  intro pins s σ H x y v u Q I rx ry h
  obtain ⟨ρ, st, a, b, rs, ha, hb, h⟩ := h
  unfold vMul2 at h
  cases q : vMul2P m a b st with
  | some r =>
    rw [q] at h
    exact op_mul2P_ok pins s σ H x y v u Q I rx ry ⟨ρ, st, a, b, rs, ha, hb, by rw [q]; exact h⟩
  | none =>
    rw [q] at h
    exact op_vRep1 pins s σ H x y v u Q I rx ry ⟨ρ, st, a, b, rs, ha, hb, h⟩
def vMul : V2 := vMul2 false
theorem op_mul_ok {X : Cx} : OpR X (binaryOp .Mult) (rV2 X vMul) := op_mul2_ok
/-! lists of different lengths -/
def vEqL (neg : Bool) : V2 := fun v w st => if isList v st && isList w st then match seqItems v st, seqItems w st with
    | some xs, some ys => if xs.length = ys.length then none else vB2 neg st
    | _, _ => none
  else none
theorem lists_at {X : Cx} {pins : List (Addr × Obj)} {s : Shared} {σ : L2.St} {H : Hp} {x : V} {v : Value} {ρ : Cs} {st : Store} {a : PV} (I : L2.Inv X pins σ H s) (rx : RelV x v) (rs : RS X.K ρ H X.mg st) (ha : VR X.K ρ H X.mg a x) (hl : isList a st = true) :
    ∃ (p : Addr) (us : List Value) (xs : List PV), v = .ref p ∧ seqItems a st = some xs ∧ us.length = xs.length ∧ s.heap.IsList p us.toArray := by
  obtain ⟨p, vs, xs, rfl, g1, g2, g3⟩ := isList_ok rs ha hl
  cases rx
  obtain ⟨us, r1, p1, _⟩ := I.list (.inl g1)
  exact ⟨p, us, xs, rfl, g2, by rw [g3.length, r1.length], p1.isList⟩
theorem op_eqL_ok {X : Cx} (hu : X.A.units + 150 < cLine) : OpR X (compareOp .Eq) (rV2 X (vEqL false)) := by
  intro pins s σ H x y v u Q I rx ry h
  obtain ⟨ρ, st, a, b, rs, ha, hb, h⟩ := h
  unfold vEqL at h
  split at h
  · rename_i hl
    rw [Bool.and_eq_true] at hl
    obtain ⟨p, us, xs, rfl, s1, l1, i1⟩ := lists_at I rx rs ha hl.1
    obtain ⟨q, ws, ys, rfl, s2, l2, i2⟩ := lists_at I ry rs hb hl.2
    rw [s1, s2] at h
    dsimp only at h
    split at h
    · exact h.elim
    · rename_i hn
      exact PySem.SeqAt.RcAt.lists_lengths i1 i2 (by simp only [List.size_toArray, bne_iff_ne, ne_eq]; omega) (by omega) _ _ _ _ ⟨.bl false, H, I, rfl, okB rs h⟩
  · exact h.elim
theorem op_neL_ok {X : Cx} (hu : X.A.units + 150 < cLine) : OpR X (compareOp .NotEq) (rV2 X (vEqL true)) := by
  intro pins s σ H x y v u Q I rx ry h
  obtain ⟨ρ, st, a, b, rs, ha, hb, h⟩ := h
  unfold vEqL at h
  split at h
  · rename_i hl
    rw [Bool.and_eq_true] at hl
    obtain ⟨p, us, xs, rfl, s1, l1, i1⟩ := lists_at I rx rs ha hl.1
    obtain ⟨q, ws, ys, rfl, s2, l2, i2⟩ := lists_at I ry rs hb hl.2
    rw [s1, s2] at h
    dsimp only at h
    split at h
    · exact h.elim
    · rename_i hn
      exact PySem.SeqAt.RcNeAt.lists_lengths i1 i2 (by simp only [List.size_toArray, bne_iff_ne, ne_eq]; omega) (by omega) _ _ _ _ ⟨.bl true, H, I, rfl, okB rs h⟩
  · exact h.elim
/-! a tuple beside () -/
def vEqT (neg : Bool) : V2 := fun v w st => match tupItems v, tupItems w with
  | some xs, some ys => if xs.isEmpty = ys.isEmpty then none else vB2 neg st
  | _, _ => none
theorem tups_at {X : Cx} {pins : List (Addr × Obj)} {s : Shared} {σ : L2.St} {H : Hp} {x : V} {v : Value} {ρ : Cs} {a : PV} {xs : List PV} (I : L2.Inv X pins σ H s) (rx : RelV x v) (ha : VR X.K ρ H X.mg a x) (hl : tupItems a = some xs) :
    ∃ (p : Addr) (us : List Value), v = .ref p ∧ us.length = xs.length ∧ s.heap.IsTuple p us.toArray := by
  obtain ⟨p, vs, rfl, f1, v1⟩ := tupItems_ok ha hl
  cases rx
  obtain ⟨its, r, ⟨o, ho, hc, n, hd⟩, _⟩ := I.tuple f1.sq
  exact ⟨p, its, rfl, by rw [v1.length, r.length], o, ho, hc, n, hd⟩
theorem one_nil {us ws : List Value} {xs ys : List PV} (l1 : us.length = xs.length) (l2 : ws.length = ys.length) (h : ¬ xs.isEmpty = ys.isEmpty) : min us.toArray.size ws.toArray.size = 0 ∧ (us.toArray.size == ws.toArray.size) = false := by
  simp only [List.size_toArray]
  cases xs <;> cases ys <;> simp_all
theorem op_eqT_ok {X : Cx} (hu : X.A.units + 150 < cLine) : OpR X (compareOp .Eq) (rV2 X (vEqT false)) := by
  intro pins s σ H x y v u Q I rx ry h
  obtain ⟨ρ, st, a, b, rs, ha, hb, h⟩ := h
  unfold vEqT at h
  split at h
  · rename_i xs ys h1 h2
    split at h
    · exact h.elim
    · rename_i hn
      obtain ⟨p, us, rfl, l1, i1⟩ := tups_at I rx ha h1
      obtain ⟨q, ws, rfl, l2, i2⟩ := tups_at I ry hb h2
      obtain ⟨m0, m1⟩ := one_nil l1 l2 hn
      have t := PySem.SeqAt.RcAt.tuples (A := X.A) (e := fun _ => true) i1 i2 (by omega) (fun j j1 j2 => absurd (Nat.lt_of_lt_of_le (Nat.lt_min.mpr ⟨j1, j2⟩) (Nat.le_of_eq m0)) (Nat.not_lt_zero _))
      rw [m1, Bool.and_false] at t
      exact t _ _ _ _ ⟨.bl false, H, I, rfl, okB rs h⟩
  · exact h.elim
theorem op_neT_ok {X : Cx} (hu : X.A.units + 150 < cLine) : OpR X (compareOp .NotEq) (rV2 X (vEqT true)) := by
  intro pins s σ H x y v u Q I rx ry h
  obtain ⟨ρ, st, a, b, rs, ha, hb, h⟩ := h
  unfold vEqT at h
  split at h
  · rename_i xs ys h1 h2
    split at h
    · exact h.elim
    · rename_i hn
      obtain ⟨p, us, rfl, l1, i1⟩ := tups_at I rx ha h1
      obtain ⟨q, ws, rfl, l2, i2⟩ := tups_at I ry hb h2
      obtain ⟨m0, m1⟩ := one_nil l1 l2 hn
      have t := PySem.SeqAt.RcNeAt.tuples (A := X.A) (e := fun _ => true) i1 i2 (by omega) (fun j j1 j2 => absurd (Nat.lt_of_lt_of_le (Nat.lt_min.mpr ⟨j1, j2⟩) (Nat.le_of_eq m0)) (Nat.not_lt_zero _))
      rw [m1, Bool.and_false] at t
      exact t _ _ _ _ ⟨.bl true, H, I, rfl, okB rs h⟩
  · exact h.elim
def vEqS (neg : Bool) : V2 := fun v w st => match vEqL neg v w st with
  | some r => some r
  | none => vEqT neg v w st
theorem or_ok {X : Cx} {op : Value → Value → Sem Value} {f g : V2} (hf : OpR X op (rV2 X f)) (hg : OpR X op (rV2 X g)) : OpR X op (rV2 X (fun v w st => match f v w st with | some r => some r | none => g v w st)) := by
  intro pins s σ H x y v u Q I rx ry h
  obtain ⟨ρ, st, a, b, rs, ha, hb, h⟩ := h
  have h : okV X ρ H (match f a b st with | some r => some r | none => g a b st) Q := h
  cases q : f a b st with
  | some r => exact hf pins s σ H x y v u Q I rx ry ⟨ρ, st, a, b, rs, ha, hb, by rw [q] at h ⊢; exact h⟩
  | none => exact hg pins s σ H x y v u Q I rx ry ⟨ρ, st, a, b, rs, ha, hb, by rw [q] at h; exact h⟩
def vEq (neg : Bool) : V2 := fun v w st => match vEqP neg v w st with
  | some r => some r
  | none => vEqS neg v w st
theorem op_eq_ok {X : Cx} (hu : X.A.units + 150 < cLine) : OpR X (compareOp .Eq) (rV2 X (vEq false)) := or_ok (op_eqP_ok hu) (or_ok (op_eqL_ok hu) (op_eqT_ok hu))
theorem op_ne_ok {X : Cx} (hu : X.A.units + 150 < cLine) : OpR X (compareOp .NotEq) (rV2 X (vEq true)) := or_ok (op_neP_ok hu) (or_ok (op_neL_ok hu) (op_neT_ok hu))
/-! tuple(range(..)) -/
def dTupRg1 (a : Den) : Den := fun fr st => (a fr st).bind fun v st1 => match v with
  | .d (.int j) => if inB j then lift (some (mkTup (rangeVals 0 (j - 0).toNat), st1)) else .bad
  | _ => .bad
section
variable {X : Cx} {E : WX} {a : Expr} {da : Den} {p p2 pos pos2 : Pos}
theorem se_tupRg1 (hc : X.calm = true) (hgl : Gl X "tuple") (hml : X.mg "tuple" = none) (hg : Gl X "range") (hm : X.mg "range" = none) (ha : PE X a (tE X E da)) (hs : noStar [a] = true) :
    PE X (.Call (.Name "tuple" p) [.Call (.Name "range" p2) [a] [] pos2] [] pos) (tE X E (dTupRg1 da)) := by
  refine ⟨fun pins s σ H Q I h => (pe_tupRg hc hgl hml (prg_1 hg hm ha (star_cons hs).1)).run pins s σ H Q I ?_⟩
  obtain ⟨ρ, fr, st, A, h⟩ := h
  refine tE.step A h fun v st1 ρ1 H1 x e1 A1 v1 h1 => ?_
  split at h1
  · rename_i k
    split at h1
    · rename_i hb
      exact ⟨k, v1.int, rg_ok (by decide) hb, fun q nq => (okV.of e1 h1) ρ1 _ _ (A1.rs.ext nq) (A1.rs.new nq) (new_tup A1.rs (rgV_VRs 0 k) nq)⟩
    · exact h1.elim
  · exact h1.elim
end
/-! int(text); max of a tuple -/
def vIntS : VB := fun vs st => match vs with
  | [.d (.str a)] => if a.length ≤ 640 then (PySem.intText? a).map fun n => (.d (.int n), st) else none
  | _ => none
def vIntOf : VB := fun vs st => match vIntOfP vs st with
  | some r => some r
  | none => vIntS vs st
theorem call_intS_ok {X : Cx} : CallR X (.type "int") (rVB X vIntS) := by
  intro pins s σ H xs us Q I r h
  obtain ⟨ρ, st, vs, rs, hv, h⟩ := h
  unfold vIntS at h
  split at h
  · rename_i a
    split at h
    · rename_i hl
      obtain ⟨x, rfl, hx⟩ := hv.one
      rw [hx.str] at r
      cases q : PySem.intText? a with
      | none => rw [q] at h; exact h.elim
      | some n =>
        rw [q] at h
        exact call_int_str pins s σ H _ us Q I r ⟨a, n, rfl, q, hl, h ρ H _ (Ext.refl _ _) rs (.d (.int _))⟩
    · exact h.elim
  · exact h.elim
theorem call_or_ok {X : Cx} {c : Value} {f g : VB} (hf : CallR X c (rVB X f)) (hg : CallR X c (rVB X g)) : CallR X c (rVB X (fun vs st => match f vs st with | some r => some r | none => g vs st)) := by
  intro pins s σ H xs us Q I r h
  obtain ⟨ρ, st, vs, rs, hv, h⟩ := h
  have h : okV X ρ H (match f vs st with | some r => some r | none => g vs st) Q := h
  cases q : f vs st with
  | some z => exact hf pins s σ H xs us Q I r ⟨ρ, st, vs, rs, hv, by rw [q] at h ⊢; exact h⟩
  | none => exact hg pins s σ H xs us Q I r ⟨ρ, st, vs, rs, hv, by rw [q] at h; exact h⟩
theorem call_int_ok {X : Cx} : CallR X (.type "int") (rVB X vIntOf) := call_or_ok call_intP_ok call_intS_ok
def intsDd : List PyData → Option (List Int)
  | [] => some []
  | .int i :: r => (intsDd r).map (i :: ·)
  | _ => none
theorem intsDd_eq : ∀ {l : List PyData} {is : List Int}, intsDd l = some is → l = is.map .int
  | [], is, h => by cases h; rfl
  | .int i :: r, is, h => by
    unfold intsDd at h
    cases q : intsDd r with
    | none => rw [q] at h; cases h
    | some js =>
      rw [q] at h
      cases h
      rw [intsDd_eq q]
      rfl
def vMaxT : VB := fun vs st => match vs with
  | [.d (.tuple (.int n :: r))] => (intsDd r).map fun is => (.d (.int (is.foldl max n)), st)
  | _ => none
def vMaxA : VB := fun vs st => match vI2 iMax vs st with
  | some r => some r
  | none => vMaxT vs st
theorem ints_plain (is : List Int) : PyData.plainAll (is.map .int) = true := by
  induction is with
  | nil => rfl
  | cons i l ih => rw [List.map_cons, PyData.plainAll, ih]; rfl
theorem ints_deep (is : List Int) : PyData.depthAll (is.map .int) = 0 := by
  induction is with
  | nil => rw [List.map_nil, PyData.depthAll]
  | cons i l ih => rw [List.map_cons, PyData.depthAll, ih, PyData.depth]; rfl
theorem call_maxT_ok {X : Cx} (hc : X.calm = true) (hu : X.A.units + 150 < cLine) : CallR X (.builtin "max") (rVB X vMaxT) := by
  intro pins s σ H xs us Q I r h
  obtain ⟨ρ, st, vs, rs, hv, h⟩ := h
  unfold vMaxT at h
  split at h
  · rename_i n rr
    cases q : intsDd rr with
    | none => rw [q] at h; exact h.elim
    | some is =>
      rw [q] at h
      obtain rfl := intsDd_eq q
      obtain ⟨z, rfl, hz⟩ := hv.one
      obtain ⟨u, rfl, ru⟩ := vals1 r
      have hp : (PyData.tuple (.int n :: is.map .int)).plain = true := by rw [PyData.plain, PyData.plainAll, ints_plain]; rfl
      obtain ⟨as, r1⟩ := Dp.reads I (.tuple (.int n :: is.map .int)) z u (frz_dp (k := 6) rs hz rfl hp) ru
      cases r1 with
      | tuple h1 h2 h3 h4 =>
        refine PySem.W.max_tuple_data (I.ok.hd hc) ⟨_, h1, h2, _, h3⟩ h4 ⟨fun a ha b hb => ?_, fun a ha => ?_⟩ ?_ fun i v h' tk bs hv hr hk => ?_
        · obtain ⟨i, _, rfl⟩ := List.mem_map.mp (show a ∈ (n :: is).map PyData.int from ha)
          obtain ⟨j, _, rfl⟩ := List.mem_map.mp (show b ∈ (n :: is).map PyData.int from hb)
          rfl
        · obtain ⟨i, _, rfl⟩ := List.mem_map.mp (show a ∈ (n :: is).map PyData.int from ha)
          intro e
          cases e
        · have := ints_deep (n :: is)
          rw [List.map_cons] at this
          rw [this]
          omega
        · rw [PySem.W.maxD_ints] at hr
          cases hr with
          | int k t => exact ⟨.int _, H, I.kept hk, ⟨_, rfl⟩, h ρ H _ (Ext.refl _ _) rs (.d (.int _))⟩
  · exact h.elim
theorem call_maxA_ok {X : Cx} (hc : X.calm = true) (hu : X.A.units + 150 < cLine) : CallR X (.builtin "max") (rVB X vMaxA) := call_or_ok (call_max_ok hc) (call_maxT_ok hc hu)
end Sr
/-! len(set(t)), t a tuple of ints. -/
namespace Sr
open PySem L2 PySem.Spec PyProof.Rows
def dist : List Int → List Int
  | [] => []
  | x :: r => if (dist r).contains x then dist r else x :: dist r
theorem dist_mem : ∀ {l : List Int} {k : Int}, k ∈ dist l ↔ k ∈ l
  | [], _ => Iff.rfl
  | x :: r, k => by
    unfold dist
    have ih := dist_mem (l := r) (k := k)
    by_cases h : (dist r).contains x = true
    · rw [if_pos h, ih, List.mem_cons]
      have hx : x ∈ r := dist_mem.mp (by simpa using h)
      exact ⟨.inr, fun z => z.elim (fun e => e ▸ hx) id⟩
    · rw [if_neg h, List.mem_cons, List.mem_cons, ih]
theorem dist_nodup : ∀ l : List Int, (dist l).Nodup
  | [] => List.nodup_nil
  | x :: r => by
    unfold dist
    by_cases h : (dist r).contains x = true
    · rw [if_pos h]; exact dist_nodup r
    · rw [if_neg h, List.nodup_cons]
      exact ⟨by simpa using h, dist_nodup r⟩
def vLenSet : V1 := fun v st => match v with
  | .d (.tuple ds) => match intsDd ds with
    | some is => if is.length ≤ 1000 then some (.d (.int ((dist is).length : Nat)), st) else none
    | none => none
  | _ => none
theorem DRs_ints {K : PySem.W.Frag} {ρ : Cs} {H : Hp} : ∀ {is : List Int} {vs : List V}, DRs K ρ H (is.map .int) vs → vs = is.map V.int
  | [], _, .nil => rfl
  | i :: r, _, .cons h t => by
    rw [DRs_ints t, List.map_cons]
    cases h
    rfl
section
variable {X : Cx} {E : WX} {a : Expr} {da : Den} {p p2 pos pos2 : Pos}
theorem se_lenSet (hc : X.calm = true) (hg : Gl X "len") (hm : X.mg "len" = none) (hg2 : Gl X "set") (hm2 : X.mg "set" = none) (ha : PE X a (tE X E da)) (hs : noStar [a] = true) :
    PE X (.Call (.Name "len" p) [.Call (.Name "set" p2) [a] [] pos2] [] pos) (tE X E (dUn vLenSet da)) := by
  have na : starEach [a] X.env = (false, eval a X.env) :: starEach [] X.env := (star_cons hs).1
  refine ⟨fun pins s σ H Q I h => Call_ (ld_blt I hg hm PySem.boot_len (callWith_builtin1 (args_cons (Call_ (ld_blt I hg2 hm2 boot_set ?_)) rfl) rfl rfl))⟩
  have h2 : tE X E da σ H (fun x H1 => ∃ (l : Addr) (ns : List Int), x = V.ref l ∧ SqT X.K H1 l (ns.map V.int) ∧ ns.length ≤ 1000 ∧ Q (.int (dist ns).length) H1) := by
    obtain ⟨ρ, fr, st, A, h⟩ := h
    refine tE.step A h fun v st1 ρ1 H1 x e1 A1 v1 h1 => ?_
    have h1 := okV.of e1 h1
    unfold vLenSet at h1
    split at h1
    · rename_i ds
      split at h1
      · rename_i is z
        split at h1
        · rename_i hl
          obtain rfl := intsDd_eq z
          cases v1 with
          | d v1 =>
            cases v1 with
            | tup f g =>
              obtain rfl := DRs_ints g
              exact ⟨_, is, rfl, f.sq, hl, h1 ρ1 H1 _ (Ext.refl _ _) A1.rs (.d (.int _))⟩
        · exact h1.elim
      · exact h1.elim
    · exact h1.elim
  refine callWith_type1 (args_cons (thn (ha.run pins s σ H _ I h2) ?_) na) na rfl
  rintro v s1 ⟨x, H1, I1, r1, l, ns, rfl, there, few, q⟩
  refine args_nil ?_
  cases r1
  obtain ⟨its, each, tup, _⟩ := I1.tuple there
  refine call_set_tupI ns (I1.ok.hd hc) tup (ints_of_vals each) (by unfold scanBound; omega) fun h2 tk c made _ kept => args_nil ?_
  obtain ⟨o, es, ep, t, ho, exact_, dat, _, once, same, _, fits, size, _⟩ := made
  have order : (es.toList.map keyOf).Perm (dist ns) := (List.perm_ext_iff_of_nodup once (dist_nodup ns)).mpr fun j => by rw [← same j, dist_mem, decide_eq_true_eq]
  have many : es.size = (dist ns).length := by simpa using order.length_eq
  exact call_len_set ho exact_ dat fits (by rw [size]; omega) ⟨.int (dist ns).length, H1, (I1.kept (t' := tk) kept).tok _, ⟨_, by rw [many]⟩, q⟩
end
end Sr
/-! Words by a table: tuple([table[x] for x in text.replace(.., ..).split(..)]), behind a text that was written. -/
namespace Sr
open PySem L2

/-- the words of a table for some texts -/
def codesOf (kvs : List (PyData × PyData)) : List Str → Option (List Str)
  | [] => some []
  | x :: r => match valD kvs (.inr x) with
    | some (.str y) => (codesOf kvs r).map (y :: ·)
    | _ => none
def dCodes (o : Den) (y z sep : Str) (i : Nat) : Den := fun fr st => (o fr st).bind fun v st1 => match v, fr[i]? with
  | .d (.str t), some (some (.d (.dict kvs))) =>
    if tupH kvs = false ∧ t.length + (t.length + 1) * z.length ≤ 1000000 ∧ (Txt.replace t y z).length ≤ 1000000 then match codesOf kvs (Txt.split (Txt.replace t y z) sep) with
      | some ws => .ok (.d (.tuple (ws.map .str))) st1
      | none => .bad
    else .bad
  | _, _ => .bad
theorem codes_len {kvs : List (PyData × PyData)} : ∀ {xs ws : List Str}, codesOf kvs xs = some ws → ws.length = xs.length
  | [], ws, h => by
    have h := Option.some.inj h
    subst h
    rfl
  | x :: xs, ws, h => by
    have h : (match valD kvs (.inr x) with
      | some (.str y) => (codesOf kvs xs).map (y :: ·)
      | _ => none) = some ws := h
    split at h
    · cases q : codesOf kvs xs with
      | none => rw [q] at h; cases h
      | some l =>
        rw [q] at h
        have h := Option.some.inj h
        subst h
        rw [List.length_cons, List.length_cons, codes_len q]
    · cases h
theorem codes_at {kvs : List (PyData × PyData)} : ∀ {xs ws : List Str}, codesOf kvs xs = some ws → ∀ (i : Nat) (x : Str), xs[i]? = some x → ∃ y, valD kvs (.inr x) = some (.str y) ∧ ws[i]? = some y
  | [], ws, h, i, x, e => by simp at e
  | x :: xs, ws, h, i, z, e => by
    have h : (match valD kvs (.inr x) with
      | some (.str y) => (codesOf kvs xs).map (y :: ·)
      | _ => none) = some ws := h
    split at h
    · rename_i y hy
      cases q : codesOf kvs xs with
      | none => rw [q] at h; cases h
      | some l =>
        rw [q] at h
        have h := Option.some.inj h
        subst h
        cases i with
        | zero =>
          simp at e
          subst e
          exact ⟨y, hy, rfl⟩
        | succ i => simpa using codes_at q i z (by simpa using e)
    · cases h
theorem Vals.nth {xs : List V} {us : List Value} (r : Vals xs us) : ∀ {i : Nat} {u : Value}, us[i]? = some u → ∃ x, xs[i]? = some x ∧ RelV x u := by
  induction r with
  | nil => intro i u h; simp at h
  | cons h t ih =>
    intro i u e
    cases i with
    | zero =>
      simp at e
      subst e
      exact ⟨_, rfl, h⟩
    | succ i => simpa using ih (by simpa using e)
/-- the rows of a list beside another one, place by place -/
theorem vals_of {us : List Value} : ∀ {ws : List Str}, ws.length = us.length → (∀ (i : Nat) (u : Value), us[i]? = some u → ∃ y t, ws[i]? = some y ∧ u = .str y t) → Vals (ws.map V.str) us := by
  induction us with
  | nil =>
    intro ws h _
    cases ws with
    | nil => exact .nil
    | cons w ws => cases h
  | cons u us ih =>
    intro ws h k
    cases ws with
    | nil => cases h
    | cons w ws =>
      obtain ⟨y, t, e1, e2⟩ := k 0 u rfl
      simp at e1
      subst e1
      exact .cons ⟨t, e2⟩ (ih (by simpa using h) fun i v e => by simpa using k (i + 1) v (by simpa using e))

theorem datas_strs : ∀ ws : List Str, datas (strL ws) = some (List.map PyData.str ws)
  | [] => rfl
  | w :: ws => by
    show (datas (strL ws)).map (PyData.str w :: ·) = _
    rw [datas_strs ws]
    rfl
/-- what is tracked stands in the heap -/
theorem tracked_there {P : Program} {w : World} {H : Hp} {h : Heap} {a : Addr} {o : HO} (x : ObjOk P w H h a o) : ∃ u, h.get? a = some u := by
  cases o with
  | lst l => exact x.2.elim fun _ y => y.elim fun _ z => ⟨_, z.2⟩
  | tup l => exact x.2.elim fun _ y => y.2.elim fun u z => ⟨u, z.1⟩
  | dK l => exact x.2.2.elim fun _ y => y.2.elim fun u z => z.elim fun _ z => z.elim fun _ z => ⟨u, z.1⟩
  | dT l => exact x.2.2.elim fun _ y => y.2.elim fun u z => z.elim fun _ z => z.elim fun _ z => ⟨u, z.1⟩
  | set S n => exact x.elim fun u y => y.elim fun _ y => y.elim fun _ y => y.elim fun _ y => ⟨u, y.1⟩
  | ins C dx l => exact ⟨_, x.2.2.2.1⟩
  | own y => exact x
  | xd l => exact x.elim fun _ y => y.1.elim fun u z => z.elim fun _ z => z.elim fun _ z => ⟨u, z.1⟩
  | rng lo hi => exact x.elim fun _ y => y.elim fun _ y => y.elim fun _ y => ⟨_, y⟩
  | frz u v => exact ⟨u, x.1⟩
  | tbl l => exact ⟨_, x⟩
  | met f y => exact ⟨_, x⟩
  | ext φ => exact x.2.1
/-- an object where none stood, tracked from now on -/
theorem Inv.laidAt {X : Cx} {pins : List (Addr × Obj)} {σ : L2.St} {H : Hp} {s : Shared} {h' : Heap} {a : Addr} {o : HO} {t' : Nat} (I : L2.Inv X pins σ H s) (k : ∀ b u, s.heap.get? b = some u → h'.get? b = some u)
    (hp : s.heap.get? a = none) (new : ObjOk X.prog X.w (upd H a o) h' a o) : H a = none ∧ L2.Inv X pins σ (upd H a o) { s with heap := h', toks := t' } := by
  have far : ∀ {b u}, s.heap.get? b = some u → b ≠ a := fun e z => by rw [z, hp] at e; cases e
  have hn : H a = none := by
    cases q : H a with
    | none => rfl
    | some u =>
      obtain ⟨v, e⟩ := tracked_there (I.hok a u q)
      exact absurd rfl (far e)
  have ne : ∀ {b u}, H b = some u → b ≠ a := fun e => ne_of_none e hn
  refine ⟨hn, I.un (u := { keep := fun b u q _ _ _ => k b u q, slot := fun b u q _ _ _ => ⟨u.slots, k b u q⟩, free := fun b u q n _ => (upd_ne (far q)).trans n, there := fun b u q _ => ⟨u, k b u q⟩, tups := fun b xs q => (upd_ne (ne q)).trans q, frzs := fun b u xs q => (upd_ne (ne q)).trans q, tbls := fun b ps q => ⟨#[], by rw [upd_ne (ne q), q]; simp⟩ }) fun b u e => ?_⟩
  rcases Classical.em (b = a) with z | z
  · subst z
    rw [upd_same] at e
    cases e
    exact new
  · rw [upd_ne z] at e
    exact (I.hok b u e).stay (fun c v _ q => k c v q) (fun c q => (upd_ne (ne q)).trans q) fun c xs q => (upd_ne (ne q)).trans q
/-- beside a list of right sides, place by place -/
theorem Paired.nth {α β : Type} {F : α → β → Prop} : ∀ {xs : List α} {ys : List β}, Paired F xs ys → ∀ (i : Nat) (y : β), ys[i]? = some y → ∃ x, xs[i]? = some x ∧ F x y
  | _, _, .nil, i, y, e => by simp at e
  | _, _, .cons h t, 0, y, e => by
    simp at e
    subst e
    exact ⟨_, rfl, h⟩
  | _, _, .cons h t, i + 1, y, e => by simpa using Paired.nth t i y (by simpa using e)
section
variable {X : Cx} {E : WX} {o : Expr} {d : Den} {y z sep dn x : Str} {i : Nat} {j1 j2 j3 : Nat} {c1 c2 c3 ap1 ap2 p1 p2 pd px ps pt lp cp np : Pos} {scope : Scope}
theorem pet_codes (hc : X.calm = true) (hu : X.A.units + 1 < cLine) (ho : PE X o (tE X E d)) (hyz : (y == z) = false) (hsep : (sep.length == 0) = false)
    (hst : starEach [.Constant (.str y) j1 c1, .Constant (.str z) j2 c2] X.env = [(false, eval (.Constant (.str y) j1 c1) X.env), (false, eval (.Constant (.str z) j2 c2) X.env)])
    (hb1 : attributeBase o "replace" X.env (eval o X.env) = eval o X.env) (hl1 : (ap1.endLine == p1.line) = true)
    (hl2 : (ap2.endLine == p2.line) = true)
    (hN : X.N[i]? = some dn) (hd : X.env.scope.names.lookup dn = some .cell) (hk : X.env.scope.kind = .function) (hsk : scope.kind = .function) (hsn : scope.names = [(Str.ofString ".0", .local), (x, .local), (dn, .free)])
    (hx0 : (x == Str.ofString ".0") = false) (hd0 : (dn == Str.ofString ".0") = false) (hdx : (dn == x) = false) (hdd : (dn == ("__debug__" : Str)) = false) (hxd : (x == ("__debug__" : Str)) = false)
    (hg : Gl X "tuple") (hm : X.mg "tuple" = none) :
    PET X (.Call (.Name "tuple" np) [.ListComp (.Subscript (.Name dn pd) (.Name x px) ps) [⟨.Name x pt, .Call (.Attribute (.Call (.Attribute o "replace" ap1) [.Constant (.str y) j1 c1, .Constant (.str z) j2 c2] [] p1) "split" ap2) [.Constant (.str sep) j3 c3] [] p2, [], 0⟩] scope lp] [] cp)
      (tE X E (dCodes d y z sep i)) := by
  intro pins s σ H Q h0 I h
  obtain ⟨ρ, fr, st, A, h⟩ := h
  refine wpAny_Call_Name_kw (ld_blt I hg hm rfl ?_ (by decide) (by decide))
  refine PyProof.Rows.callWith_type1 ?_ rfl rfl
  show wpAny _ _ (spliced ((false, _) :: backTo cp (starEach [] X.env))) _ _ s
  refine Calls.spliced_cons (wpAny_mono (Q := fun v s' => ∃ ρ1 H1 D st1 ws, v = .ref D ∧ H1 D = none ∧ Inv X pins σ (upd H1 D (.lst (List.map V.str ws))) s' ∧ Ext ρ H ρ1 H1 ∧ RS X.K ρ1 H1 X.mg st1 ∧
    ∀ ρ' H' q, Ext ρ H ρ' H' → RS X.K ρ' H' X.mg st1 → VR X.K ρ' H' X.mg (.d (.tuple (List.map PyData.str ws))) q → Q q H') (E := X.xe) ?_ (fun v s' hv => ?_) fun _ _ e => e)
  rotate_left
  · obtain ⟨ρ1, H1, D, st1, ws, rfl, hD, I1, e1, r1, fin⟩ := hv
    refine Calls.spliced_nil ?_
    have r2 : RS X.K ρ1 (upd H1 D (.lst (List.map V.str ws))) X.mg st1 := r1.new hD
    have e2 : Ext ρ H ρ1 (upd H1 D (.lst (List.map V.str ws))) := e1.trans (r1.ext hD)
    refine call_tuple_of pins s' σ _ [.ref D] [.ref D] Q I1 (.cons rfl .nil) ⟨D, _, rfl, .inl ⟨.inl (.of upd_same), fun p n => ?_⟩⟩
    refine fin ρ1 _ _ (e2.trans (r2.ext n)) (r2.new n) ?_
    have q := new_tup r2 (VRs.strs ws) n
    unfold mkTup at q
    rw [datas_strs] at q
    exact q
  have hcx : X.env.kindOf dn = some .cell := hd
  obtain ⟨c, hcl⟩ := I.ok.has dn (.inl hcx)
  have ecl : cloFrom X.env.cells scope.names [] = [(dn, c)] := by
    rw [hsn]
    show cloFrom X.env.cells [(Str.ofString ".0", .local), (x, .local), (dn, .free)] [] = _
    simp [cloFrom, hcl]
  have hclos : closureFor scope X.env = pure [(dn, c)] := by
    rw [← ecl]
    refine closure_ok fun q hq e => ?_
    rw [hsn] at hq
    simp only [List.mem_cons, List.not_mem_nil, or_false] at hq
    rcases hq with h | h | h <;> subst h
    · cases e
    · cases e
    · exact ⟨c, hcl⟩
  have kind : ∀ C, (compEnvC scope [(dn, c)] C X.env).scope.kind = .function := fun C => hsk
  have kx : ∀ C, (compEnvC scope [(dn, c)] C X.env).kindOf x = some .local := fun C => by
    show (relabel scope X.env).names.lookup x = _
    unfold relabel
    rw [hsn]
    simp [List.lookup_cons, hx0]
  have kdn : ∀ C, (compEnvC scope [(dn, c)] C X.env).kindOf dn = some .cell := fun C => by
    show (relabel scope X.env).names.lookup dn = _
    unfold relabel
    rw [hsn]
    simp [List.lookup_cons, hd0, hdx, hk, hcx]
  generalize htab : (match fr[i]? with
    | some (some (.d (.dict kvs))) => kvs
    | _ => []) = tab
  refine wpAny_ListComp_free (cl := [(dn, c)]) (fun _ => true) (fun u v => ∃ a t b t', u = .str a t ∧ v = .str b t' ∧ valD tab (.inr a) = some (.str b)) hclos (fun q hq => ?_) hsk (fun q hq e => ?_) ?_ ?_ (by intro _; rfl)
  · rw [hsn] at hq
    simp only [List.mem_cons, List.not_mem_nil, or_false] at hq
    rcases hq with h | h | h <;> subst h <;> exact fun z => nomatch z
  · rw [hsn] at hq ⊢
    simp only [List.mem_cons, List.not_mem_nil, or_false] at hq
    rcases hq with h | h | h <;> subst h
    · rfl
    · simp [List.lookup_cons, hx0]
    · cases e
  · rw [hsn]
    simp [List.lookup_cons, hx0]
  have rep := CwR.pet_replC (to := tE X E d) (pos := p1) ho hyz hst hb1 hl1
  have hs1 : starEach [.Constant (.str sep) j3 c3] X.env = [(false, eval (.Constant (.str sep) j3 c3) X.env)] := rfl
  refine PySem.Call_method1 rfl hs1 hl2 (thn (rep pins s σ H (fun v H1 => ∃ ρ1 st1 t ws kvs, v = .str (Txt.replace t y z) ∧ Ext ρ H ρ1 H1 ∧ At X σ H1 ρ1 fr st1 ∧ fr[i]? = some (some (.d (.dict kvs))) ∧ tupH kvs = false ∧
    (Txt.replace t y z).length ≤ 1000000 ∧ codesOf kvs (Txt.split (Txt.replace t y z) sep) = some ws ∧ ∀ ρ' H' q, Ext ρ H ρ' H' → RS X.K ρ' H' X.mg st1 → VR X.K ρ' H' X.mg (.d (.tuple (List.map PyData.str ws))) q → Q q H') h0 I ?_) fun v s1 hv => ?_)
  · refine tE.step A h fun v st1 ρ1 H1 w e1 A1 v1 h1 => ?_
    split at h1
    · rename_i t kvs hfr
      split at h1
      · rename_i hb
        obtain ⟨b1, b2, b3⟩ := hb
        cases q : codesOf kvs (Txt.split (Txt.replace t y z) sep) with
        | none => rw [q] at h1; exact h1.elim
        | some ws =>
          rw [q] at h1
          exact ⟨t, v1.str, by omega, ρ1, st1, t, ws, kvs, rfl, e1, A1, hfr, b1, b3, q, h1⟩
      · exact h1.elim
    · exact h1.elim
  obtain ⟨w, H1, I1, r1, ρ1, st1, t, ws, kvs, rfl, e1, A1, hfr, b1, b3, hcode, fin⟩ := hv
  obtain ⟨tk, rfl⟩ := r1
  rw [hfr] at htab
  subst htab
  refine ⟨"str", _, PySem.F.plainAttrs_str, PySem.F.slot_str_split, PySem.F.type_str_split, typeIs_str _ _ _, (fun _ e => nomatch e), Calls.callWith_builtin rfl (Calls.evalArgs_plain (Calls.spliced_cons ?_))⟩
  refine Calls.Constant_str (Calls.spliced_nil ?_)
  refine wpAny_mono (mt_split pins _ σ H1 (.str (Txt.replace t y z)) [.str sep] _ _ (fun v H' => ∃ L, v = .ref L ∧ H1 L = none ∧ H' = upd H1 L (.lst ((Txt.split (Txt.replace t y z) sep).map V.str))) (I1.tok _) ⟨_, rfl⟩ (.cons ⟨_, rfl⟩ .nil) ⟨_, _, rfl, rfl, hsep, by have := mil2; omega, fun p n => ⟨p, rfl, n, rfl⟩⟩) (fun v s2 hv => ?_) fun _ _ e => e
  obtain ⟨v', H2, I2, r2, L, rfl, hL, rfl⟩ := hv
  obtain rfl : v = .ref L := r2
  obtain ⟨its, rits, pl, hz⟩ := I2.list (xs := (Txt.split (Txt.replace t y z) sep).map V.str) (.inl (.of upd_same))
  refine wpAny_pyIter_list pl.isList ?_
  obtain ⟨xd, exd, rxd⟩ := A1.fr.at_ i _ hfr
  obtain ⟨m, hnm, hlook⟩ := I2.loc
  obtain ⟨ud, rud, lud⟩ := hlook i dn xd hN exd (.inr (.inl hd))
  have hlt : L < s2.heap.objs.size := by obtain ⟨_, e, _⟩ := pl.isList; exact Heap.lt_size e
  have up : ∀ b o, s2.heap.get? b = some o → (s2.heap.push { cls := .type "list_iterator", data := .fields #[.ref L, .int 0 0] }).get? b = some o := fun b o e => Heap.get?_push_of_some _ e
  -- the dict of the table
  have hdict : ∃ a ks ds, ud = .ref a ∧ kvs = (ks.map fun p => keyD p.1).zip ds ∧ upd H1 L (.lst ((Txt.split (Txt.replace t y z) sep).map V.str)) a = some (.dK ks) ∧ DRs X.K ρ1 H1 ds (ks.map (·.2)) := by
    cases rxd with
    | d rxd =>
      cases rxd with
      | @dic a ks ds g1 g2 g3 =>
        refine ⟨a, ks, ds, rud, rfl, ?_, g3⟩
        rw [upd_ne (ne_of_none g1 hL)]
        exact g1
      | @dit a ks ds g1 g0 g2 g3 =>
        rw [tupH_dit g0 g3] at b1
        cases b1
  obtain ⟨a, ks, ds, rfl, hkv, had, hds⟩ := hdict
  obtain ⟨_, _, vs0, rel, dd⟩ := dk_rd I2.hok (.inl had)
  obtain ⟨hcd, hcell⟩ : X.env.cells.lookup dn = some c ∧ s2.heap.IsCell c (some (.ref a)) := by
    rcases lud with ⟨z, _⟩ | ⟨_, c', e1, e2⟩
    · rw [hcx] at z; cases z
    · rw [hcl] at e1
      cases e1
      exact ⟨hcl, e2⟩
  have hit : ∀ b o, s2.heap.get? b = some o → b ≠ s2.heap.objs.size := fun b o e => Nat.ne_of_lt (Heap.lt_size e)
  refine ⟨s2.heap.objs.size, [s2.heap.objs.size, L], [s2.heap.objs.size], its.toArray.size, _, _, rfl, Walks.list (I2.ok.hd hc) _ _ (Nat.ne_of_lt hlt) its.toArray, ?_, ⟨⟨_, Heap.get?_push_size _ rfl, rfl, rfl⟩, pl.isList.push _⟩, fun b hb => ?_, ⟨fun C k v s3 m3 E' hC hP hn hm hkp htk => ?_, fun C k v s3 m3 E' hC hP hp hn hm hkp htk => ?_⟩, fun D h' tk' ys vs hD hl hpl hlen hP hF hkp => ?_⟩
  · rw [List.size_toArray, ← rits.length]
    exact hz
  · show b < (s2.heap.push _).objs.size
    rw [Heap.size_push]
    simp only [List.mem_cons, List.not_mem_nil, or_false] at hb
    rcases hb with h | h <;> rw [h]
    · exact Nat.lt_succ_self _
    · exact Nat.lt_succ_of_lt hlt
  · rw [List.forIn_nil]
    exact wpAny_pure ⟨rfl, s3.heap, s3.toks, rfl, fun _ _ e => e⟩
  · have hP : its[k]? = some v := by simpa using hP
    obtain ⟨xv, g1, g2⟩ := Vals.nth rits hP
    rw [List.getElem?_map] at g1
    cases q : (Txt.split (Txt.replace t y z) sep)[k]? with
    | none => rw [q] at g1; cases g1
    | some p =>
      rw [q] at g1
      have g1 := Option.some.inj g1
      subst g1
      obtain ⟨tp, rfl⟩ := g2
      obtain ⟨w, hw, _⟩ := codes_at hcode k p q
      have hc3 : s3.heap.IsCell c (some (.ref a)) := by
        obtain ⟨oc, e, r⟩ := hcell
        exact ⟨oc, hkp c oc (by simpa using hit _ _ e) (up _ _ e), r⟩
      have dd3 : s3.heap.DictOf (mixKind X.prog X.w) a vs0 := dd.at fun o e => hkp a o (by simpa using hit _ _ e) (up _ _ e)
      have val := DR.val hds (.inr p)
      rw [← hkv, hw] at val
      obtain ⟨xw, v1, v2⟩ := val
      obtain ⟨uw, hu1, hu2⟩ := RelO.some_of (v := xw) (o := valueAt vs0 (.inr p)) (by rw [← v1]; exact rel.val _)
      cases v2
      obtain ⟨tw, rfl⟩ := hu2
      refine PyProof.Rows.Subscript_ (wpAny_Name (wpAny_loadName_cell (kind C) (kdn C) (by simp [compEnvC]) hc3 ?_) hdd)
      refine wpAny_Name (wpAny_loadName_local (kind C) (kx C) hn hm ?_) hxd
      refine PyProof.Rows.tail_any dd3.typeIs PySem.F.slot_dict_getitem.lookup (wpAny_getItem_of (knd := mixKind X.prog X.w) (k := Sum.inr p) (mixKind_str X.prog X.w p tp) dd3.mapOf hu1 ⟨⟨p, tp, w, tw, rfl, rfl, hw⟩, s3.heap, s3.toks + 1, rfl, fun _ _ e => e⟩) rfl
  · have evs : vs = its := by
      apply List.ext_getElem?
      intro k
      cases q : vs[k]? with
      | some v => exact ((by simpa using hP k v q : its[k]? = some v)).symm
      | none =>
        have := List.getElem?_eq_none_iff.mp q
        rw [List.size_toArray] at hlen
        exact (List.getElem?_eq_none_iff.mpr (by omega)).symm
    subst evs
    have hfil : List.filter (fun _ => true) vs = vs := List.filter_eq_self.mpr fun _ _ => rfl
    rw [hfil] at hF
    have hkeep : ∀ b u, s2.heap.get? b = some u → h'.get? b = some u := fun b u e => hkp b u (by simpa using hit _ _ e) (up _ _ e)
    have hD2 : s2.heap.get? D = none := by
      cases q : s2.heap.get? D with
      | none => rfl
      | some u =>
        have := up D u q
        rw [show (s2.heap.push { cls := .type "list_iterator", data := .fields #[.ref L, .int 0 0] }).get? D = none from hD] at this
        cases this
    have lws : ws.length = ys.toList.length := by
      rw [codes_len hcode, ← Paired.length hF, ← rits.length, List.length_map]
    have rws : Vals (ws.map V.str) ys.toList := vals_of lws fun k u e => by
      obtain ⟨q, hq, a1, t1, b1, t2, rfl, rfl, e3⟩ := Paired.nth hF k u e
      obtain ⟨xq, g1, g2⟩ := Vals.nth rits hq
      rw [List.getElem?_map] at g1
      cases z1 : (Txt.split (Txt.replace t y z) sep)[k]? with
      | none => rw [z1] at g1; cases g1
      | some p =>
        rw [z1] at g1
        have g1 := Option.some.inj g1
        subst g1
        obtain ⟨tp, g2⟩ := g2
        cases g2
        obtain ⟨w, w1, w2⟩ := codes_at hcode k _ z1
        rw [e3] at w1
        cases w1
        exact ⟨_, _, w2, rfl⟩
    obtain ⟨n, hpn⟩ := hpl
    have hzz : (ws.map V.str).length ≤ sizeLine := by
      rw [List.length_map] at hz ⊢
      rw [codes_len hcode]
      exact hz
    obtain ⟨hnD, I3⟩ := Inv.laidAt (t' := tk') (o := .lst (ws.map V.str)) I2 hkeep hD2 ⟨hzz, ys.toList, n, rws, by rw [Array.toArray_toList]; exact hpn⟩
    exact ⟨ρ1, _, D, st1, ws, rfl, hnD, I3, e1.trans (A1.rs.ext hL), A1.rs.new hL, fin⟩

/-- a written text is compared first: behind it a token is out -/
theorem se_tokTup {a e2 : Expr} {da d2 : Den} {w : Str} {j k : Nat} {cp pc pos : Pos} (hq : OpR X (compareOp .Eq) (rV2 X (vEq false))) (ha : PE X a (tE X E da)) (h2 : PET X e2 (tE X E d2)) (hm : behindInMarks .Eq (.Constant (.str w) j cp) = false) (hs : noStar [e2] = true) :
    PE X (.Tuple [.Compare a [.Eq] [.Constant (.str w) j cp] pc, e2] k pos) (tE X E (dTup (dCons (dOp (vEq false) da (dC (.str w))) (dCons d2 dNil)))) := by
  refine se_tup ⟨fun p pins s σ H Q I h => ?_⟩
  obtain ⟨ρ, fr, st, A, h⟩ := h
  have hst : starEach [e2] X.env = [(false, eval e2 X.env)] := (star_cons hs).1
  show wpAny _ _ (spliced ((false, eval (.Compare a [.Eq] [.Constant (.str w) j cp] pc) X.env) :: backTo p (starEach [e2] X.env))) _ _ s
  rw [hst]
  show wpAny _ _ (spliced ((false, eval (.Compare a [.Eq] [.Constant (.str w) j cp] pc) X.env) :: (false, eval e2 X.env) :: [])) _ _ s
  have first : tE X E (dOp (vEq false) da (dC (.str w))) σ H fun x H1 => tE X E d2 σ H1 fun y H2 => Q [x, y] H2 := by
    refine tE.step A h fun v st1 ρ1 H1 x e1 A1 v1 h1 => ?_
    refine tE.step A1 (Res.wp_bind h1) fun v' st2 ρ2 H2 y e2 A2 v2 h2 => ?_
    exact h2 ρ2 H2 _ (e1.trans e2) A2.rs (.cons (v1.mono e2) (.cons v2 .nil))
  have first := tOp_of first
  refine Calls.spliced_cons (wpAny_Compare1 (thn (ha.run pins s σ H _ I first) fun v s1 ⟨x, H1, I1, r1, q1⟩ => ?_) hm)
  refine Calls.Constant_str ?_
  obtain ⟨ρ1, fr1, st1, A1, q1⟩ := q1
  have q1 := q1 ρ1 H1 _ (Ext.refl _ _) A1.rs (.d (.str w))
  refine wpAny_mono (PySem.wpAny_toks (hq pins _ σ H1 x (.str w) v _ _ (I1.tok _) r1 ⟨_, rfl⟩ q1)) (fun u s2 h3 => ?_) fun _ _ z => z.2
  obtain ⟨tk, y, H2, I2, r2, q2⟩ := h3
  have tk : s1.toks + 1 ≤ s2.toks := tk
  refine Calls.spliced_cons (thn (h2 pins s2 σ H2 _ (by omega) I2 q2) fun u2 s3 ⟨y2, H3, I3, r3, q3⟩ => ?_)
  exact Calls.spliced_nil ⟨[y, y2], H3, I3, .cons r2 (.cons r3 .nil), q3⟩
end
end Sr
/-! Dicts by tuples: stores, dict() of a list of pairs. The module's own tuples hold no number, and none of some words. -/
namespace Sr
open PySem L2

def keyOk (ws : List Str) (k : List Key) : Bool := k.any fun q => match q with
  | .inl _ => true
  | .inr x => ws.contains x
def NoKW (K : PySem.W.Frag) (ws : List Str) : Prop := ∀ a vs, KT K a vs → ∀ v, v ∈ vs → (∀ i : Int, v ≠ V.int i) ∧ ∀ x, x ∈ ws → v ≠ V.str x
/-- such a tuple is none of the module's -/
theorem FzT.own {K : PySem.W.Frag} {ρ : Cs} {H : Hp} {ws : List Str} {b : Addr} {k : List Key} (N : NoKW K ws) (h : keyOk ws k = true) (f : FzT K ρ H b (k.map kV)) : H b = some (.tup (k.map kV)) := by
  rcases f with ⟨f, _⟩ | f
  · exact f
  · unfold keyOk at h
    obtain ⟨q, hq, e⟩ := List.any_eq_true.mp h
    obtain ⟨n1, n2⟩ := N b _ f (kV q) (List.mem_map.mpr ⟨q, hq, rfl⟩)
    cases q with
    | inl i => exact absurd rfl (n1 i)
    | inr x => exact absurd rfl (n2 x (by simpa using e))

/-! ### o[k] = v -/
def vSetT (ws : List Str) (o i v : PV) (st : Store) : Option Store := match vSetC o i v st with
  | some st' => some st'
  | none => match o, i with
    | .cell n, .d (.tuple ds) => match keysOfD ds with
      | some k => match st[n]? with
        | some (.dit kvs) => if keyOk ws k && decide (kvs.length < 1000000) then some (st.set n (.dit (putP kvs k v))) else none
        | some (.dic []) => if keyOk ws k then some (st.set n (.dit [(k, v)])) else none
        | _ => none
      | none => none
    | _, _ => none
def gSubT (ws : List Str) (a b : Den) : DG := fun v fr st => match a fr st with
  | .ok o st1 => match b fr st1 with
    | .ok i st2 => (vSetT ws o i v st2).map fun st3 => (fr, st3)
    | _ => none
  | _ => none
def rSetT (X : Cx) (ws : List Str) : TSet := fun o i v H Q => ∃ ρ st a b c st', RS X.K ρ H X.mg st ∧ VR X.K ρ H X.mg a o ∧ VR X.K ρ H X.mg b i ∧ VR X.K ρ H X.mg c v ∧ vSetT ws a b c st = some st' ∧ ∀ H', Ext ρ H ρ H' → RS X.K ρ H' X.mg st' → Q H'
section
variable {X : Cx} {E : WX} {pos : Pos} {ws : List Str}
theorem setT_ok (hu : X.A.units + 1 < cLine) (N : NoKW X.K ws) : PSet X (rSetT X ws) := by
  intro pins s σ H o i v ov iv u Q I ro ri rv h
  obtain ⟨ρ, st, a, b, c, st', rs, ha, hb, hc, e, h⟩ := h
  unfold vSetT at e
  cases q0 : vSetC a b c st with
  | some st2 =>
    rw [q0] at e
    cases e
    exact set_ok hu pins s σ H o i v ov iv u Q I ro ri rv ⟨ρ, st, a, b, c, st', rs, ha, hb, hc, q0, h⟩
  | none =>
    rw [q0] at e
    dsimp only at e
    split at e
    · rename_i n ds
      cases qk : keysOfD ds with
      | none => rw [qk] at e; cases e
      | some k =>
        rw [qk] at e
        have z2 := keysOfD_eq qk
        subst z2
        cases hb with
        | d hb =>
          cases hb with
          | tup f q =>
            have ev := q.keyVs
            subst ev
            cases ha with
            | cell hn =>
              rename_i b' p
              cases z : st[n]? with
              | none => rw [z] at e; cases e
              | some w =>
                rw [z] at e
                obtain ⟨p', e1, e2⟩ := rs.at_ n w z
                rw [hn] at e1
                cases e1
                dsimp only at e
                split at e
                · rename_i kvs hw
                  cases hw
                  split at e
                  · rename_i hz
                    rw [Bool.and_eq_true, decide_eq_true_eq] at hz
                    cases e
                    obtain ⟨ws', g1, g2⟩ := e2
                    have hk := f.own N hz.1
                    exact set_dict hu pins s σ H _ _ v _ iv u Q I ro ri rv ⟨_, _, rfl, DPut.t g1 hk (by rw [← g2.length]; exact Nat.lt_of_lt_of_le hz.2 (by decide)), h _ (Ext.set hn rs.nd (by rw [g1]; trivial)) (rs.set hn ⟨_, upd_same, (g2.mono (Ext.set hn rs.nd (by rw [g1]; trivial))).put k (hc.mono (Ext.set hn rs.nd (by rw [g1]; trivial)))⟩)⟩
                  · cases e
                · rename_i hw
                  cases hw
                  split at e
                  · rename_i hz
                    cases e
                    obtain ⟨ws', g1, g2⟩ := e2
                    cases g2
                    have hk := f.own N hz
                    have I2 := dk_to_dt I g1
                    have ne := ne_of hk g1 (fun z => nomatch z)
                    have hk2 : (upd H p (.dT [])) b' = some (.tup (k.map kV)) := by rw [upd_ne ne]; exact hk
                    refine set_dict hu pins s σ (upd H p (.dT [])) _ _ v _ iv u Q I2 ro ri rv ⟨_, _, rfl, DPut.t upd_same hk2 (by decide), ?_⟩
                    rw [upd_upd]
                    exact h _ (Ext.set hn rs.nd (by rw [g1]; trivial)) (rs.set hn ⟨_, upd_same, .cons ⟨rfl, hc.mono (Ext.set hn rs.nd (by rw [g1]; trivial))⟩ .nil⟩)
                  · cases e
                · cases e
    · cases e
theorem sg_subT {o i : Expr} {da db : Den} (hu : X.A.units + 1 < cLine) (N : NoKW X.K ws) (ho : PE X o (tE X E da)) (hi : PE X i (tE X E db))
    (ha : ∀ v, assign (.Subscript o i pos) X.env v = (do
      let ov ← holding [v] (eval o X.env)
      let iv ← holding [v, ov] (eval i X.env)
      standAt pos
      holding [v, ov, iv] (setItem ov iv v)
      release [v, ov, iv] [])) : PG X (.Subscript o i pos) (tG X (gSubT ws da db)) := by
  refine ⟨fun pins s σ H v u Q I r h => (pg_sub ho hi (setT_ok hu N) ha).run pins s σ H v u Q I r ?_⟩
  obtain ⟨ρ, fr, st, c, A, hc, h⟩ := h
  unfold gSubT at h
  cases q1 : da fr st with
  | ok a st1 =>
    rw [q1] at h
    refine tE.of_ok A q1 fun ρ1 H1 x e1 r1 v1 => ?_
    dsimp only at h
    cases q2 : db fr st1 with
    | ok b st2 =>
      rw [q2] at h
      refine tE.of_ok (A.step e1 r1) q2 fun ρ2 H2 y e2 r2 v2 => ?_
      dsimp only at h
      cases q3 : vSetT ws a b c st2 with
      | some st3 =>
        rw [q3] at h
        have e12 := e1.trans e2
        exact ⟨ρ2, st2, a, b, c, st3, r2, v1.mono e2, v2, hc.mono e12, q3, fun H3 e3 r3 => h ρ2 H3 σ (e12.trans e3) ((A.step e12 r2).step e3 r3)⟩
      | none => rw [q3] at h; exact h.elim
    | _ => rw [q2] at h; exact h.elim
  | _ => rw [q1] at h; exact h.elim
end

/-! ### dict(list of pairs), the keys tuples -/
def pairsT (ws : List Str) : List PyData → Option (List (List Key × PyData))
  | [] => some []
  | .tuple [.tuple ds, d] :: r => match keysOfD ds with
    | some k => if keyOk ws k then (pairsT ws r).map ((k, d) :: ·) else none
    | none => none
  | _ :: _ => none
def dataL (v : PV) (st : Store) : Option (List PyData) := match v with
  | .d (.list ds) => some ds
  | .cell n => match st[n]? with
    | some (.lst xs) => datas xs
    | _ => none
  | _ => none
def vDictT (ws : List Str) : VB := fun vs st => match vs with
  | [v] => match dataL v st with
    | some ds => match pairsT ws ds with
      | some ps => if ps.length ≤ 100000 then some (.cell st.length, st ++ [.dit (mergePT [] (ps.map fun p => (p.1, PV.d p.2)))]) else none
      | none => none
    | none => none
  | _ => none
section
variable {K : PySem.W.Frag} {ρ : Cs} {H : Hp} {mg : Str → Option Value}
theorem dataL_ok {st : Store} (rs : RS K ρ H mg st) {v : PV} {x : V} {ds : List PyData} (h : VR K ρ H mg v x) (e : dataL v st = some ds) : ∃ a vs, x = .ref a ∧ SqL K H a vs ∧ DRs K ρ H ds vs := by
  unfold dataL at e
  split at e
  · cases e
    cases h with
    | d h =>
      cases h with
      | lst f q => exact ⟨_, _, rfl, f.sq, q⟩
  · rename_i n
    cases h with
    | cell hc =>
      rename_i a
      cases z : st[n]? with
      | none => rw [z] at e; cases e
      | some u =>
        rw [z] at e
        obtain ⟨b, b1, b2⟩ := rs.at_ n u z
        rw [hc] at b1
        cases b1
        cases u with
        | lst xs =>
          obtain ⟨vs, g1, g2⟩ := b2
          have e : datas xs = some ds := e
          have e2 := datas_eq e
          subst e2
          exact ⟨a, vs, rfl, .inl (.of g1), g2.toD⟩
        | _ => cases e
  · cases e
/-- a pair of a key and data, its tuple at T, the key's at b -/
structure PT3 where
  T : Addr
  b : Addr
  x : V
def PairOk (K : PySem.W.Frag) (ρ : Cs) (H : Hp) (p : List Key × PyData) (q : PT3) : Prop := SqT K H q.T [.ref q.b, q.x] ∧ H q.b = some (.tup (p.1.map kV)) ∧ DR K ρ H p.2 q.x
theorem pairsT_ok {ws : List Str} (N : NoKW K ws) : ∀ {ds : List PyData} {vs : List V} {ps : List (List Key × PyData)}, DRs K ρ H ds vs → pairsT ws ds = some ps → ∃ qs : List PT3, vs = qs.map (fun q => V.ref q.T) ∧ Paired (PairOk K ρ H) ps qs
  | [], _, ps, .nil, e => by
    cases e
    exact ⟨[], rfl, .nil⟩
  | d :: ds, _, ps, .cons h t, e => by
    unfold pairsT at e
    split at e
    · rename_i z; cases z
    · rename_i es d' r z
      cases z
      cases qk : keysOfD es with
      | none => rw [qk] at e; cases e
      | some k =>
        rw [qk] at e
        dsimp only at e
        split at e
        · rename_i hk
          cases qr : pairsT ws ds with
          | none => rw [qr] at e; cases e
          | some ps' =>
            rw [qr] at e
            cases e
            obtain ⟨qs, e1, e2⟩ := pairsT_ok N t qr
            have z2 := keysOfD_eq qk
            subst z2
            cases h with
            | tup f g =>
              cases g with
              | cons g1 g2 =>
                cases g2 with
                | cons g2 g3 =>
                  cases g3
                  cases g1 with
                  | tup f2 q2 =>
                    have ev := q2.keyVs
                    subst ev
                    exact ⟨⟨_, _, _⟩ :: qs, by rw [List.map_cons, e1], .cons ⟨f.sq, f2.own N hk, g2⟩ e2⟩
        · cases e
    · cases e
theorem Paired.fst {α β : Type} {F : α → β → Prop} : ∀ {xs : List α} {ys : List β}, Paired F xs ys → ∀ (i : Nat) (x : α), xs[i]? = some x → ∃ y, ys[i]? = some y ∧ F x y
  | _, _, .nil, i, y, e => by simp at e
  | _, _, .cons h t, 0, y, e => by
    simp at e
    subst e
    exact ⟨_, rfl, h⟩
  | _, _, .cons h t, i + 1, y, e => by simpa using Paired.fst t i y (by simpa using e)
end
/-- the concrete rows -/
theorem rows_at {X : Cx} {pins : List (Addr × Obj)} {σ : L2.St} {ρ : Cs} {H : Hp} {s : Shared} (I : Inv X pins σ H s) : ∀ {ps : List (List Key × PyData)} {qs : List PT3}, Paired (PairOk X.K ρ H) ps qs →
    ∃ (r3 : List (List Key × Addr × Value)) (mw : List (List Key × V)), L2.KT H mw r3 ∧ Paired (fun (p : List Key × PyData) (w : List Key × V) => p.1 = w.1 ∧ DR X.K ρ H p.2 w.2) ps mw ∧ Paired (fun (q : PT3) (r : List Key × Addr × Value) => r.2.1 = q.b ∧ s.heap.IsTuple q.T #[.ref q.b, r.2.2]) qs r3
  | _, _, .nil => ⟨[], [], .nil, .nil, .nil⟩
  | _, _, .cons (a := p) (b := q) h t => by
    obtain ⟨r3, mw, k1, k2, k3⟩ := rows_at I t
    obtain ⟨h1, h2, h3⟩ := h
    obtain ⟨its, rv, pt, _⟩ := I.tuple h1
    obtain ⟨u, y, ei, ru, ry⟩ := vals2 rv
    subst ei
    cases ru
    exact ⟨(p.1, q.b, y) :: r3, (p.1, q.x) :: mw, .cons ⟨rfl, h2, ry⟩ k1, .cons ⟨rfl, h3⟩ k2, .cons ⟨rfl, pt⟩ k3⟩
theorem call_dictT_ok {X : Cx} (hc : X.calm = true) (hu : X.A.units + 150 < cLine) {ws : List Str} (N : NoKW X.K ws) : CallR X (.type "dict") (rVB X (vDictT ws)) := by
  intro pins s σ H xs us Q I r h
  obtain ⟨ρ, st, vs, rs, hv, h⟩ := h
  unfold vDictT at h
  split at h
  · rename_i v
    obtain ⟨x, rfl, hx⟩ := hv.one
    cases q : dataL v st with
    | none => rw [q] at h; exact h.elim
    | some ds =>
      rw [q] at h
      dsimp only at h
      obtain ⟨a, vs, rfl, sq, dr⟩ := dataL_ok rs hx q
      cases q2 : pairsT ws ds with
      | none => rw [q2] at h; exact h.elim
      | some ps =>
        rw [q2] at h
        dsimp only at h
        split at h
        · rename_i hz
          obtain ⟨qs, rfl, pk⟩ := pairsT_ok N dr q2
          obtain ⟨r3, mw, kt, pm, pr⟩ := rows_at I pk
          obtain ⟨u, rfl, ru⟩ := L2.Vals.one r
          cases ru
          obtain ⟨its, rv, pl, _⟩ := I.list sq
          have l1 : ps.length = qs.length := PySem.Paired.length pk
          have l2 : qs.length = r3.length := PySem.Paired.length pr
          have l3 : its.length = qs.length := by rw [← rv.length, List.length_map]
          have item : ∀ (j : Nat) (w : List Key × Addr × Value), r3[j]? = some w → ∃ q, qs[j]? = some q ∧ its[j]? = some (.ref q.T) ∧ w.2.1 = q.b ∧ s.heap.IsTuple q.T #[.ref q.b, w.2.2] := fun j w e => by
            obtain ⟨q, e1, e2, e3⟩ := Paired.nth pr j w e
            obtain ⟨y, g1, g2⟩ := rv.get (i := j) (x := .ref q.T) (by rw [List.getElem?_map, e1]; rfl)
            cases g2
            exact ⟨q, e1, g1, e2, e3⟩
          have old : ∀ w ∈ r3, ∃ o, s.heap.get? w.2.1 = some o := fun w hw => by
            obtain ⟨j, hj⟩ := List.mem_iff_getElem?.mp hw
            obtain ⟨p, _, _, g, _⟩ := Paired.nth kt j w hj
            exact tracked_there (I.hok _ _ g)
          refine call_dict_pairsH (knd := tupleKind (mixKind X.prog X.w)) (ps := r3) (PairArg.list a its.toArray (fun j => ((qs[j]?).map PT3.T).getD 0) (r3.map fun w => (Value.ref w.2.1, w.2.2))) (I.ok.hd hc) (tupleKind_room_in1 (by show X.A.in1.units + 1 < cLine; rw [Around.in1_units]; omega)) ?_ ?_ ?_ ?_ fun h' tk hd hk => ?_
          · refine ⟨pl, ?_, fun j k v e => ?_⟩
            · rw [List.length_map, List.size_toArray, l3, l2]
            · rw [List.getElem?_map] at e
              cases z : r3[j]? with
              | none => rw [z] at e; cases e
              | some w =>
                rw [z] at e
                cases e
                obtain ⟨q, e1, e2, e3, e4⟩ := item j w z
                refine ⟨?_, .inl ?_⟩
                · dsimp only; rw [e1]; simpa [e3] using e2
                · dsimp only; rw [e1, e3]; exact e4
          · refine ⟨by rw [List.length_map], fun j key v e => ?_⟩
            have e : (r3.map fun w => (Value.ref w.2.1, w.2.2))[j]? = some (key, v) := e
            rw [List.getElem?_map] at e
            cases z : r3[j]? with
            | none => rw [z] at e; cases e
            | some w =>
              rw [z] at e
              cases e
              exact ⟨w.1, w.2.1, rfl, rfl⟩
          · intro h' keep w hw
            obtain ⟨j, hj⟩ := List.mem_iff_getElem?.mp hw
            obtain ⟨p, _, g0, g, _⟩ := Paired.nth kt j w hj
            rw [← g0]
            have ki := key_of (ks := p.1) I.hok g
            obtain ⟨o, its', n, k1, k2, k3, k4⟩ := ki
            exact ⟨o, its', n, keep _ _ (Nat.ne_of_lt (Heap.lt_size k1)) (by simp) k1, k2, k3, k4⟩
          · rw [List.length_map, ← l2, ← l1]
            exact Nat.le_trans hz (by decide)
          · have km := kt_merge kt (show L2.KT H [] [] from .nil)
            have fewm : (mergeT [] mw).length ≤ sizeLine := by
              refine Nat.le_trans (length_mergeT mw []) ?_
              have : ps.length = mw.length := PySem.Paired.length pm
              rw [List.length_nil, Nat.zero_add, ← this]
              exact Nat.le_trans hz (by decide)
            have hn : H s.heap.objs.size = none := I.hok.fresh (Nat.le_refl _)
            obtain ⟨o, es, ep, g1, g2, g3, g4, _, g5⟩ := hd
            have kt2 : L2.KT (upd H s.heap.objs.size (.dT (mergeT [] mw))) (mergeT [] mw) (storedAllH [] r3) := km.keeps fun b ys z => (upd_ne (ne_of_none z hn)).trans z
            have I2 := I.laid (t' := tk) (o := .dT (mergeT [] mw)) (fun b o e => hk b o (by simp) e) (Nat.le_refl _) ⟨fewm, beq_eq_false_iff_ne.mpr (Nat.ne_of_gt I.big), _, kt2, o, es, ep, g1, g2, g3, g4, g5⟩
            have vm : VRk X.K ρ H X.mg (ps.map fun p => (p.1, PV.d p.2)) mw := by
              clear kt pk km fewm kt2 I2 h q2 hz l1
              induction pm with
              | nil => exact .nil
              | cons h t ih => exact .cons ⟨h.1, .d h.2⟩ (ih)
            exact ⟨.ref s.heap.objs.size, _, I2, rfl, h (ρ.push s.heap.objs.size) _ _ (rs.extC hn) (rs.cell hn ⟨_, upd_same, (VRk.mergeT vm .nil).mono (rs.extC hn)⟩) rs.cellAt⟩
        · exact h.elim
  · exact h.elim
end Sr
/-! The small evaluator of expressions, and that it is right. -/
namespace Sr
open PySem L2

/-- a def: its parameters, what it answers -/
structure FI where
  ps : List Str
  F : List PV → Store → Res PV
/-- what an expression stands in -/
structure Ga where
  N : List Str
  sc : Scope
  fn : Str → Bool
  gl : List (Str × PyData)
  md : List (Str × List (Key × PyData))
  bl : List Str
  ft : Str → Option FI
  sh : List Str
  cs : List (Nat × Nat)
  fw : Nat
  k : Nat
  xt : List XT
  nk : Option (List Str)

def ixOf : List Str → Str → Option Nat
  | [], _ => none
  | y :: r, x => if y = x then some 0 else (ixOf r x).map (· + 1)
theorem ixOf_ok : ∀ {N : List Str} {x : Str} {i : Nat}, ixOf N x = some i → N[i]? = some x
  | [], _, _, h => by cases h
  | y :: r, x, i, h => by
    have h : (if y = x then some 0 else (ixOf r x).map (· + 1)) = some i := h
    split at h
    · rename_i e
      cases h
      rw [e]; rfl
    · cases q : ixOf r x with
      | none => rw [q] at h; cases h
      | some j =>
        rw [q] at h
        cases h
        exact ixOf_ok (N := r) q
def visB (sc : Scope) (x : Str) : Bool := match sc.names.lookup x with
  | some .local => true
  | some .cell => true
  | some .free => true
  | _ => false
theorem visB_ok {sc : Scope} {x : Str} (h : visB sc x = true) : Vis sc x := by
  unfold visB at h
  split at h
  · exact .inl ‹_›
  · exact .inr (.inl ‹_›)
  · exact .inr (.inr ‹_›)
  · cases h
def glB (sc : Scope) (x : Str) : Bool := match sc.names.lookup x with
  | some .globalImplicit => true
  | _ => false
theorem glB_ok {sc : Scope} {x : Str} (h : glB sc x = true) : sc.names.lookup x = some .globalImplicit := by
  unfold glB at h
  split at h
  · assumption
  · cases h
def locB (Γ : Ga) (x : Str) : Bool := match Γ.sc.names.lookup x with
  | some .local => true
  | some .cell => Γ.fn x
  | _ => false
def isDbg (x : Str) : Bool := x == ("__debug__" : Str) || x == ("__classdict__" : Str) || x == ("__name__" : Str)
def isC (Γ : Ga) (p : Pos) : Bool := Γ.cs.contains (p.line, p.col)

structure Good (Γ : Ga) (X : Cx) (E : WX) : Prop where
  calm : X.calm = true
  N : X.N = Γ.N
  nd : Γ.N.Nodup
  sc : X.env.scope = Γ.sc
  fn : ∀ x, Γ.fn x = true → X.fn x = true
  hot : X.A.guards = some []
  un : X.A.units + 150 < cLine
  sm : Sysm X.K
  tk : Takes X E
  room : Room Γ.k X.A
  ft : ∀ x I, Γ.ft x = some I → ∃ f fd, X.mg x = some (.ref f) ∧ PySem.W.keepIn X.K (.ref f) = true ∧ FnG X.prog X.w X.K X.mg X.base Γ.k f fd I.ps (spF X.K X.mg I.ps.length I.F) ∧ Narrow I.ps.length I.F ∧ Plain fd.params I.ps ∧ fd.defaults = .none ∧ I.ps.Nodup
  gl : ∀ x d, Γ.gl.lookup x = some d → GlobD X x d
  md : ∀ x d, Γ.md.lookup x = some d → MDict X x d
  bl : ∀ x ∈ Γ.bl, X.mg x = none
  xt : XtOk X.prog X.K X.mg Γ.xt
  nk : ∀ ws, Γ.nk = some ws → NoKW X.K ws

section
variable {Γ : Ga} {X : Cx} {E : WX}
theorem Good.loc (G : Good Γ X E) {x : Str} (h : locB Γ x = true) : Loc X.env.scope x ∧ (X.fn x = true ∨ X.env.scope.names.lookup x = some .local) := by
  rw [G.sc]
  unfold locB at h
  split at h
  · exact ⟨.inl ‹_›, .inr ‹_›⟩
  · exact ⟨.inr ‹_›, .inl (G.fn x h)⟩
  · cases h
theorem Good.glo (G : Good Γ X E) {x : Str} (h : glB Γ.sc x = true) : Gl X x := by
  show X.env.scope.names.lookup x = some .globalImplicit
  rw [G.sc]
  exact glB_ok h
theorem Good.ix (G : Good Γ X E) {x : Str} {i : Nat} (h : ixOf Γ.N x = some i) : X.N[i]? = some x := by
  rw [G.N]
  exact ixOf_ok h
theorem Good.u1 (G : Good Γ X E) : X.A.units + 1 < cLine := by have := G.un; omega
end

def dBad : Den := fun _ _ => .bad
def dBadT : DenT := fun _ _ => .bad
def iBad : DI := fun _ _ => .bad
section
variable {X : Cx} {E : WX} {e tg : Expr}
theorem se_bad : PE X e (tE X E dBad) := ⟨fun pins s σ H Q I h => by obtain ⟨_, _, _, _, h⟩ := h; exact h.elim⟩
theorem st_bad : PT X e (tT X E dBadT) := ⟨fun pins s σ H Q I h => by obtain ⟨_, _, _, _, h⟩ := h; exact h.elim⟩
theorem sw_bad : PW X e (tT X E dBadT) := ⟨fun w pins s σ H Q I h => by obtain ⟨_, _, _, _, h⟩ := h; exact h.elim⟩
end

/-! names -/
def denName (Γ : Ga) (x : Str) : Den := if isDbg x then dBad else if visB Γ.sc x then match ixOf Γ.N x with
  | some i => dVar i
  | none => dBad
  else if glB Γ.sc x then match Γ.gl.lookup x with
    | some d => dC d
    | none => match Γ.ft x with
      | some _ => dFn x
      | none => dBad
  else dBad
theorem isDbg_ok {x : Str} (h : ¬ isDbg x = true) : (x == ("__debug__" : Str)) = false ∧ (x == ("__classdict__" : Str)) = false ∧ x ≠ ("__name__" : Str) := by
  unfold isDbg at h
  simp only [Bool.or_eq_true, not_or, Bool.not_eq_true] at h
  exact ⟨h.1.1, h.1.2, beq_eq_false_iff_ne.mp h.2⟩
theorem sn_name {Γ : Ga} {X : Cx} {E : WX} (G : Good Γ X E) {x : Str} {pos : Pos} : PE X (.Name x pos) (tE X E (denName Γ x)) := by
  unfold denName
  split
  · exact se_bad
  · rename_i hd
    obtain ⟨d1, d2, d3⟩ := isDbg_ok hd
    split
    · rename_i hv
      split
      · rename_i i hi
        exact se_var (G.ix hi) (by rw [G.sc]; exact visB_ok hv) d1 d2
      · exact se_bad
    · split
      · rename_i hg
        split
        · rename_i d hl
          exact se_glob (G.glo hg) (G.gl x d hl) d1
        · split
          · rename_i I hf
            obtain ⟨f, fd, h1, _⟩ := G.ft x I hf
            exact se_fn (G.glo hg) h1 d1
          · exact se_bad
      · exact se_bad

/-! operators -/
def binV (m : Bool) : Operator → Option V2
  | .Add => some (vAdd m)
  | .Sub => some vSub
  | .Mult => some (if m then vMul2 true else vMul)
  | .FloorDiv => some vDiv
  | .Mod => some vMod
  | .Pow => some vPow
  | .LShift => some vShl
  | .RShift => some vShr
  | _ => none
theorem binV_ok {X : Cx} {m : Bool} {op : Operator} {f : V2} (h : binV m op = some f) : OpR X (binaryOp op) (rV2 X f) := by
  cases op <;> first | (cases h; done) | skip
  all_goals
    cases h
    first | exact op_add_ok | exact op_sub_ok | (cases m <;> first | exact op_mul_ok | exact op_mul2_ok) | exact op_div_ok | exact op_mod_ok | exact op_pow_ok | exact op_shl_ok | exact op_shr_ok
def cmpV : CmpOp → Option V2
  | .Eq => some (vEq false)
  | .NotEq => some (vEq true)
  | .Lt => some vLt
  | .LtE => some (vCmpI fun i j => decide (i ≤ j))
  | .Gt => some (vCmpI fun i j => decide (j < i))
  | .GtE => some (vCmpI fun i j => decide (j ≤ i))
  | .Is => some (vIs false)
  | .IsNot => some (vIs true)
  | .In => some (vIn false)
  | .NotIn => some (vIn true)
theorem cmpV_ok {X : Cx} (hu : X.A.units + 150 < cLine) {op : CmpOp} {f : V2} (h : cmpV op = some f) : OpR X (compareOp op) (rV2 X f) := by
  cases op <;> cases h
  · exact op_eq_ok hu
  · exact op_ne_ok hu
  · exact op_lt_ok hu
  · exact op_le_ok
  · exact op_gt_ok
  · exact op_ge_ok
  · exact op_is_ok
  · exact op_isnot_ok
  · exact op_in_ok hu
  · exact op_notin_ok hu
/-- a dict of the module, by its name -/
def mdOf (Γ : Ga) : Expr → Option (List (Key × PyData))
  | .Name x _ => if isDbg x || !glB Γ.sc x then none else Γ.md.lookup x
  | _ => none
theorem mdOf_ok {Γ : Ga} {X : Cx} {E : WX} (G : Good Γ X E) {e : Expr} {kvs : List (Key × PyData)} (h : mdOf Γ e = some kvs) : ∃ x p, e = .Name x p ∧ MDict X x kvs ∧ Gl X x ∧ (x == ("__debug__" : Str)) = false := by
  unfold mdOf at h
  split at h
  · rename_i x p
    split at h
    · cases h
    · rename_i hc
      simp only [Bool.or_eq_true, not_or, Bool.not_eq_true', Bool.not_eq_false] at hc
      exact ⟨x, p, rfl, G.md x kvs h, G.glo hc.2, (isDbg_ok hc.1).1⟩
  · cases h
def denIn (f : Expr → Den) (kvs : List (Key × PyData)) (a : Expr) : CmpOp → Den
  | .In => dGIn false kvs (f a)
  | .NotIn => dGIn true kvs (f a)
  | _ => dBad
def denCmp1 (f : Expr → Den) (a : Expr) (op : CmpOp) (b : Expr) : Den := match cmpV op with
  | some g => if behindInMarks op b then dBad else dOp g (f a) (f b)
  | none => dBad
def denCmp (f : Expr → Den) (Γ : Ga) (a : Expr) (ops : List CmpOp) (bs : List Expr) : Den := match ops, bs with
  | [op], [b] => match mdOf Γ b with
    | some kvs => denIn f kvs a op
    | none => denCmp1 f a op b
  | [op, op'], [b, c] => match cmpV op, cmpV op' with
    | some g, some g' => if lastMarks [op, op'] [b, c] then dBad else dChain g g' (f a) (f b) (f c)
    | _, _ => dBad
  | _, _ => dBad
theorem sn_cmp {Γ : Ga} {X : Cx} {E : WX} (G : Good Γ X E) {f : Expr → Den} (hf : ∀ e, PE X e (tE X E (f e))) {a : Expr} {ops : List CmpOp} {bs : List Expr} {pos : Pos} :
    PE X (.Compare a ops bs pos) (tE X E (denCmp f Γ a ops bs)) ∧ PT X (.Compare a ops bs pos) (tT X E (dCmpT (denCmp f Γ a ops bs))) := by
  have tb : ∀ {e : Expr}, PT X e (tT X E (dCmpT dBad)) := ⟨fun pins s σ H Q I h => by obtain ⟨_, _, _, _, h⟩ := h; exact h.elim⟩
  unfold denCmp
  split
  · split
    · rename_i kvs hk
      obtain ⟨x, p, rfl, M, hg, hd⟩ := mdOf_ok G hk
      unfold denIn
      split
      · exact se_gin (neg := false) M hg hd (hf _)
      · exact se_gin (neg := true) M hg hd (hf _)
      · exact ⟨se_bad, tb⟩
    unfold denCmp1
    split
    · rename_i g hg
      split
      · exact ⟨se_bad, tb⟩
      · rename_i hm
        have hm := Bool.eq_false_iff.mpr hm
        exact ⟨se_cmp (cmpV_ok G.un hg) (hf _) (hf _) hm, st_cmp (cmpV_ok G.un hg) (hf _) (hf _) hm⟩
    · exact ⟨se_bad, tb⟩
  · split
    · rename_i g g' hg hg'
      split
      · exact ⟨se_bad, tb⟩
      · rename_i hm
        have hm := Bool.eq_false_iff.mpr hm
        exact ⟨se_chain (cmpV_ok G.un hg) (cmpV_ok G.un hg') (hf _) (hf _) (hf _) hm, st_chain (cmpV_ok G.un hg) (cmpV_ok G.un hg') (hf _) (hf _) (hf _) hm⟩
    · exact ⟨se_bad, tb⟩
  · exact ⟨se_bad, tb⟩

/-! lists of expressions -/
def denEs (f : Expr → Den) : List Expr → Dens
  | [] => dNil
  | e :: r => dCons (f e) (denEs f r)
def denAnd (f : Expr → Den) : List Expr → Den
  | [] => dBad
  | [a] => f a
  | a :: r => dAnd (f a) (denAnd f r)
def denOr (f : Expr → Den) : List Expr → Den
  | [] => dBad
  | [a] => f a
  | a :: r => dOr (f a) (denOr f r)
def denAndT (f : Expr → DenT) : List Expr → DenT
  | [] => dBadT
  | [a] => f a
  | a :: r => dAndT (f a) (denAndT f r)
def denOrT (f : Expr → DenT) : List Expr → DenT
  | [] => dBadT
  | [a] => f a
  | a :: r => dOrT (f a) (denOrT f r)
section
variable {X : Cx} {E : WX} {f : Expr → Den} {g : Expr → DenT}
theorem sn_es (hf : ∀ e, PE X e (tE X E (f e))) : ∀ {es : List Expr}, noStar es = true → PA X es (tEs X E (denEs f es))
  | [], _ => sa_nil
  | e :: es, h => sa_cons (hf e) (sn_es hf (star_cons (env := X.env) h).2) h
theorem sn_and (hf : ∀ e, PE X e (tE X E (f e))) {pos : Pos} : ∀ {es : List Expr}, PE X (.BoolOp .And es pos) (tE X E (denAnd f es))
  | [] => se_bad
  | [a] => se_one (hf a)
  | a :: b :: r => se_and (hf a) (sn_and hf)
theorem sn_or (hf : ∀ e, PE X e (tE X E (f e))) {pos : Pos} : ∀ {es : List Expr}, PE X (.BoolOp .Or es pos) (tE X E (denOr f es))
  | [] => se_bad
  | [a] => se_one (hf a)
  | a :: b :: r => se_or (hf a) (sn_or hf)
theorem sn_andT (hg : ∀ e, PT X e (tT X E (g e))) {pos : Pos} : ∀ {es : List Expr}, PW X (.BoolOp .And es pos) (tT X E (denAndT g es))
  | [] => sw_bad
  | [a] => st_and1 (hg a)
  | a :: b :: r => st_and (hg a) (sn_andT hg)
theorem sn_orT (hg : ∀ e, PT X e (tT X E (g e))) {pos : Pos} : ∀ {es : List Expr}, PW X (.BoolOp .Or es pos) (tT X E (denOrT g es))
  | [] => sw_bad
  | [a] => st_or1 (hg a)
  | a :: b :: r => st_or (hg a) (sn_orT hg)
end
end Sr
/-! Calls, methods, displays, comprehensions; the evaluator of expressions whole. -/
namespace Sr
open PySem L2

/-! built-ins -/
inductive BK where
  | fn (id : String) (f : VB)
  | ty (id : String) (f : VB)
def bltV2 (x : Str) : Option BK := if x = "sum" then some (.fn "sum" vSum) else if x = "all" then some (.fn "all" vAll) else if x = "str" then some (.ty "str" vStrOf) else none
def bltV (m : Bool) (x : Str) : Option BK :=
  if x = "len" then some (.fn "len" vLen) else if x = "abs" then some (.fn "abs" vAbs) else if x = "repr" then some (.fn "repr" vRepr) else if x = "sorted" then some (.fn "sorted" (vSorted m))
  else if x = "min" then some (.fn "min" (vI2 iMin)) else if x = "max" then some (.fn "max" vMaxA)
  else if x = "int" then some (.ty "int" vIntOf) else if x = "tuple" then some (.ty "tuple" vTupOf) else if x = "list" then some (.ty "list" (vListD m)) else bltV2 x
def BKok (X : Cx) (x : Str) : BK → Prop
  | .fn id f => bootBuiltins x = some (.builtin id) ∧ CallR X (.builtin id) (rVB X f)
  | .ty id f => bootBuiltins x = some (.type id) ∧ CallR X (.type id) (rVB X f)
theorem bltV2_ok {X : Cx} (hc : X.calm = true) {x : Str} {b : BK} (h : bltV2 x = some b) : BKok X x b := by
  unfold bltV2 at h
  split at h
  · rename_i e; subst e; cases h; exact ⟨by decide +kernel, call_sum_ok hc⟩
  split at h
  · rename_i e; subst e; cases h; exact ⟨by decide +kernel, call_all_ok hc⟩
  split at h
  · rename_i e; subst e; cases h; exact ⟨by decide +kernel, call_str_ok⟩
  · cases h
theorem bltV_ok {X : Cx} (hc : X.calm = true) (hu : X.A.units + 150 < cLine) (hg : X.A.guards = some []) (hsy : Sysm X.K) {m : Bool} {x : Str} {b : BK} (h : bltV m x = some b) : BKok X x b := by
  unfold bltV at h
  split at h
  · rename_i e; subst e; cases h; exact ⟨by decide +kernel, call_len_ok⟩
  split at h
  · rename_i e; subst e; cases h; exact ⟨by decide +kernel, call_abs_ok⟩
  split at h
  · rename_i e; subst e; cases h; exact ⟨by decide +kernel, call_repr_ok hu hg hsy⟩
  split at h
  · rename_i e; subst e; cases h; exact ⟨by decide +kernel, call_sorted_ok hu⟩
  split at h
  · rename_i e; subst e; cases h; exact ⟨by decide +kernel, call_min_ok hc⟩
  split at h
  · rename_i e; subst e; cases h; exact ⟨by decide +kernel, call_maxA_ok hc hu⟩
  split at h
  · rename_i e; subst e; cases h; exact ⟨by decide +kernel, call_int_ok⟩
  split at h
  · rename_i e; subst e; cases h; exact ⟨by decide +kernel, call_tup_ok⟩
  split at h
  · rename_i e; subst e; cases h; exact ⟨by decide +kernel, call_list_ok' hc⟩
  · exact bltV2_ok hc h
def callF (Γ : Ga) (x : Str) (F : List PV → Store → Res PV) : List PV → Store → Res PV := if Γ.sh.contains x then F else isoF F
def kwOrder (ps ks : List Str) (n : Nat) : List Nat := (ps.drop n).filterMap fun p => ixOf ks p
def denKs (f : Expr → Den) : List Keyword → Dens
  | [] => dNil
  | ⟨_, e, _⟩ :: r => dCons (f e) (denKs f r)
def isKeyLen : List Keyword → Bool
  | [⟨some a, .Name b _, _⟩] => a == ("key" : Str) && b == ("len" : Str)
  | _ => false
/-- a kind that isinstance asks for -/
def askOf (x : Str) : Option String := if x = "tuple" then some "tuple" else if x = "str" then some "str" else if x = "bool" then some "bool" else if x = "int" then some "int" else none
theorem askOf_ok {x : Str} {T : String} (h : askOf x = some T) : T ∈ asks ∧ bootBuiltins x = some (.type T) ∧ isDbg x = false := by
  unfold askOf at h
  split at h
  · rename_i e; subst e; cases h; exact ⟨by decide, by decide +kernel, by decide +kernel⟩
  split at h
  · rename_i e; subst e; cases h; exact ⟨by decide, by decide +kernel, by decide +kernel⟩
  split at h
  · rename_i e; subst e; cases h; exact ⟨by decide, by decide +kernel, by decide +kernel⟩
  split at h
  · rename_i e; subst e; cases h; exact ⟨by decide, by decide +kernel, by decide +kernel⟩
  · cases h
def denIsi (f : Expr → Den) (Γ : Ga) (args : List Expr) : Den := match args with
  | [e, .Name y _] => if glB Γ.sc y && Γ.bl.contains y then match askOf y with
    | some T => dUn (vIsi T) (f e)
    | none => dBad
    else dBad
  | _ => dBad
/-- list(range(..)) -/
def denLR (f : Expr → Den) (Γ : Ga) (m : Bool) (args : List Expr) : Option Den := match args with
  | [.Call (.Name y _) rs [] _] => if y = "range" ∧ glB Γ.sc "range" = true ∧ Γ.bl.contains "range" = true ∧ noStar rs = true then match rs with
    | [a] => some (dListRg1 m (f a))
    | [a, b] => some (dListRg2 m (f a) (f b))
    | _ => none
    else none
  | _ => none
def denTR (f : Expr → Den) (Γ : Ga) (args : List Expr) : Option Den := match args with
  | [.Call (.Name y _) rs [] _] => if y = "range" ∧ glB Γ.sc "range" = true ∧ Γ.bl.contains "range" = true ∧ noStar rs = true then match rs with
    | [a] => some (dTupRg1 (f a))
    | _ => none
    else none
  | _ => none
/-- len(set(..)) -/
def denLS (f : Expr → Den) (Γ : Ga) (args : List Expr) : Option Den := match args with
  | [.Call (.Name y _) [a] [] _] => if y = "set" ∧ glB Γ.sc "set" = true ∧ Γ.bl.contains "set" = true ∧ noStar [a] = true then some (dUn vLenSet (f a)) else none
  | _ => none
def denBltL (f : Expr → Den) (Γ : Ga) (m : Bool) (x : Str) (args : List Expr) : Option Den := if x = "list" then denLR f Γ m args else if x = "tuple" then denTR f Γ args else if x = "len" then denLS f Γ args else none
def denDT (f : Expr → Den) (Γ : Ga) (x : Str) (args : List Expr) : Den := match Γ.nk with
  | some ws => if x = "dict" then dB (vDictT ws) (denEs f args) else dBad
  | none => dBad
def denBlt (f : Expr → Den) (Γ : Ga) (x : Str) (args : List Expr) (kws : List Keyword) (pos : Pos) : Den := match kws with
  | [] => match args with
    | [] => dBad
    | _ => if x = "isinstance" then denIsi f Γ args else match denBltL f Γ (isC Γ pos) x args with
      | some d => d
      | none => match bltV (isC Γ pos) x with
      | some (.fn _ b) => dB b (denEs f args)
      | some (.ty _ b) => dB b (denEs f args)
      | none => denDT f Γ x args
  | _ => match args with
    | [e] => if x = "min" ∧ isKeyLen kws = true ∧ glB Γ.sc "len" = true ∧ Γ.bl.contains "len" = true then dMinLen (f e) else dBad
    | _ => dBad
def denCallN (f : Expr → Den) (Γ : Ga) (x : Str) (args : List Expr) (kws : List Keyword) (pos : Pos) : Den :=
  if isDbg x || !noStar args || !glB Γ.sc x then dBad else match Γ.ft x with
    | some I => match kws with
      | [] => dCall (callF Γ x I.F) (denEs f args)
      | _ => match kwNames kws with
        | some ks => if kwGood I.ps ks args.length (kwOrder I.ps ks args.length) then dCallK (callF Γ x I.F) (denEs f args) (denKs f kws) (kwOrder I.ps ks args.length) else dBad
        | none => dBad
    | none => if Γ.bl.contains x then denBlt f Γ x args kws pos else dBad
section
variable {Γ : Ga} {X : Cx} {E : WX} {f : Expr → Den}
theorem sn_ks (hf : ∀ e, PE X e (tE X E (f e))) : ∀ {kws : List Keyword}, PK X kws (tEs X E (denKs f kws))
  | [] => sk_nil
  | ⟨_, e, _⟩ :: r => sk_cons (hf e) (sn_ks hf)
theorem len_cons {d : Den} {r : Dens} {n : Nat} (h : ∀ fr st vs st', r fr st = .ok vs st' → vs.length = n) : ∀ fr st vs st', dCons d r fr st = .ok vs st' → vs.length = n + 1 := by
  intro fr st vs st' e
  unfold dCons at e
  cases q : d fr st with
  | bad => rw [q] at e; cases e
  | exc x s => rw [q] at e; cases e
  | ok v s =>
    rw [q] at e
    have e : ((r fr s).bind fun vs st2 => Res.ok (v :: vs) st2) = .ok vs st' := e
    cases q2 : r fr s with
    | bad => rw [q2] at e; cases e
    | exc x s => rw [q2] at e; cases e
    | ok ws s2 =>
      rw [q2] at e
      cases e
      rw [List.length_cons, h _ _ _ _ q2]
theorem len_es : ∀ {es : List Expr}, ∀ fr st vs st', denEs f es fr st = .ok vs st' → vs.length = es.length
  | [], fr, st, vs, st', e => by cases e; rfl
  | _ :: es, fr, st, vs, st', e => len_cons len_es fr st vs st' e
theorem len_ks : ∀ {es : List Keyword}, ∀ fr st vs st', denKs f es fr st = .ok vs st' → vs.length = es.length
  | [], fr, st, vs, st', e => by cases e; rfl
  | ⟨_, _, _⟩ :: es, fr, st, vs, st', e => len_cons len_ks fr st vs st' e
theorem Good.fi (G : Good Γ X E) {x : Str} {I : FI} (h : Γ.ft x = some I) : ∃ fa fd, X.mg x = some (.ref fa) ∧ PySem.W.keepIn X.K (.ref fa) = true ∧ FnG X.prog X.w X.K X.mg X.base Γ.k fa fd I.ps (spF X.K X.mg I.ps.length (callF Γ x I.F)) ∧ Narrow I.ps.length (callF Γ x I.F) ∧ Plain fd.params I.ps ∧ fd.defaults = .none ∧ I.ps.Nodup := by
  obtain ⟨fa, fd, h1, h2, h3, h4, h5, h6, h7⟩ := G.ft x I h
  refine ⟨fa, fd, h1, h2, ?_, ?_, h5, h6, h7⟩
  · unfold callF
    split
    · exact h3
    · exact h3.iso
  · unfold callF
    split
    · exact h4
    · exact narrow_iso h4
theorem denBltL_ok (G : Good Γ X E) (hf : ∀ e, PE X e (tE X E (f e))) {x : Str} {m : Bool} {args : List Expr} {p pos : Pos} {d : Den} (hg : Gl X x) (hm : X.mg x = none) (h : denBltL f Γ m x args = some d) : PE X (.Call (.Name x p) args [] pos) (tE X E d) := by
  unfold denBltL at h
  split at h
  · rename_i e
    subst e
    unfold denLR at h
    split at h
    · rename_i y yp rs rp
      split at h
      · rename_i hc
        obtain ⟨rfl, h1, h2, h3⟩ := hc
        have hm2 := G.bl _ (show ("range" : Str) ∈ Γ.bl by simpa using h2)
        split at h
        · cases h
          exact se_listRg1 G.calm hg hm (G.glo h1) hm2 (hf _) h3
        · cases h
          exact se_listRg2 G.calm hg hm (G.glo h1) hm2 (hf _) (hf _) h3
        · cases h
      · cases h
    · cases h
  · split at h
    · rename_i e
      subst e
      unfold denTR at h
      split at h
      · rename_i y yp rs rp
        split at h
        · rename_i hc
          obtain ⟨rfl, h1, h2, h3⟩ := hc
          have hm2 := G.bl _ (show ("range" : Str) ∈ Γ.bl by simpa using h2)
          split at h
          · cases h
            exact se_tupRg1 G.calm hg hm (G.glo h1) hm2 (hf _) h3
          · cases h
        · cases h
      · cases h
    · split at h
      · rename_i e
        subst e
        unfold denLS at h
        split at h
        · rename_i y yp a rp
          split at h
          · rename_i hc
            obtain ⟨rfl, h1, h2, h3⟩ := hc
            have hm2 := G.bl _ (show ("set" : Str) ∈ Γ.bl by simpa using h2)
            cases h
            exact se_lenSet G.calm hg hm (G.glo h1) hm2 (hf _) h3
          · cases h
        · cases h
      · cases h
theorem sn_blt (G : Good Γ X E) (hf : ∀ e, PE X e (tE X E (f e))) {x : Str} {args : List Expr} {kws : List Keyword} {p pos : Pos} (hd : ¬ isDbg x = true) (hs : noStar args = true) (hg : glB Γ.sc x = true) (hb : Γ.bl.contains x = true) :
    PE X (.Call (.Name x p) args kws pos) (tE X E (denBlt f Γ x args kws pos)) := by
  obtain ⟨d1, d2, d3⟩ := isDbg_ok hd
  have hm := G.bl x (by simpa using hb)
  unfold denBlt
  split
  · split
    · exact se_bad
    · rename_i ne
      cases args with
      | nil => exact absurd rfl ne
      | cons a es =>
        split
        · rename_i hx
          subst hx
          unfold denIsi
          split
          · rename_i e y yp ea
            rw [ea] at hs ⊢
            split
            · rename_i hy
              simp only [Bool.and_eq_true] at hy
              split
              · rename_i T hT
                obtain ⟨k1, k2, k3⟩ := askOf_ok hT
                obtain ⟨y1, y2, y3⟩ := isDbg_ok (x := y) (by rw [k3]; decide)
                exact se_isi (G.glo hg) hm (G.glo hy.1) (G.bl y (by simpa using hy.2)) k2 y3 y1 k1 (hf e) hs
              · exact se_bad
            · exact se_bad
          · exact se_bad
        split
        · rename_i d hd2
          exact denBltL_ok G hf (G.glo hg) hm hd2
        split
        · rename_i id b hv
          obtain ⟨h1, h2⟩ : BKok X x (.fn id b) := bltV_ok G.calm G.un G.hot G.sm hv
          exact se_blt h2 (G.glo hg) hm h1 (sn_es hf hs) d3 d1 hs
        · rename_i id b hv
          obtain ⟨h1, h2⟩ : BKok X x (.ty id b) := bltV_ok G.calm G.un G.hot G.sm hv
          exact se_ty h2 (G.glo hg) hm h1 (sn_es hf hs) d3 d1 hs
        · unfold denDT
          split
          · rename_i ws hw
            split
            · rename_i e
              subst e
              exact se_ty (call_dictT_ok G.calm G.un (G.nk ws hw)) (G.glo hg) hm (by decide +kernel) (sn_es hf hs) d3 d1 hs
            · exact se_bad
          · exact se_bad
  · split
    · rename_i e
      split
      · rename_i hk
        obtain ⟨rfl, hk, hgl, hbl⟩ := hk
        unfold isKeyLen at hk
        split at hk
        · simp only [Bool.and_eq_true, beq_iff_eq] at hk
          obtain ⟨rfl, rfl⟩ := hk
          exact se_minLen G.calm (G.glo hg) hm (G.glo hgl) (G.bl _ (by simpa using hbl)) (hf e) hs
        · cases hk
      · exact se_bad
    · exact se_bad
theorem sn_callN (G : Good Γ X E) (hf : ∀ e, PE X e (tE X E (f e))) {x : Str} {args : List Expr} {kws : List Keyword} {p pos : Pos} : PE X (.Call (.Name x p) args kws pos) (tE X E (denCallN f Γ x args kws pos)) := by
  unfold denCallN
  split
  · exact se_bad
  · rename_i hc
    simp only [Bool.or_eq_true, not_or, Bool.not_eq_true', Bool.not_eq_false] at hc
    obtain ⟨⟨hd, hs⟩, hg⟩ := hc
    have d1 := (isDbg_ok hd).1
    split
    · rename_i I hI
      obtain ⟨fa, fd, h1, h2, h3, h4, h5, h6, h7⟩ := G.fi hI
      split
      · cases args with
        | nil => exact se_call0 h3 h4 G.room G.hot G.tk (G.glo hg) h1 h2 (binds_pos h5 h6 h7) d1
        | cons a es => exact se_call h3 h4 G.room G.hot G.tk (G.glo hg) h1 h2 (binds_pos h5 h6 h7) (sn_es hf hs) d1 hs
      · split
        · rename_i ks hks
          split
          · rename_i hgood
            have hl := (kwNames_ok (env := X.env) (pos := pos) hks).2.2.2
            cases args with
            | nil => exact se_callK0 h3 h4 G.room G.hot G.tk (G.glo hg) h1 h2 h5 h6 h7 hks hgood (sn_ks hf) (fun fr st vs st' e => by rw [← hl]; exact len_ks fr st vs st' e) d1
            | cons a es => exact se_callK h3 h4 G.room G.hot G.tk (G.glo hg) h1 h2 h5 h6 h7 hks hgood (sn_es hf hs) (sn_ks hf) hs (fun fr st vs st' e => len_es fr st vs st' e) (fun fr st vs st' e => by rw [← hl]; exact len_ks fr st vs st' e) d1
          · exact se_bad
        · exact se_bad
    · split
      · rename_i hb
        exact sn_blt G hf hd hs hg hb
      · exact se_bad
end

/-! methods -/
structure MK where
  T : Ty3
  id : String
  f : VM
def methV (m : Bool) (x : Str) : Option MK :=
  if x = "append" then some ⟨.list, "list.append", vAppend⟩ else if x = "pop" then some ⟨.list, "list.pop", vPop0⟩ else if x = "insert" then some ⟨.list, "list.insert", vInsert⟩ else if x = "extend" then some ⟨.list, "list.extend", vExtend⟩
  else if x = "get" then some ⟨.dict, "dict.get", vGet⟩ else if x = "split" then some ⟨.str, "str.split", vSplit m⟩ else if x = "join" then some ⟨.str, "str.join", vJoin⟩
  else if x = "startswith" then some ⟨.str, "str.startswith", vStarts Txt.startswith⟩ else if x = "endswith" then some ⟨.str, "str.endswith", vStarts Txt.endswith⟩ else if x = "partition" then some ⟨.str, "str.partition", vPartition⟩ else none
theorem methV_ok {X : Cx} (hu : X.A.units + 150 < cLine) {m : Bool} {x : Str} {b : MK} (h : methV m x = some b) : MI b.T.name x b.id ∧ MtR X b.id (rVM X b.f) := by
  unfold methV at h
  split at h
  · rename_i e; subst e; cases h; exact ⟨⟨PySem.F.plainAttrs_list, PySem.F.slot_list_append, PySem.F.type_list_append⟩, mt_append_ok⟩
  split at h
  · rename_i e; subst e; cases h; exact ⟨⟨PySem.F.plainAttrs_list, PySem.F.slot_list_pop, PySem.F.type_list_pop⟩, mt_pop_ok⟩
  split at h
  · rename_i e; subst e; cases h; exact ⟨⟨PySem.F.plainAttrs_list, PySem.F.slot_list_insert, PySem.F.type_list_insert⟩, mt_insert_ok⟩
  split at h
  · rename_i e; subst e; cases h; exact ⟨⟨PySem.F.plainAttrs_list, PySem.F.slot_list_extend, PySem.F.type_list_extend⟩, mt_extend_ok⟩
  split at h
  · rename_i e; subst e; cases h; exact ⟨⟨PySem.F.plainAttrs_dict, PySem.F.slot_dict_get, PySem.F.type_dict_get⟩, mt_get_ok (by omega)⟩
  split at h
  · rename_i e; subst e; cases h; exact ⟨⟨PySem.F.plainAttrs_str, PySem.F.slot_str_split, PySem.F.type_str_split⟩, mt_split_ok⟩
  split at h
  · rename_i e; subst e; cases h; exact ⟨⟨PySem.F.plainAttrs_str, PySem.F.slot_str_join, PySem.F.type_str_join⟩, mt_join_ok⟩
  split at h
  · rename_i e; subst e; cases h; exact ⟨⟨PySem.F.plainAttrs_str, PySem.F.slot_str_startswith, PySem.F.type_str_startswith⟩, vStarts_ok mt_startswith⟩
  split at h
  · rename_i e; subst e; cases h; exact ⟨⟨PySem.F.plainAttrs_str, PySem.F.slot_str_endswith, PySem.F.type_str_endswith⟩, vStarts_ok mt_endswith⟩
  split at h
  · rename_i e; subst e; cases h; exact ⟨⟨PySem.F.plainAttrs_str, PySem.F.slot_str_partition, PySem.F.type_str_partition⟩, mt_partition_ok⟩
  · cases h
def baseB (o : Expr) : Bool := match o with
  | .Call (.Name x _) [] [] _ => x != "super"
  | _ => true
theorem baseB_ok {o : Expr} (h : baseB o = true) (name : Str) (env : Env) : attributeBase o name env (eval o env) = eval o env := by
  unfold baseB at h
  split at h
  · rename_i x p q
    unfold attributeBase
    dsimp only
    rw [if_pos (by rw [h]; rfl)]
  · rename_i hn
    unfold attributeBase
    split
    · exact absurd rfl (hn _ _ _)
    · rfl
def denMeth (f : Expr → Den) (Γ : Ga) (o : Expr) (name : Str) (apos : Pos) (args : List Expr) (pos : Pos) : Den :=
  if baseB o && (apos.endLine == pos.line) && noStar args && decide (args.length < 30) then match methV (isC Γ pos) name with
    | some b => dMeth b.T b.f (f o) (denEs f args)
    | none => dBad
  else dBad
/-- G.get(e, y) -/
def denGet (f : Expr → Den) (kvs : List (Key × PyData)) (name : Str) (apos : Pos) (args : List Expr) (pos : Pos) : Den := match args with
  | [a, b] => if name = "get" ∧ noStar [a, b] = true ∧ (apos.endLine == pos.line) = true then dGGet kvs (denEs f [a, b]) else dBad
  | _ => dBad
theorem sn_meth {Γ : Ga} {X : Cx} {E : WX} {f : Expr → Den} (G : Good Γ X E) (hf : ∀ e, PE X e (tE X E (f e))) {o : Expr} {name : Str} {apos pos : Pos} {args : List Expr} : PE X (.Call (.Attribute o name apos) args [] pos) (tE X E (denMeth f Γ o name apos args pos)) := by
  unfold denMeth
  split
  · rename_i hc
    simp only [Bool.and_eq_true, decide_eq_true_eq] at hc
    obtain ⟨⟨⟨h1, h2⟩, h3⟩, h4⟩ := hc
    split
    · rename_i b hb
      obtain ⟨m1, m2⟩ := methV_ok (X := X) G.un hb
      cases args with
      | nil => exact se_meth0 m1 m2 (hf o) (baseB_ok h1 _ _) h2
      | cons a es => exact se_meth m1 m2 (hf o) (sn_es hf h3) (baseB_ok h1 _ _) h3 h4 h2
    · exact se_bad
  · exact se_bad
def denCall (f : Expr → Den) (Γ : Ga) (fn : Expr) (args : List Expr) (kws : List Keyword) (pos : Pos) : Den := match fn with
  | .Name x _ => denCallN f Γ x args kws pos
  | .Attribute o name apos => match kws with
    | [] => match mdOf Γ o with
      | some kvs => denGet f kvs name apos args pos
      | none => denMeth f Γ o name apos args pos
    | _ => dBad
  | _ => dBad
theorem sn_call {Γ : Ga} {X : Cx} {E : WX} {f : Expr → Den} (G : Good Γ X E) (hf : ∀ e, PE X e (tE X E (f e))) {fn : Expr} {args : List Expr} {kws : List Keyword} {pos : Pos} : PE X (.Call fn args kws pos) (tE X E (denCall f Γ fn args kws pos)) := by
  unfold denCall
  split
  · exact sn_callN G hf
  · split
    · split
      · rename_i kvs hk
        obtain ⟨x, p, rfl, M, hg, hd⟩ := mdOf_ok G hk
        unfold denGet
        split
        · split
          · rename_i hc
            obtain ⟨rfl, h2, h3⟩ := hc
            exact se_gget G.u1 M hg hd (sn_es hf h2) h2 h3
          · exact se_bad
        · exact se_bad
      · exact sn_meth G hf
    · exact se_bad
  · exact se_bad
end Sr
/-! Displays, cuts, comprehensions; the evaluator of expressions whole. -/
namespace Sr
open PySem L2

structure Evs where
  e : Expr → Den
  t : Expr → DenT

/-! dict displays -/
def denPairs (f : Expr → Den) : List (Option Expr) → List Expr → Option (List (Den × Den))
  | [], [] => some []
  | some k :: ks, v :: vs => (denPairs f ks vs).map ((f k, f v) :: ·)
  | _, _ => none
def denPairsT (f : Expr → Den) : List (Option Expr) → List Expr → Option (List (Dens × Den))
  | [], [] => some []
  | some (.Tuple es _ _) :: ks, v :: vs => if noStar es then (denPairsT f ks vs).map ((denEs f es, f v) :: ·) else none
  | _, _ => none
def isTupK : List (Option Expr) → Bool
  | some (.Tuple _ _ _) :: _ => true
  | _ => false
def denDict1 (f : Expr → Den) (m : Bool) (keys : List (Option Expr)) (values : List Expr) : Den := match keys, values with
  | [], [] => dDict0 m
  | [], _ => dBad
  | keys, values => if keys.length ≤ 15 then match denPairs f keys values with
    | some ps => dDict m ps
    | none => dBad
    else dBad
def denDict (f : Expr → Den) (m : Bool) (keys : List (Option Expr)) (values : List Expr) : Den := if isTupK keys then (if keys.length ≤ 15 then match denPairsT f keys values with
    | some ps => dDictT ps
    | none => dBad
    else dBad) else denDict1 f m keys values
/-! cuts -/
def denPart (f : Expr → Den) : Option Expr → DO
  | none => dNoPart
  | some e => dPart (f e)
def isRev : Option Expr → Option Expr → Expr → Bool
  | none, none, .UnaryOp .USub (.Constant (.int i) _ _) _ => decide (i = 1)
  | _, _, _ => false
def denSub1 (f : Expr → Den) (m : Bool) (a ix : Expr) : Den := match ix with
  | .Slice lo hi none _ => dSl (vSl m) (f a) (denPart f lo) (denPart f hi)
  | .Slice lo hi (some s) _ => if isRev lo hi s then dUn (vRev2 m) (f a) else dBad
  | ix => if plainIx ix then dOp vIdx (f a) (f ix) else dBad
def denSub (f : Expr → Den) (Γ : Ga) (m : Bool) (a ix : Expr) : Den := match mdOf Γ a with
  | some kvs => if plainIx ix then dGIx kvs (f ix) else dBad
  | none => denSub1 f m a ix
section
variable {X : Cx} {E : WX} {f : Expr → Den}
theorem sn_pairs (hf : ∀ e, PE X e (tE X E (f e))) {pos : Pos} : ∀ {keys : List (Option Expr)} {values : List Expr} {ps : List (Den × Den)}, denPairs f keys values = some ps → PPs X pos keys values (trsD X E ps) ∧ keys.all (·.isSome) = true ∧ keys.length = values.length
  | [], [], ps, h => by
    have h := Option.some.inj h
    subst h
    exact ⟨sps_nil, rfl, rfl⟩
  | [], _ :: _, _, h => by cases h
  | none :: _, _, _, h => by cases h
  | some k :: ks, [], _, h => by cases h
  | some k :: ks, v :: vs, ps, h => by
    have h : (denPairs f ks vs).map ((f k, f v) :: ·) = some ps := h
    cases q : denPairs f ks vs with
    | none => rw [q] at h; cases h
    | some qs =>
      rw [q] at h
      have h := Option.some.inj h
      subst h
      obtain ⟨h1, h2, h3⟩ := sn_pairs hf (pos := pos) q
      exact ⟨sps_cons (hf k) (hf v) h1, by rw [List.all_cons, h2]; rfl, by rw [List.length_cons, List.length_cons, h3]⟩
theorem sn_pairsT (hf : ∀ e, PE X e (tE X E (f e))) {pos : Pos} : ∀ {keys : List (Option Expr)} {values : List Expr} {ps : List (Dens × Den)}, denPairsT f keys values = some ps → PPs X pos keys values (trsT X E ps) ∧ keys.all (·.isSome) = true ∧ keys.length = values.length
  | [], [], ps, h => by
    have h := Option.some.inj h
    subst h
    exact ⟨spsT_nil, rfl, rfl⟩
  | [], _ :: _, _, h => by cases h
  | none :: _, _, _, h => by cases h
  | some k :: ks, [], _, h => by cases k <;> cases h
  | some k :: ks, v :: vs, ps, h => by
    cases k with
    | Tuple es j tp =>
      have h : (if noStar es then (denPairsT f ks vs).map ((denEs f es, f v) :: ·) else none) = some ps := h
      split at h
      · rename_i hs
        cases q : denPairsT f ks vs with
        | none => rw [q] at h; cases h
        | some qs =>
          rw [q] at h
          have h := Option.some.inj h
          subst h
          obtain ⟨h1, h2, h3⟩ := sn_pairsT hf (pos := pos) q
          exact ⟨spsT_cons (sn_es hf hs) (hf v) h1, by rw [List.all_cons, h2]; rfl, by rw [List.length_cons, List.length_cons, h3]⟩
      · cases h
    | _ => cases h
theorem sn_dict1 (hf : ∀ e, PE X e (tE X E (f e))) {m : Bool} {pos : Pos} {keys : List (Option Expr)} {values : List Expr} : PE X (.Dict keys values pos) (tE X E (denDict1 f m keys values)) := by
  unfold denDict1
  split
  · exact se_dict0
  · exact se_bad
  · rename_i h1 h2
    split
    · rename_i h15
      split
      · rename_i ps hp
        obtain ⟨k1, k2, k3⟩ := sn_pairs hf (pos := pos) hp
        refine se_dict k1 k2 k3 (fun z => ?_) h15
        subst z
        cases values with
        | nil => exact h1 rfl
        | cons v vs => cases k3
      · exact se_bad
    · exact se_bad
theorem sn_dict (hu : X.A.units + 1 < cLine) (hf : ∀ e, PE X e (tE X E (f e))) {m : Bool} {pos : Pos} {keys : List (Option Expr)} {values : List Expr} : PE X (.Dict keys values pos) (tE X E (denDict f m keys values)) := by
  unfold denDict
  split
  · rename_i ht
    split
    · rename_i h15
      split
      · rename_i ps hp
        obtain ⟨k1, k2, k3⟩ := sn_pairsT hf (pos := pos) hp
        exact se_dictT (by omega) k1 k2 k3 (fun z => by subst z; cases ht) h15
      · exact se_bad
    · exact se_bad
  · exact sn_dict1 hf
theorem sn_part (hf : ∀ e, PE X e (tE X E (f e))) : ∀ {o : Option Expr}, L2.PO X o (tOO X E (denPart f o))
  | none => sp_none
  | some e => sp_some (hf e)
theorem sn_sub1 (hu : X.A.units + 1 < cLine) (hf : ∀ e, PE X e (tE X E (f e))) {m : Bool} {a ix : Expr} {pos : Pos} : PE X (.Subscript a ix pos) (tE X E (denSub1 f m a ix)) := by
  unfold denSub1
  split
  · exact se_slice (hf a) (sn_part hf) (sn_part hf)
  · split
    · rename_i hr
      unfold isRev at hr
      split at hr
      · have hr := of_decide_eq_true hr
        subst hr
        exact se_rev2 (hf a)
      · cases hr
    · exact se_bad
  · split
    · rename_i hp
      exact se_ix hu (hf a) (hf _) hp
    · exact se_bad
end

theorem sn_sub {Γ : Ga} {X : Cx} {E : WX} {f : Expr → Den} (G : Good Γ X E) (hf : ∀ e, PE X e (tE X E (f e))) {m : Bool} {a ix : Expr} {pos : Pos} : PE X (.Subscript a ix pos) (tE X E (denSub f Γ m a ix)) := by
  unfold denSub
  split
  · rename_i kvs hk
    obtain ⟨x, p, rfl, M, hg, hd⟩ := mdOf_ok G hk
    split
    · exact se_gix M hg hd (hf _) ‹_›
    · exact se_bad
  · exact sn_sub1 G.u1 hf
/-! what is walked -/
def noSet : Expr → Bool
  | .Set _ _ _ => false
  | _ => true
theorem noSet_ok {e : Expr} (h : noSet e = true) (env : Env) (x : Value) : foldedSetIterable e env x = pure x := by
  cases e with
  | Set a b c => cases h
  | _ => rfl
def isTupT : Expr → Bool
  | .Tuple _ _ _ => true
  | _ => false
def denI (f : Expr → Den) (Γ : Ga) (tg iter : Expr) : DI := match iter with
  | .Call (.Name x _) args [] _ => if glB Γ.sc x && Γ.bl.contains x && noStar args then
      if x = "range" then match args with
        | [a] => dRange1 (denEs f [a])
        | [a, b] => dRange2 (denEs f [a, b])
        | _ => iBad
      else if x = "enumerate" ∧ isTupT tg = true then match args with
        | [a] => dEnum2 (denEs f [a])
        | _ => iBad
      else if x = "zip" ∧ isTupT tg = true then match args with
        | [a, b] => dZip (denEs f [a, b])
        | _ => iBad
      else dIt (f iter)
    else dIt (f iter)
  | _ => dIt (f iter)
theorem si_bad {X : Cx} {E : WX} {tg e : Expr} (he : PE X e (tE X E dBad)) : PI X tg e (tI X E iBad) := by
  refine ⟨fun pins s σ H R I h => (si_any (tg := tg) he).run pins s σ H R I ?_⟩
  obtain ⟨ρ, fr, st, A, h⟩ := h
  exact ⟨ρ, fr, st, A, h⟩
theorem sn_iter {Γ : Ga} {X : Cx} {E : WX} {f : Expr → Den} (G : Good Γ X E) (hf : ∀ e, PE X e (tE X E (f e))) {tg iter : Expr} : PI X tg iter (tI X E (denI f Γ tg iter)) := by
  unfold denI
  split
  · rename_i x p args pos
    split
    · rename_i hc
      simp only [Bool.and_eq_true] at hc
      obtain ⟨⟨hg, hb⟩, hs⟩ := hc
      have hm := G.bl x (by simpa using hb)
      split
      · rename_i e
        subst e
        split
        · exact si_range1 (G.glo hg) hm (sn_es hf hs) hs
        · exact si_range2 (G.glo hg) hm (sn_es hf hs) hs
        · exact si_bad se_bad
      · split
        · rename_i e
          obtain ⟨e, ht⟩ := e
          subst e
          split
          · unfold isTupT at ht
            split at ht
            · exact si_enum2 (G.glo hg) hm (sn_es hf hs) hs
            · cases ht
          · exact si_bad se_bad
        · split
          · rename_i e
            obtain ⟨e, ht⟩ := e
            subst e
            split
            · unfold isTupT at ht
              split at ht
              · exact si_zip (G.glo hg) hm (sn_es hf hs) hs
              · cases ht
            · exact si_bad se_bad
          · exact si_any (hf _)
    · exact si_any (hf _)
  · exact si_any (hf _)

/-! comprehensions -/
def namesIx (Γ : Ga) : List Expr → Option (List Nat)
  | [] => some []
  | .Name x _ :: r => if locB Γ x then match ixOf Γ.N x, namesIx Γ r with
    | some i, some is => some (i :: is)
    | _, _ => none
    else none
  | _ :: _ => none
def tgOf (Γ : Ga) : Expr → Option Tg
  | .Name x _ => if locB Γ x then (ixOf Γ.N x).map .one else none
  | .Tuple es _ _ => (namesIx Γ es).map .two
  | _ => none
section
variable {Γ : Ga} {X : Cx} {E : WX}
theorem namesIx_ok (G : Good Γ X E) : ∀ {es : List Expr} {is : List Nat}, namesIx Γ es = some is → PGs X es (gAll is) ∧ (assignEach es X.env).length = is.length ∧ (assignEach es X.env).findIdx? (·.1) = none
  | [], is, h => by
    have h := Option.some.inj h
    subst h
    exact ⟨pgs_nil, rfl, rfl⟩
  | e :: es, is, h => by
    cases e with
    | Name x p =>
      have h : (if locB Γ x then match ixOf Γ.N x, namesIx Γ es with
        | some i, some is => some (i :: is)
        | _, _ => none
        else none) = some is := h
      split at h
      · rename_i hl
        obtain ⟨l1, l2⟩ := G.loc hl
        cases q1 : ixOf Γ.N x with
        | none => rw [q1] at h; cases h
        | some i =>
          cases q2 : namesIx Γ es with
          | none => rw [q1, q2] at h; cases h
          | some js =>
            rw [q1, q2] at h
            have h := Option.some.inj h
            subst h
            obtain ⟨k1, k2, k3⟩ := namesIx_ok G q2
            refine ⟨pgs_cons (pg_name (by rw [G.N]; exact G.nd) (G.ix q1) l1 l2) k1, ?_, ?_⟩
            · show (assignEach es X.env).length + 1 = _
              rw [k2]; rfl
            · show List.findIdx? (·.1) ((false, assign (.Name x p) X.env) :: assignEach es X.env) = none
              rw [List.findIdx?_cons]
              simp only [Bool.false_eq_true, if_false, k3]
              rfl
      · cases h
    | _ => cases h
theorem tgOf_ok (G : Good Γ X E) {tg : Expr} {t : Tg} (h : tgOf Γ tg = some t) : PG X tg (t.rd X.K) := by
  unfold tgOf at h
  split at h
  · split at h
    · rename_i hl
      obtain ⟨l1, l2⟩ := G.loc hl
      cases q1 : ixOf Γ.N ‹Str› with
      | none => rw [q1] at h; cases h
      | some i =>
        rw [q1] at h
        cases h
        exact pg_name (by rw [G.N]; exact G.nd) (G.ix q1) l1 l2
    · cases h
  · rename_i es _ _
    cases q : namesIx Γ es with
    | none => rw [q] at h; cases h
    | some is =>
      rw [q] at h
      cases h
      obtain ⟨k1, k2, k3⟩ := namesIx_ok G q
      exact pg_tup G.calm k1 k2 k3
  · cases h
def ownOf (N : List Str) (scope : Scope) : List (Str × Nat) := scope.names.filterMap fun p => match p.2 with
  | .local => (ixOf N p.1).map (p.1, ·)
  | .cell => (ixOf N p.1).map (p.1, ·)
  | _ => none
def Ga.blk (Γ : Ga) (scope : Scope) : Ga := { Γ with sc := relS scope Γ.sc, fn := fun x => scope.names.lookup x == some .cell }
theorem Good.blk (G : Good Γ X E) (scope : Scope) (s : Shared) (H : Hp) (C : Addr) (cl : List (Str × Addr)) (fp : List Addr) : Good (Γ.blk scope) (X.blk s H scope (compEnvC scope cl C X.env) fp) E0 :=
  ⟨G.calm, G.N, G.nd, by show relS scope X.env.scope = relS scope Γ.sc; rw [G.sc], fun x h => h, G.hot, G.un, G.sm, fun u s' ⟨_, _, _, _, _, _, _, _, _, _, _, _, _, _, _, _, w⟩ => w.elim, G.room, G.ft, G.gl, G.md, G.bl, G.xt, G.nk⟩
def denIfs (g : Expr → DenT) : List Expr → DenT
  | [] => dYes
  | [c] => g c
  | _ => dBadT
def denComp (R : Ga → Evs) (Γ : Ga) (m : Bool) (elt : Expr) (gens : List Comprehension) (scope : Scope) : Den := match gens with
  | [⟨tg, iter, ifs, as⟩] => if decide (as = 0) && noSet iter && blkC Γ.N Γ.sc scope (ownOf Γ.N scope) then match tgOf (Γ.blk scope) tg with
    | some t => if t.slots.all (fun i => ((ownOf Γ.N scope).map (·.2)).contains i) then
        dComp m t ((ownOf Γ.N scope).map (·.2)) (denI (R Γ).e Γ tg iter) (denIfs (R (Γ.blk scope)).t ifs) ((R (Γ.blk scope)).e elt)
      else dBad
    | none => dBad
    else dBad
  | _ => dBad
theorem pts_bad {ifs : List Expr} : PTs X ifs (tT X E dBadT) := ⟨fun pins s σ H Q I h => by obtain ⟨_, _, _, _, h⟩ := h; exact h.elim⟩
theorem pts_yes : PTs X [] (tT X E dYes) := ⟨fun pins s σ H Q I h => pts_nil.run pins s σ H Q I (by obtain ⟨ρ, fr, st, A, h⟩ := h; exact h ρ H (Ext.refl _ _) A.rs)⟩
theorem sn_ifs {g : Expr → DenT} (hg : ∀ e, PT X e (tT X E (g e))) : ∀ {ifs : List Expr}, PTs X ifs (tT X E (denIfs g ifs))
  | [] => pts_yes
  | [c] => pts_one (hg c)
  | _ :: _ :: _ => pts_bad
/-- what is known of a way to read -/
def RevOk (R : Ga → Evs) : Prop := ∀ (Γ : Ga) (X : Cx) (E : WX), Good Γ X E → (∀ e, PE X e (tE X E ((R Γ).e e))) ∧ ∀ e, PT X e (tT X E ((R Γ).t e))
theorem tE_cast {X X' : Cx} {E : WX} {d : Den} (hK : X'.K = X.K) (hm : X'.mg = X.mg) {σ : L2.St} {H : Hp} {Q : VK} (h : tE X E d σ H Q) : tE X' E d σ H Q := by
  obtain ⟨ρ, fr, st, A, h⟩ := h
  refine ⟨ρ, fr, st, ⟨by rw [hK, hm]; exact A.fr, by rw [hK, hm]; exact A.rs⟩, ?_⟩
  unfold okE okX at h ⊢
  rw [hK, hm]
  exact h
theorem tT_cast {X X' : Cx} {E : WX} {d : DenT} (hK : X'.K = X.K) (hm : X'.mg = X.mg) {σ : L2.St} {H : Hp} {Q : Bool → Hp → Prop} (h : tT X E d σ H Q) : tT X' E d σ H Q := by
  obtain ⟨ρ, fr, st, A, h⟩ := h
  refine ⟨ρ, fr, st, ⟨by rw [hK, hm]; exact A.fr, by rw [hK, hm]; exact A.rs⟩, ?_⟩
  unfold okT okX at h ⊢
  rw [hK, hm]
  exact h
def denDComp (R : Ga → Evs) (Γ : Ga) (m : Bool) (kx vx : Expr) (gens : List Comprehension) (scope : Scope) : Den := match gens with
  | [⟨tg, iter, [], as⟩] => if decide (as = 0) && noSet iter && blkC Γ.N Γ.sc scope (ownOf Γ.N scope) then match tgOf (Γ.blk scope) tg with
    | some t => if t.slots.all (fun i => ((ownOf Γ.N scope).map (·.2)).contains i) then
        dDComp m t ((ownOf Γ.N scope).map (·.2)) (denI (R Γ).e Γ tg iter) ((R (Γ.blk scope)).e kx) ((R (Γ.blk scope)).e vx)
      else dBad
    | none => dBad
    else dBad
  | _ => dBad
theorem sn_dcomp {R : Ga → Evs} (hR : RevOk R) (G : Good Γ X E) {m : Bool} {kx vx : Expr} {gens : List Comprehension} {scope : Scope} {pos : Pos} : PE X (.DictComp kx vx gens scope pos) (tE X E (denDComp R Γ m kx vx gens scope)) := by
  unfold denDComp
  split
  · rename_i tg iter as
    split
    · rename_i hc
      simp only [Bool.and_eq_true, decide_eq_true_eq] at hc
      obtain ⟨⟨has, hs⟩, hb⟩ := hc
      subst has
      split
      · rename_i t ht
        split
        · rename_i hsl
          have hb' : BlkOk X.N X.env.scope scope (ownOf Γ.N scope) := by rw [G.N, G.sc]; exact blkOk_by hb
          have part : ∀ e (s : Shared) (H : Hp) (C : Addr) (cl : List (Str × Addr)) (fp : List Addr), PE (X.blk s H scope (compEnvC scope cl C X.env) fp) e (tE X E0 ((R (Γ.blk scope)).e e)) := fun e s H C cl fp =>
            ⟨fun pins s1 σ H1 Q I h => ((hR _ _ _ (G.blk scope s H C cl fp)).1 e).run pins s1 σ H1 Q I (tE_cast (X := X) (X' := X.blk s H scope (compEnvC scope cl C X.env) fp) rfl rfl h)⟩
          refine se_dcomp G.calm (by rw [G.N]; exact G.nd) (sn_iter G (hR Γ X E G).1) hb' (fun i hi => ?_) (fun s H C cl fp => tgOf_ok (G.blk scope s H C cl fp) ht) (part kx) (part vx) (noSet_ok hs X.env)
          have := List.all_eq_true.mp hsl i hi
          simpa using this
        · exact se_bad
      · exact se_bad
    · exact se_bad
  · exact se_bad
theorem sn_comp {R : Ga → Evs} (hR : RevOk R) (G : Good Γ X E) {m : Bool} {elt : Expr} {gens : List Comprehension} {scope : Scope} {pos : Pos} : PE X (.ListComp elt gens scope pos) (tE X E (denComp R Γ m elt gens scope)) := by
  unfold denComp
  split
  · rename_i tg iter ifs as
    split
    · rename_i hc
      simp only [Bool.and_eq_true, decide_eq_true_eq] at hc
      obtain ⟨⟨has, hs⟩, hb⟩ := hc
      subst has
      split
      · rename_i t ht
        split
        · rename_i hsl
          have hb' : BlkOk X.N X.env.scope scope (ownOf Γ.N scope) := by rw [G.N, G.sc]; exact blkOk_by hb
          refine se_comp G.calm (by rw [G.N]; exact G.nd) (sn_iter G (hR Γ X E G).1) hb' (fun i hi => ?_) (fun s H C cl fp => tgOf_ok (G.blk scope s H C cl fp) ht) (fun s H C cl fp => ⟨fun pins s1 σ H1 Q I h => (sn_ifs (hR _ _ _ (G.blk scope s H C cl fp)).2).run pins s1 σ H1 Q I (tT_cast (X := X) (X' := X.blk s H scope (compEnvC scope cl C X.env) fp) rfl rfl h)⟩) (fun s H C cl fp => ⟨fun pins s1 σ H1 Q I h => ((hR _ _ _ (G.blk scope s H C cl fp)).1 elt).run pins s1 σ H1 Q I (tE_cast (X := X) (X' := X.blk s H scope (compEnvC scope cl C X.env) fp) rfl rfl h)⟩) (noSet_ok hs X.env)
          have := List.all_eq_true.mp hsl i hi
          simpa using this
        · exact se_bad
      · exact se_bad
    · exact se_bad
  · exact se_bad
end

/-! a pair whose second part gives words by a table -/
def namesB (x dn : Str) (scope : Scope) : Bool := match scope.names with
  | [(a, .local), (b, .local), (c, .free)] => a == Str.ofString ".0" && b == x && c == dn && scope.kind == .function && !(x == Str.ofString ".0") && !(dn == Str.ofString ".0") && !(dn == x) && !isDbg dn && !isDbg x
  | _ => false
def denTok (f : Expr → Den) (Γ : Ga) : List Expr → Option Den
  | [.Compare a [.Eq] [.Constant (.str w) _ _] _, .Call (.Name tn _) [.ListComp (.Subscript (.Name dn _) (.Name x _) _) [⟨.Name x' _, .Call (.Attribute (.Call (.Attribute o r ap1) [.Constant (.str y) _ _, .Constant (.str z) _ _] [] p1) sp ap2) [.Constant (.str sep) _ _] [] p2, [], as⟩] scope _] [] _] =>
    if tn = "tuple" ∧ r = "replace" ∧ sp = "split" ∧ x' = x ∧ as = 0 ∧ namesB x dn scope = true ∧ Γ.sc.names.lookup dn = some .cell ∧ Γ.sc.kind = .function ∧ (y == z) = false ∧ (sep.length == 0) = false ∧ baseB o = true ∧ (ap1.endLine == p1.line) = true ∧ (ap2.endLine == p2.line) = true ∧ glB Γ.sc tn = true ∧ Γ.bl.contains tn = true then
      match ixOf Γ.N dn with
      | some i => some (dTup (dCons (dOp (vEq false) (f a) (dC (.str w))) (dCons (dCodes (f o) y z sep i) dNil)))
      | none => none
    else none
  | _ => none
theorem sn_tok {Γ : Ga} {X : Cx} {E : WX} (G : Good Γ X E) {f : Expr → Den} (hf : ∀ e, PE X e (tE X E (f e))) {es : List Expr} {k : Nat} {pos : Pos} {d : Den} (h : denTok f Γ es = some d) : PE X (.Tuple es k pos) (tE X E d) := by
  unfold denTok at h
  split at h
  · split at h
    · rename_i hc
      obtain ⟨rfl, rfl, rfl, rfl, rfl, h1, h2, h3, h4, h5, h6, h7, h8, h9, h10⟩ := hc
      split at h
      · rename_i i hi
        cases h
        unfold namesB at h1
        split at h1
        · rename_i hn
          simp only [Bool.and_eq_true, beq_iff_eq, Bool.not_eq_true'] at h1
          obtain ⟨⟨⟨⟨⟨⟨⟨⟨a1, a2⟩, a3⟩, a4⟩, a5⟩, a6⟩, a7⟩, a8⟩, a9⟩ := h1
          subst a1 a2 a3
          have dbg : ∀ {q : Str}, isDbg q = false → (q == ("__debug__" : Str)) = false := fun {q} hq => by
            unfold isDbg at hq
            simp only [Bool.or_eq_false_iff] at hq
            exact hq.1.1
          exact se_tokTup (op_eq_ok G.un) (hf _) (pet_codes G.calm G.u1 (hf _) h4 h5 rfl (baseB_ok h6 _ _) h7 h8 (G.ix hi) (by rw [G.sc]; exact h2) (by rw [G.sc]; exact h3) a4 hn a5 a6 a7 (dbg a8) (dbg a9) (G.glo h9) (G.bl _ (by simpa using h10))) rfl rfl
        · cases h1
      · cases h
    · cases h
  · cases h
/-! ### the evaluator of expressions -/
def denC : Const → Den
  | .int i => dC (.int i)
  | .bool b => dC (.bool b)
  | .str x => dC (.str x)
  | .none => dC .none
  | _ => dBad
def evE (R : Ga → Evs) (Γ : Ga) (e : Expr) : Den := match e with
  | .Constant c _ _ => denC c
  | .Name x _ => denName Γ x
  | .Tuple es _ _ => match denTok (R Γ).e Γ es with
    | some d => d
    | none => if noStar es then dTup (denEs (R Γ).e es) else dBad
  | .List es pos => if noStar es then (if isC Γ pos then dLstC (denEs (R Γ).e es) else dLst (denEs (R Γ).e es)) else dBad
  | .BinOp a op b pos => match binV (isC Γ pos) op with
    | some f => dOp f ((R Γ).e a) ((R Γ).e b)
    | none => dBad
  | .UnaryOp op a _ => match op with
    | .USub => dUn vNeg ((R Γ).e a)
    | .Not => dNot ((R Γ).e a)
    | _ => dBad
  | .BoolOp op es _ => match op with
    | .And => denAnd (R Γ).e es
    | .Or => denOr (R Γ).e es
  | .IfExp c a b _ => dIf ((R Γ).t c) ((R Γ).e a) ((R Γ).e b)
  | .Compare a ops bs _ => denCmp (R Γ).e Γ a ops bs
  | .Subscript a ix pos => denSub (R Γ).e Γ (isC Γ pos) a ix
  | .Dict keys values pos => denDict (R Γ).e (isC Γ pos) keys values
  | .ListComp elt gens scope pos => denComp R Γ (isC Γ pos) elt gens scope
  | .DictComp kx vx gens scope pos => denDComp R Γ (isC Γ pos) kx vx gens scope
  | .Call fn args kws pos => denCall (R Γ).e Γ fn args kws pos
  | _ => dBad
def evT (R : Ga → Evs) (Γ : Ga) (e : Expr) : DenT := match e with
  | .BoolOp op es _ => match op with
    | .And => denAndT (R Γ).t es
    | .Or => denOrT (R Γ).t es
  | .UnaryOp .Not a _ => dNotT ((R Γ).t a)
  | .Compare a ops bs _ => dCmpT (denCmp (R Γ).e Γ a ops bs)
  | e => if plainTest e then dTruth ((R Γ).e e) else dBadT
def ev : Nat → Ga → Evs
  | 0, _ => ⟨fun _ => dBad, fun _ => dBadT⟩
  | k + 1, Γ => ⟨evE (ev k) Γ, evT (ev k) Γ⟩
theorem sn_const {X : Cx} {E : WX} {c : Const} {j : Nat} {pos : Pos} : PE X (.Constant c j pos) (tE X E (denC c)) := by
  cases c with
  | int i => exact se_int
  | bool b => exact se_bl
  | str x => exact se_str
  | none => exact se_non
  | _ => exact se_bad
theorem evE_ok {R : Ga → Evs} (hR : RevOk R) {Γ : Ga} {X : Cx} {E : WX} (G : Good Γ X E) (e : Expr) : PE X e (tE X E (evE R Γ e)) := by
  obtain ⟨h1, h2⟩ := hR Γ X E G
  unfold evE
  split
  · exact sn_const
  · exact sn_name G
  · split
    · exact sn_tok G h1 ‹_›
    · split
      · exact se_tup (sn_es h1 ‹_›)
      · exact se_bad
  · split
    · split
      · exact se_lstC (sn_es h1 ‹_›)
      · exact se_lst (sn_es h1 ‹_›)
    · exact se_bad
  · split
    · exact se_op (binV_ok ‹_›) (h1 _) (h1 _)
    · exact se_bad
  · split
    · exact se_un un_neg_ok (h1 _)
    · exact se_not (h1 _)
    · exact se_bad
  · split
    · exact sn_and h1
    · exact sn_or h1
  · exact se_if (h2 _) (h1 _) (h1 _)
  · exact (sn_cmp G h1).1
  · exact sn_sub G h1
  · exact sn_dict G.u1 h1
  · exact sn_comp hR G
  · exact sn_dcomp hR G
  · exact sn_call G h1
  · exact se_bad
theorem evT_ok {R : Ga → Evs} (hR : RevOk R) {Γ : Ga} {X : Cx} {E : WX} (G : Good Γ X E) (e : Expr) : PT X e (tT X E (evT R Γ e)) := by
  obtain ⟨h1, h2⟩ := hR Γ X E G
  unfold evT
  split
  · split
    · exact (sn_andT h2).pt
    · exact (sn_orT h2).pt
  · exact st_not (h2 _)
  · exact (sn_cmp G h1).2
  · split
    · exact st_truth (h1 _) ‹_›
    · exact st_bad
theorem ev_ok : ∀ k : Nat, RevOk (ev k)
  | 0 => fun Γ X E G => ⟨fun e => se_bad, fun e => st_bad⟩
  | k + 1 => fun Γ X E G => ⟨evE_ok (ev_ok k) G, evT_ok (ev_ok k) G⟩
end Sr
/-! The evaluator of statements; defs. -/
namespace Sr
open PySem L2
open PyProof.Rows (envOfC)

def sBad : DS := fun _ _ => .bad
def gBad : DG := fun _ _ _ => none
def gsBad : DGs := fun _ _ _ => none
def dsBad : Dens := fun _ _ => .bad
section
variable {X : Cx} {E : WX} {s : Stmt} {e : Expr}
theorem ss_bad : PS X s (tS X E sBad) := ⟨fun pins s σ H D I h => by obtain ⟨_, _, _, _, h⟩ := h; exact h.elim⟩
theorem sg_bad : PG X e (tG X gBad) := ⟨fun pins s σ H v u Q I r h => by obtain ⟨_, _, _, _, _, _, h⟩ := h; exact h.elim⟩
theorem sgs_bad {es : List Expr} : PGs X es (tGs X gsBad) := ⟨fun pins s σ H vs us Q I r h => by obtain ⟨_, _, _, _, _, _, h⟩ := h; exact h.elim⟩
end

/-! targets -/
def denG (f : Expr → Den) (Γ : Ga) : Nat → Expr → DG
  | 0, _ => gBad
  | k + 1, e => match e with
    | .Name x _ => if locB Γ x then match ixOf Γ.N x with
      | some i => gSlot i
      | none => gBad
      else gBad
    | .Subscript o i pos => if plainIx i then (if isC Γ pos then match Γ.nk with
      | some ws => gSubT ws (f o) (f i)
      | none => gBad
      else gSubC (f o) (f i)) else gBad
    | .Tuple es _ _ => if noStar es then gTupl es.length (es.foldr (fun e r => gsCons (denG f Γ k e) r) gsNil) else gBad
    | _ => gBad
section
variable {Γ : Ga} {X : Cx} {E : WX} {f : Expr → Den}
theorem each_star : ∀ {es : List Expr} {env : Env}, noStar es = true → (assignEach es env).length = es.length ∧ (assignEach es env).findIdx? (·.1) = none ∧ (∀ e r, es = e :: r → (assignEach es env).map (·.2) = assign e env :: (assignEach r env).map (·.2))
  | [], env, _ => ⟨rfl, rfl, fun e r h => by cases h⟩
  | e :: es, env, h => by
    have e1 : assignEach (e :: es) env = (false, assign e env) :: assignEach es env ∧ noStar es = true := by
      cases e <;> first | (cases h; done) | exact ⟨rfl, h⟩
    obtain ⟨k1, k2, k3⟩ := each_star (env := env) e1.2
    rw [e1.1]
    refine ⟨by rw [List.length_cons, k1, List.length_cons], ?_, fun e' r' q => ?_⟩
    · rw [List.findIdx?_cons]
      simp only [Bool.false_eq_true, if_false, k2]
      rfl
    · cases q
      rfl
theorem sn_target (G : Good Γ X E) (hf : ∀ e, PE X e (tE X E (f e))) : ∀ (k : Nat) (e : Expr), PG X e (tG X (denG f Γ k e))
  | 0, _ => sg_bad
  | k + 1, e => by
    unfold denG
    split
    · split
      · rename_i hl
        obtain ⟨l1, l2⟩ := G.loc hl
        split
        · exact sg_slot (by rw [G.N]; exact G.nd) (G.ix ‹_›) l1 l2
        · exact sg_bad
      · exact sg_bad
    · rename_i o i pos
      split
      · rename_i hp
        split
        split
        · rename_i ws hw
          refine sg_subT G.u1 (G.nk ws hw) (hf o) (hf i) fun v => ?_
          cases i with
          | Slice a b c d => cases hp
          | _ => rfl
        · exact sg_bad
        · refine sg_sub G.u1 (hf o) (hf i) fun v => ?_
          cases i with
          | Slice a b c d => cases hp
          | _ => rfl
      · exact sg_bad
    · rename_i es _ _
      split
      · rename_i hs
        have gs : ∀ {es : List Expr}, noStar es = true → PGs X es (tGs X (es.foldr (fun e r => gsCons (denG f Γ k e) r) gsNil)) := by
          intro es
          induction es with
          | nil => intro _; exact sgs_nil
          | cons e es ih =>
            intro h
            exact sgs_cons (sn_target G hf k e) (ih (star_cons (env := X.env) h).2) ((each_star h).2.2 e es rfl)
        exact sg_tup G.calm (gs hs) (each_star hs).1 (each_star hs).2.1
      · exact sg_bad
    · exact sg_bad
end

/-! stores -/
def isComp : Expr → Bool
  | .ListComp _ _ _ _ => true
  | .SetComp _ _ _ _ => true
  | .DictComp _ _ _ _ _ => true
  | _ => false
/-- the value's block has the name for its own -/
def swB (Γ : Ga) (x : Str) (line : Nat) (scope : Scope) (line2 : Nat) : Bool := Γ.sc.kind == .function && Γ.sc.names.lookup x == some .local && line == line2 && !(scope.names.any fun (n, k) => n == x && (k == .local || k == .cell))
def isLocal (Γ : Ga) (x : Str) : Bool := Γ.sc.names.lookup x == some .local
def parB (Γ : Ga) (ts : List (Str × Pos)) (vs : List Expr) : Bool := Γ.sc.kind == .function && ts.all (fun p => isLocal Γ p.1 && p.2.line == (ts.head?.map (·.2.line)).getD 0) && noStar vs && decide ((ts.map (·.1)).eraseDups.length = ts.length) && decide ((ts.map (·.1)).Nodup) && !(vs.all (foldedForSure 8)) && !(vs.all (constantsAlone 8))
/-- not a local name on that line -/
def oddT (Γ : Ga) (line : Nat) : Expr → Bool
  | .Name x p => !(isLocal Γ x && p.line == line)
  | _ => true
/-- no stores side by side -/
def parNo (Γ : Ga) (tg e : Expr) : Bool := match tg, e with
  | .Tuple ts _ _, .Tuple vs _ _ => (!(ts.length == 2 || ts.length == 3) || vs.length != ts.length) || ts.any (oddT Γ ((ts.head?.map (·.pos.line)).getD 0))
  | .Tuple _ _ _, _ => true
  | .Subscript _ _ _, _ => true
  | _, _ => false
def namesP : List Expr → Option (List (Str × Pos))
  | [] => some []
  | .Name x p :: r => (namesP r).map ((x, p) :: ·)
  | _ :: _ => none
def parIx (N : List Str) : List (Str × Pos) → Option (List Nat)
  | [] => some []
  | p :: r => match ixOf N p.1, parIx N r with
    | some i, some is => some (i :: is)
    | _, _ => none
def denAsgT (f : Expr → Den) (Γ : Ga) (tg e : Expr) : DS := if parNo Γ tg e && !isComp e then sAsg (f e) (denG f Γ 5 tg) else match tg, e with
  | .Tuple ts _ _, .Tuple vs _ _ => match namesP ts with
    | some ps => if (ps.length == 2 || ps.length == 3) && vs.length == ps.length && parB Γ ps vs then match parIx Γ.N ps with
      | some is => sPar is (denEs f vs)
      | none => sBad
      else sBad
    | none => sBad
  | _, _ => sBad
def denAsg (R : Ga → Evs) (Γ : Ga) (tg e : Expr) (line : Nat) : DS := match tg with
  | .Name x p => if locB Γ x then match ixOf Γ.N x with
    | some i => match e with
      | .ListComp elt gens scope pos => if swB Γ x p.line scope pos.line then sSet i (denComp R Γ (isC Γ pos) elt gens scope) else if Γ.sc.kind == .function then sSet i ((R Γ).e e) else sBad
      | .DictComp kx vx gens scope pos => if swB Γ x p.line scope pos.line then sSet i (denDComp R Γ (isC Γ pos) kx vx gens scope) else if Γ.sc.kind == .function then sSet i ((R Γ).e e) else sBad
      | e => if isComp e then sBad else sSet i ((R Γ).e e)
    | none => sBad
    else sBad
  | tg => denAsgT (R Γ).e Γ tg e
section
variable {Γ : Ga} {X : Cx} {E : WX}
theorem noComp_swaps {e : Expr} (h : isComp e = false) (t : Option Expr) (l : Nat) (env : Env) : swapsWith e t l env = pure false := by
  cases e <;> first | (cases h; done) | rfl
theorem kind_block {env : Env} (h : env.scope.kind = .function) : env.blockKind = .function := by
  unfold Env.blockKind
  rw [h]; rfl
theorem sn_setDc {R : Ga → Evs} (hR : RevOk R) (G : Good Γ X E) {i : Nat} {x : Str} {p pos spos : Pos} {kx vx : Expr} {gens : List Comprehension} {scope : Scope} {m : Bool} (hl : locB Γ x = true) (hi : ixOf Γ.N x = some i)
    (hsw : swB Γ x p.line scope pos.line = true) : PS X (.Assign [.Name x p] (.DictComp kx vx gens scope pos) spos) (tS X E (sSet i (denDComp R Γ m kx vx gens scope))) := by
  have bad : PS X (.Assign [.Name x p] (.DictComp kx vx gens scope pos) spos) (tS X E (sSet i dBad)) := ⟨fun pins s σ H D I h => by obtain ⟨_, _, _, _, h⟩ := h; exact h.elim⟩
  unfold swB at hsw
  simp only [Bool.and_eq_true, beq_iff_eq] at hsw
  obtain ⟨⟨⟨w1, w2⟩, w3⟩, w4⟩ := hsw
  have hs : swapsWith (.DictComp kx vx gens scope pos) (some (.Name x p)) spos.line X.env = pure true := by
    have b1 : X.env.blockKind = .function := kind_block (by rw [G.sc]; exact w1)
    have b2 : X.env.kindOf x = some .local := by show X.env.scope.names.lookup x = _; rw [G.sc]; exact w2
    have b3 : (p.line == pos.line) = true := by rw [w3]; exact beq_self_eq_true _
    show (pure (X.env.blockKind == .function && X.env.kindOf x == some .local && p.line == pos.line && !(scope.names.any fun (n, k) => n == x && (k == .local || k == .cell))) : Sem Bool) = pure true
    rw [b1, b2, b3, w4]
    rfl
  unfold denDComp
  split
  · rename_i tg iter as
    split
    · rename_i hc
      simp only [Bool.and_eq_true, decide_eq_true_eq] at hc
      obtain ⟨⟨has, hns⟩, hb⟩ := hc
      subst has
      split
      · rename_i t ht
        split
        · rename_i hsl
          have hb' : BlkOk X.N X.env.scope scope (ownOf Γ.N scope) := by rw [G.N, G.sc]; exact blkOk_by hb
          have part : ∀ e (s : Shared) (H : Hp) (C : Addr) (cl : List (Str × Addr)) (fp : List Addr), PE (X.blk s H scope (compEnvC scope cl C X.env) fp) e (tE X E0 ((R (Γ.blk scope)).e e)) := fun e s H C cl fp =>
            ⟨fun pins s1 σ H1 Q I h => ((hR _ _ _ (G.blk scope s H C cl fp)).1 e).run pins s1 σ H1 Q I (tE_cast (X := X) (X' := X.blk s H scope (compEnvC scope cl C X.env) fp) rfl rfl h)⟩
          refine ss_setDc G.calm (by rw [G.N]; exact G.nd) (G.ix hi) (by rw [G.sc]; exact w2) hs (sn_iter G (hR Γ X E G).1) hb' (fun i hi => ?_) (fun s H C cl fp => tgOf_ok (G.blk scope s H C cl fp) ht) (part kx) (part vx) (noSet_ok hns X.env)
          have := List.all_eq_true.mp hsl i hi
          simpa using this
        · exact bad
      · exact bad
    · exact bad
  · exact bad
theorem sn_setComp {R : Ga → Evs} (hR : RevOk R) (G : Good Γ X E) {i : Nat} {x : Str} {p pos spos : Pos} {elt : Expr} {gens : List Comprehension} {scope : Scope} {m : Bool} (hl : locB Γ x = true) (hi : ixOf Γ.N x = some i)
    (hsw : swB Γ x p.line scope pos.line = true) : PS X (.Assign [.Name x p] (.ListComp elt gens scope pos) spos) (tS X E (sSet i (denComp R Γ m elt gens scope))) := by
  have bad : PS X (.Assign [.Name x p] (.ListComp elt gens scope pos) spos) (tS X E (sSet i dBad)) := ⟨fun pins s σ H D I h => by obtain ⟨_, _, _, _, h⟩ := h; exact h.elim⟩
  unfold swB at hsw
  simp only [Bool.and_eq_true, beq_iff_eq] at hsw
  obtain ⟨⟨⟨w1, w2⟩, w3⟩, w4⟩ := hsw
  have hs : swapsWith (.ListComp elt gens scope pos) (some (.Name x p)) spos.line X.env = pure true := by
    have b1 : X.env.blockKind = .function := kind_block (by rw [G.sc]; exact w1)
    have b2 : X.env.kindOf x = some .local := by show X.env.scope.names.lookup x = _; rw [G.sc]; exact w2
    have b3 : (p.line == pos.line) = true := by rw [w3]; exact beq_self_eq_true _
    show (pure (X.env.blockKind == .function && X.env.kindOf x == some .local && p.line == pos.line && !(scope.names.any fun (n, k) => n == x && (k == .local || k == .cell))) : Sem Bool) = pure true
    rw [b1, b2, b3, w4]
    rfl
  unfold denComp
  split
  · rename_i tg iter ifs as
    split
    · rename_i hc
      simp only [Bool.and_eq_true, decide_eq_true_eq] at hc
      obtain ⟨⟨has, hns⟩, hb⟩ := hc
      subst has
      split
      · rename_i t ht
        split
        · rename_i hsl
          have hb' : BlkOk X.N X.env.scope scope (ownOf Γ.N scope) := by rw [G.N, G.sc]; exact blkOk_by hb
          refine ss_setLc G.calm (by rw [G.N]; exact G.nd) (G.ix hi) (by rw [G.sc]; exact w2) hs (sn_iter G (hR Γ X E G).1) hb' (fun i hi => ?_) (fun s H C cl fp => tgOf_ok (G.blk scope s H C cl fp) ht) (fun s H C cl fp => ⟨fun pins s1 σ H1 Q I h => (sn_ifs (hR _ _ _ (G.blk scope s H C cl fp)).2).run pins s1 σ H1 Q I (tT_cast (X := X) (X' := X.blk s H scope (compEnvC scope cl C X.env) fp) rfl rfl h)⟩)
            (fun s H C cl fp => ⟨fun pins s1 σ H1 Q I h => ((hR _ _ _ (G.blk scope s H C cl fp)).1 elt).run pins s1 σ H1 Q I (tE_cast (X := X) (X' := X.blk s H scope (compEnvC scope cl C X.env) fp) rfl rfl h)⟩) (noSet_ok hns X.env)
          have := List.all_eq_true.mp hsl i hi
          simpa using this
        · exact bad
      · exact bad
    · exact bad
  · exact bad
theorem sn_asgT (G : Good Γ X E) {f : Expr → Den} (hf : ∀ e, PE X e (tE X E (f e))) {tg e : Expr} {pos : Pos} (hn : ∀ x p, tg ≠ .Name x p) : PS X (.Assign [tg] e pos) (tS X E (denAsgT f Γ tg e)) := by
  unfold denAsgT
  split
  · rename_i hp
    rw [Bool.and_eq_true, Bool.not_eq_true'] at hp
    obtain ⟨hp, hc⟩ := hp
    have hsw : swappedStores [tg] e X.env = pure none := by
      unfold parNo at hp
      split at hp
      · rename_i ts k q vs k2 q2
        unfold swappedStores
        dsimp only
        simp only [Bool.or_eq_true] at hp
        rcases hp with hp | hp
        · rw [if_pos (by
            rcases hp with h | h
            · rw [h]; rfl
            · rw [h]; simp)]
        · split
          · rfl
          · split
            · rfl
            · split
              · rfl
              rename_i h1 h2 h3
              exfalso
              have short : ∀ (g : Expr → Option Str) {l : List Expr} (o : Expr → Bool), (∀ t, o t = true → g t = none) → l.any o = true → (l.filterMap g).length < l.length := by
                intro g l o hg
                induction l with
                | nil => intro z; cases z
                | cons t l ih =>
                  intro z
                  rw [List.any_cons, Bool.or_eq_true] at z
                  rw [List.filterMap_cons, List.length_cons]
                  rcases z with z | z
                  · rw [hg t z]
                    exact Nat.lt_succ_of_le (List.length_filterMap_le g l)
                  · cases g t with
                    | none => exact Nat.lt_succ_of_lt (ih z)
                    | some y => exact Nat.succ_lt_succ (ih z)
              refine h3 ?_
              rw [Bool.or_eq_true]
              refine .inl (bne_iff_ne.mpr (Nat.ne_of_lt (short _ _ (fun t ht => ?_) hp)))
              cases t <;> first | rfl | skip
              rename_i x p
              unfold oddT isLocal at ht
              rw [← G.sc] at ht
              have ht : (X.env.kindOf x == some .local && p.line == (ts.head?.map (·.pos.line)).getD 0) = false := by
                have z : (!(X.env.scope.names.lookup x == some .local && p.line == (ts.head?.map (·.pos.line)).getD 0)) = true := ht
                rw [Bool.not_eq_true'] at z
                exact z
              show (if (X.env.kindOf x == some .local && p.line == (ts.head?.map (·.pos.line)).getD 0) = true then some x else none) = none
              rw [ht]
              rfl
      · rename_i hne
        cases e <;> first | (exact absurd rfl (hne _ _ _)) | rfl
      · cases e <;> rfl
      · cases hp
    have h1 : (assignEach [tg] X.env).map (·.2) = [assign tg X.env] := by
      unfold parNo at hp
      split at hp <;> first | rfl | cases hp
    exact ss_asg (hf e) (sn_target G hf 5 tg) (noComp_swaps hc _ _ _) hsw h1
  · split
    · rename_i ts k q vs k2 q2 hno
      split
      · rename_i ps hps
        split
        · rename_i hc
          simp only [Bool.and_eq_true, Bool.or_eq_true, beq_iff_eq] at hc
          obtain ⟨⟨hl, hv⟩, hb⟩ := hc
          split
          · rename_i is his
            unfold parB at hb
            simp only [Bool.and_eq_true, beq_iff_eq, decide_eq_true_eq, Bool.not_eq_true'] at hb
            obtain ⟨⟨⟨⟨⟨⟨b1, b2⟩, b3⟩, b4⟩, b5⟩, b6⟩, b7⟩ := hb
            have bk : X.env.blockKind = .function := kind_block (by rw [G.sc]; exact b1)
            have st0 : ∀ (g : Expr → Bool), (∀ v : Expr, noStar [v] = true → g v = false) → ∀ {vs : List Expr}, noStar vs = true → vs.any g = false := by
              intro g hg vs
              induction vs with
              | nil => intro _; rfl
              | cons v vs ih =>
                intro h
                have h2 := (star_cons (env := X.env) h).2
                have h1 : noStar [v] = true := by cases v <;> first | (cases h; done) | rfl
                rw [List.any_cons, hg v h1, ih h2]
                rfl
            have nm : ∀ {ts : List Expr} {ps : List (Str × Pos)}, namesP ts = some ps → ts = ps.map fun p => .Name p.1 p.2 := by
              intro ts
              induction ts with
              | nil => intro ps h; cases h; rfl
              | cons t ts ih =>
                intro ps h
                cases t with
                | Name x p =>
                  have h : (namesP ts).map ((x, p) :: ·) = some ps := h
                  cases q : namesP ts with
                  | none => rw [q] at h; cases h
                  | some l =>
                    rw [q] at h
                    cases h
                    rw [ih q]; rfl
                | _ => cases h
            have e1 := nm hps
            subst e1
            have hsx : swapsWithSole [.Tuple (ps.map fun p => .Name p.1 p.2) k q] (.Tuple vs k2 q2) pos.line X.env = pure false := rfl
            have loc : ∀ p ∈ ps, X.env.scope.names.lookup p.1 = some .local := fun p hp => by
              have := List.all_eq_true.mp b2 p hp
              simp only [Bool.and_eq_true] at this
              rw [G.sc]
              exact beq_iff_eq.mp this.1
            have lin : ∀ p ∈ ps, (p.2.line == (ps.head?.map (·.2.line)).getD 0) = true := fun p hp => by
              have := List.all_eq_true.mp b2 p hp
              simp only [Bool.and_eq_true] at this
              exact this.2
            have hNn : X.N.Nodup := by rw [G.N]; exact G.nd
            have hw : swappedStores [.Tuple (ps.map fun p => .Name p.1 p.2) k q] (.Tuple vs k2 q2) X.env = pure (some (ps.map (·.1))) := by
              unfold swappedStores
              dsimp only
              have hfm : ∀ (g : Expr → Option Str) {qs : List (Str × Pos)}, (∀ p ∈ qs, g (.Name p.1 p.2) = some p.1) → (qs.map fun p => Expr.Name p.1 p.2).filterMap g = qs.map (·.1) := by
                intro g qs h
                induction qs with
                | nil => rfl
                | cons p qs ih =>
                  rw [List.map_cons, List.filterMap_cons, h p List.mem_cons_self, ih fun r hr => h r (List.mem_cons_of_mem _ hr)]
                  rfl
              have hln : (((ps.map fun p => Expr.Name p.1 p.2).head?.map (·.pos.line)).getD 0) = (ps.head?.map (·.2.line)).getD 0 := by
                cases ps with
                | nil => rfl
                | cons p ps => rfl
              have hlen : (ps.map fun p => Expr.Name p.1 p.2).length = ps.length := List.length_map ..
              rw [hln, hfm _ fun p hp => by
                have h1 : X.env.kindOf p.1 = some .local := loc p hp
                have h2 := lin p hp
                show (if (X.env.kindOf p.1 == some .local && p.2.line == (ps.head?.map (·.2.line)).getD 0) = true then some p.1 else none) = some p.1
                rw [h1, h2]
                rfl]
              rw [hlen, bk, st0 _ (fun v hv => by cases v <;> first | (cases hv; done) | rfl) b3, hv, b6, b7, List.length_map, b4]
              rcases hl with hl | hl <;> rw [hl] <;> rfl
            rcases hl with hl | hl
            · obtain ⟨p1, p2, rfl⟩ : ∃ a b, ps = [a, b] := by
                match ps, hl with
                | [a, b], _ => exact ⟨a, b, rfl⟩
              obtain ⟨v1, v2, rfl⟩ : ∃ a b, vs = [a, b] := by
                match vs, hv with
                | [a, b], _ => exact ⟨a, b, rfl⟩
              unfold parIx at his
              cases i1 : ixOf Γ.N p1.1 with
              | none => rw [i1] at his; cases his
              | some i =>
                unfold parIx at his
                cases i2 : ixOf Γ.N p2.1 with
                | none => rw [i1, i2] at his; cases his
                | some j =>
                  rw [i1, i2] at his
                  cases his
                  have hij : i ≠ j := fun z => by
                    subst z
                    have h1 := ixOf_ok i1
                    rw [ixOf_ok i2] at h1
                    have := Option.some.inj h1
                    simp [this] at b5
                  exact ss_par G.calm hNn (G.ix i1) (G.ix i2) hij (loc p1 (by simp)) (loc p2 (by simp)) (sn_es hf b3) hw
            · obtain ⟨p1, p2, p3, rfl⟩ : ∃ a b c, ps = [a, b, c] := by
                match ps, hl with
                | [a, b, c], _ => exact ⟨a, b, c, rfl⟩
              obtain ⟨v1, v2, v3, rfl⟩ : ∃ a b c, vs = [a, b, c] := by
                match vs, hv with
                | [a, b, c], _ => exact ⟨a, b, c, rfl⟩
              unfold parIx at his
              cases i1 : ixOf Γ.N p1.1 with
              | none => rw [i1] at his; cases his
              | some i =>
                unfold parIx at his
                cases i2 : ixOf Γ.N p2.1 with
                | none => rw [i1, i2] at his; cases his
                | some j =>
                  unfold parIx at his
                  cases i3 : ixOf Γ.N p3.1 with
                  | none => rw [i1, i2, i3] at his; cases his
                  | some l =>
                    rw [i1, i2, i3] at his
                    cases his
                    have ne : ∀ {a b : Str} {n m : Nat}, a ≠ b → ixOf Γ.N a = some n → ixOf Γ.N b = some m → n ≠ m := fun h q1 q2 z => by
                      subst z
                      have h1 := ixOf_ok q1
                      rw [ixOf_ok q2] at h1
                      exact h (Option.some.inj h1).symm
                    simp only [List.map_cons, List.map_nil, List.nodup_cons, List.mem_cons, List.not_mem_nil, or_false, not_or] at b5
                    exact ss_par3 G.calm hNn (G.ix i1) (G.ix i2) (G.ix i3) (ne b5.1.1 i1 i2) (ne b5.1.2 i1 i3) (ne b5.2.1 i2 i3) (loc p1 (by simp)) (loc p2 (by simp)) (loc p3 (by simp)) (sn_es hf b3) hw
          · exact ss_bad
        · exact ss_bad
      · exact ss_bad
    · exact ss_bad
end
end Sr
/-! raise; try with one clause whose suite returns. -/
namespace Sr
open PySem L2

def xtIn (xt : List XT) (x : Str) : Option XT := xt.find? fun T => T.x == x
def xtOf (Γ : Ga) (x : Str) : Option XT := xtIn Γ.xt x
theorem xtOf_ok {Γ : Ga} {x : Str} {T : XT} (h : xtOf Γ x = some T) : T ∈ Γ.xt ∧ T.x = x := by
  unfold xtOf xtIn at h
  exact ⟨List.mem_of_find?_eq_some h, by simpa using List.find?_some h⟩
/-! raise -/
def sRaise0 (x : Str) : DS := fun fr st => .ex ⟨x, []⟩ fr st
def sRaise1 (x f : Str) (d : Den) : DS := fun fr st => ofR fr (d fr st) fun v st1 => .ex ⟨x, [(f, v)]⟩ fr st1
def denRaise (f : Expr → Den) (Γ : Ga) : Expr → DS
  | .Call (.Name x _) args [] _ => if isDbg x || !glB Γ.sc x then sBad else match xtOf Γ x with
    | some T => match T.f, args with
      | none, [] => sRaise0 x
      | some fl, [a] => if noStar [a] then sRaise1 x fl (f a) else sBad
      | _, _ => sBad
    | none => sBad
  | _ => sBad
section
variable {Γ : Ga} {X : Cx} {E : WX} {f : Expr → Den}
theorem VRk.one {κ : Type} {K : PySem.W.Frag} {ρ : Cs} {H : Hp} {mg : Str → Option Value} {k : κ} {v : PV} {x : V} (h : VR K ρ H mg v x) : VRk K ρ H mg [(k, v)] [(k, x)] := .cons ⟨rfl, h⟩ .nil
theorem sn_raise (G : Good Γ X E) (hf : ∀ e, PE X e (tE X E (f e))) {e : Expr} {pos : Pos} : PS X (.Raise (some e) none pos) (tS X E (denRaise f Γ e)) := by
  unfold denRaise
  split
  · rename_i x p args cpos
    split
    · exact ss_bad
    · rename_i hc
      simp only [Bool.or_eq_true, not_or, Bool.not_eq_true', Bool.not_eq_false] at hc
      have hd := (isDbg_ok hc.1).1
      have hg := G.glo hc.2
      split
      · rename_i T hT
        obtain ⟨hm, rfl⟩ := xtOf_ok hT
        obtain ⟨C, XC⟩ := G.xt T hm
        have rs : Raises X (.ref C) := raises_own XC.exC XC.tyC
        split
        · rename_i hf0
          have hmade := XC.made
          rw [hf0] at hmade
          refine ⟨fun pins s σ H D I h => (ps_raise G.calm G.tk (pmk_0 hmade XC.gC XC.kC rs hg hd)).run pins s σ H D I ?_⟩
          obtain ⟨ρ, fr, st, A, h⟩ := h
          exact h ρ H σ _ none (Ext.refl _ _) A ⟨XC.gC, rfl⟩
        · rename_i fl a hf0
          have hmade := XC.made
          rw [hf0] at hmade
          obtain ⟨⟨fI, O⟩, hsup⟩ := hmade
          split
          · rename_i hs
            have ha : PA X [a] (tEs X E (denEs f [a])) := sn_es hf hs
            refine ⟨fun pins s σ H D I h => (ps_raise G.calm G.tk (pmk_1 O XC.gC G.room hsup ha hg hd hs)).run pins s σ H D I ?_⟩
            obtain ⟨ρ, fr, st, A, h⟩ := h
            refine ⟨ρ, fr, st, A, ?_⟩
            have hw := okS_ofR h A.fr
            show ((dCons (f a) dNil) fr st).wp _ _
            unfold dCons dNil
            cases q : f a fr st with
            | bad => rw [q] at hw; exact hw.elim
            | exc x st1 => rw [q] at hw; exact hw
            | ok v st1 =>
              rw [q] at hw
              intro ρ1 H1 xs e1 r1 v1
              obtain ⟨y, rfl, hy⟩ := v1.one
              refine ⟨y, rfl, fun d hd => ?_⟩
              have e2 := r1.ext (o := .xd [(fl, y)]) hd
              exact hw ρ1 (upd H1 d (.xd [(fl, y)])) σ _ (some d) (e1.trans e2) ⟨A.fr.mono (e1.trans e2), r1.new hd⟩ ⟨XC.gC, d, _, rfl, upd_same, r1.fresh hd, VRk.one (hy.mono e2)⟩
          · exact ss_bad
        · exact ss_bad
      · exact ss_bad
  · exact ss_bad
end

/-! what a suite returns -/
def slotV (fr : Fr) (i : Nat) : Option PV := match fr[i]? with
  | some (some v) => some v
  | _ => none
def xConst : Const → Option PV
  | .int i => some (.d (.int i))
  | .bool b => some (.d (.bool b))
  | .str x => some (.d (.str x))
  | .none => some (.d .none)
  | _ => none
/-- a field of the exception; isinstance of it -/
def xiF (xt : List XT) (g : Str) (e : PX) : Option PV := match xtIn xt e.cls with
  | some T => if T.f = some g then e.fs.lookup g else none
  | none => none
def xiIs (xt : List XT) (z : Str) (e : PX) : Option PV := match xtIn xt e.cls, xtIn xt z with
  | some T, some _ => some (.d (.bool (T.up.contains z)))
  | _, _ => none
def xsCons (v : Option PV) (r : Option (List PV)) : Option (List PV) := match v, r with
  | some v, some vs => some (v :: vs)
  | _, _ => none
def xsLst (r : Option (List PV)) : Option PV := match r with
  | some vs => if sizeOk vs.length then (datas vs).map fun ds => .d (.list ds) else none
  | none => none
/-- an item: a constant, a name, a field of the exception that n holds, isinstance of it -/
def xItem (Γ : Ga) (n : Option Str) (e : PX) (fr : Fr) : Expr → Option PV
  | .Constant c _ _ => xConst c
  | .Name x _ => if isDbg x || !visB Γ.sc x then none else match ixOf Γ.N x with
    | some i => slotV fr i
    | none => none
  | .Attribute (.Name y _) g _ => if some y = n ∧ visB Γ.sc y = true ∧ isDbg y = false then xiF Γ.xt g e else none
  | .Call (.Name fn _) [.Name y _, .Name z _] [] _ => if some y = n ∧ visB Γ.sc y = true ∧ isDbg y = false ∧ fn = "isinstance" ∧ glB Γ.sc "isinstance" = true ∧ Γ.bl.contains "isinstance" = true ∧ glB Γ.sc z = true ∧ isDbg z = false then xiIs Γ.xt z e else none
  | _ => none
def xItems (Γ : Ga) (n : Option Str) (e : PX) (fr : Fr) : List Expr → Option (List PV)
  | [] => some []
  | x :: r => xsCons (xItem Γ n e fr x) (xItems Γ n e fr r)
def xSuite (Γ : Ga) (n : Option Str) (e : PX) (fr : Fr) : List Stmt → Option PV
  | [.Return (some (.List es _)) _] => if noStar es then xsLst (xItems Γ n e fr es) else none
  | [.Return (some x) _] => xItem Γ n e fr x
  | _ => none
/-- what the suite knows: the exception at a, its class, its dict; slot i holds it (where it is named) -/
structure XS (Γ : Ga) (X : Cx) (n : Option Str) (a : Addr) (cls : Value) (d : Option Addr) (e : PX) (ρ : Cs) (fr : Fr) (st : Store) (σ : L2.St) (H : Hp) : Prop where
  at_ : At X σ H ρ fr st
  xr : XR X.K ρ H X.mg e cls d
  slot : ∀ y i, n = some y → ixOf Γ.N y = some i → σ[i]? = some (some (.ref a))
theorem XS.step {Γ : Ga} {X : Cx} {n : Option Str} {a : Addr} {cls : Value} {d : Option Addr} {e : PX} {ρ ρ' : Cs} {fr : Fr} {st : Store} {σ : L2.St} {H H' : Hp} (h : XS Γ X n a cls d e ρ fr st σ H) (x : Ext ρ H ρ' H') (r : RS X.K ρ' H' X.mg st) : XS Γ X n a cls d e ρ' fr st σ H' :=
  ⟨h.at_.step x r, h.xr.mono x, h.slot⟩
def tX (Γ : Ga) (X : Cx) (n : Option Str) (a : Addr) (cls : Value) (d : Option Addr) (e : PX) (fr : Fr) (v : PV) : TE := fun σ H Q => ∃ ρ st, XS Γ X n a cls d e ρ fr st σ H ∧ ∀ x, VR X.K ρ H X.mg v x → Q x H
def tXs (Γ : Ga) (X : Cx) (n : Option Str) (a : Addr) (cls : Value) (d : Option Addr) (e : PX) (fr : Fr) (vs : List PV) : TA := fun σ H Q => ∃ ρ st, XS Γ X n a cls d e ρ fr st σ H ∧ ∀ xs, VRs X.K ρ H X.mg vs xs → Q xs H
section
variable {Γ : Ga} {X : Cx} {E : WX} {n : Option Str} {a : Addr} {cls : Value} {d : Option Addr} {e : PX} {fr : Fr} {oe : Obj} {pn : List (Addr × Obj)}
theorem VRk.look {K : PySem.W.Frag} {ρ : Cs} {H : Hp} {mg : Str → Option Value} {g : Str} {v : PV} : ∀ {fs : List (Str × PV)} {ws : List (Str × V)}, VRk K ρ H mg fs ws → fs.lookup g = some v → ∃ x, ws.lookup g = some x ∧ VR K ρ H mg v x
  | _, _, .nil, h => by cases h
  | p :: fs, q :: ws, .cons r t, h => by
    obtain ⟨k, u⟩ := p
    obtain ⟨k', w⟩ := q
    obtain ⟨r1, r2⟩ := r
    dsimp only at r1 r2
    subst r1
    rw [List.lookup_cons] at h ⊢
    split at h
    · cases h
      rename_i hb
      exact ⟨w, rfl, r2⟩
    · rename_i hb
      obtain ⟨x, h1, h2⟩ := VRk.look t h
      exact ⟨x, h1, h2⟩
theorem sx_slip (G : Good Γ X E) {y : Str} {p : Pos} (hy : some y = n) (hv : visB Γ.sc y = true) (hd : isDbg y = false) {i : Nat} (hi : ixOf Γ.N y = some i) : PE (X.suite a ((a, oe) :: pn)) (.Name y p) (fun σ H Q => ∃ ρ st, XS Γ X n a cls d e ρ fr st σ H ∧ Q (.ref a) H) := by
  obtain ⟨d1, d2, d3⟩ := isDbg_ok (x := y) (by rw [hd]; decide)
  refine ⟨fun pins s σ H Q I h => (pe_var (X := X.suite a ((a, oe) :: pn)) (G.ix hi) (show Vis X.env.scope y by rw [G.sc]; exact visB_ok hv) d1 d2).run pins s σ H Q I ?_⟩
  obtain ⟨ρ, st, xs, q⟩ := h
  exact ⟨_, xs.slot y i hy.symm hi, q⟩
theorem sx_item (G : Good Γ X E) (hn : ∀ y, n = some y → (ixOf Γ.N y).isSome = true) (hz : Zc cls d oe) (hf : ∃ vs, oe.data = .fields vs) {x : Expr} {v : PV} (h : xItem Γ n e fr x = some v) : PE (X.suite a ((a, oe) :: pn)) x (tX Γ X n a cls d e fr v) := by
  unfold xItem at h
  split at h
  · rename_i c j p
    unfold xConst at h
    cases c with
    | int i => cases h; exact ⟨fun pins s σ H Q I ⟨ρ, st, xs, q⟩ => pe_int.run pins s σ H Q I (q _ (.d (.int i)))⟩
    | bool i => cases h; exact ⟨fun pins s σ H Q I ⟨ρ, st, xs, q⟩ => pe_bl.run pins s σ H Q I (q _ (.d (.bl i)))⟩
    | str i => cases h; exact ⟨fun pins s σ H Q I ⟨ρ, st, xs, q⟩ => pe_str.run pins s σ H Q I (q _ (.d (.str i)))⟩
    | none => cases h; exact ⟨fun pins s σ H Q I ⟨ρ, st, xs, q⟩ => pe_non.run pins s σ H Q I (q _ (.d .non))⟩
    | _ => cases h
  · rename_i y p
    split at h
    · cases h
    · rename_i hc
      simp only [Bool.or_eq_true, not_or, Bool.not_eq_true', Bool.not_eq_false] at hc
      obtain ⟨d1, d2, d3⟩ := isDbg_ok hc.1
      split at h
      · rename_i i hi
        unfold slotV at h
        split at h
        · rename_i w hw
          cases h
          refine ⟨fun pins s σ H Q I h => (pe_var (X := X.suite a ((a, oe) :: pn)) (G.ix hi) (show Vis X.env.scope y by rw [G.sc]; exact visB_ok hc.2) d1 d2).run pins s σ H Q I ?_⟩
          obtain ⟨ρ, st, xs, q⟩ := h
          obtain ⟨u, h1, h2⟩ := xs.at_.fr.at_ i _ hw
          exact ⟨u, h1, q u h2⟩
        · cases h
      · cases h
  · rename_i y yp g p
    split at h
    · rename_i hc
      obtain ⟨hy, hv, hd⟩ := hc
      unfold xiF at h
      split at h
      · rename_i T hT
        obtain ⟨hm, hx⟩ := xtOf_ok hT
        obtain ⟨C, XC⟩ := G.xt T hm
        split at h
        · rename_i hg
          obtain ⟨i, hi⟩ := Option.isSome_iff_exists.mp (hn y hy.symm)
          have hmade := XC.made
          rw [hg] at hmade
          obtain ⟨⟨fI, O⟩, _⟩ := hmade
          have base := sx_slip (oe := oe) (pn := pn) (e := e) (fr := fr) (cls := cls) (d := d) (a := a) (p := yp) G hy hv hd hi
          refine ⟨fun pins s σ H Q I hq => (pe_xf XC.fld O.noN hz hf base rfl).run pins s σ H Q I ?_⟩
          obtain ⟨ρ, st, xs, q⟩ := hq
          obtain ⟨x1, x2⟩ := xs.xr
          refine ⟨ρ, st, xs, rfl, ?_⟩
          rw [← hx, XC.gC] at x1
          cases x1
          refine ⟨rfl, ?_⟩
          cases hfs : e.fs with
          | nil => rw [hfs] at h; cases h
          | cons f0 fs =>
            rw [hfs] at x2 h
            obtain ⟨dd, ws, rfl, hdd, nd, rk⟩ := x2
            obtain ⟨u, h1, h2⟩ := VRk.look rk h
            exact ⟨dd, ws, u, rfl, hdd, h1, q u h2⟩
        · cases h
      · cases h
    · cases h
  · rename_i fn fp y yp z zp p
    split at h
    · rename_i hc
      obtain ⟨hy, hv, hd, rfl, g1, b1, g2, hd2⟩ := hc
      unfold xiIs at h
      split at h
      · rename_i T U hT hU
        cases h
        obtain ⟨hm, hx⟩ := xtOf_ok hT
        obtain ⟨hmu, rfl⟩ := xtOf_ok hU
        obtain ⟨C, XC⟩ := G.xt T hm
        obtain ⟨D, hD, _, hk⟩ := XC.up U hmu
        obtain ⟨i, hi⟩ := Option.isSome_iff_exists.mp (hn y hy.symm)
        obtain ⟨z1, z2, z3⟩ := isDbg_ok (x := U.x) (by rw [hd2]; decide)
        have base := sx_slip (oe := oe) (pn := pn) (e := e) (fr := fr) (cls := cls) (d := d) (a := a) (p := yp) G hy hv hd hi
        have hgD : PE (X.suite a ((a, oe) :: pn)) (.Name U.x zp) (tC (.ref D)) := pe_glob (X := X.suite a ((a, oe) :: pn)) (v := .ref D) (G.glo g2) hD rfl z1
        have ha : PA (X.suite a ((a, oe) :: pn)) [.Name y yp, .Name U.x zp] _ := pa_cons base (pa_cons hgD pa_nil (star_cons rfl).1) (star_cons rfl).1
        have hmi := G.bl "isinstance" (by simpa using b1)
        refine ⟨fun pins s σ H Q I hq => ?_⟩
        obtain ⟨ρ, st, xs, q⟩ := hq
        obtain ⟨x1, x2⟩ := xs.xr
        have x1' := x1
        rw [← hx, XC.gC] at x1'
        cases x1'
        refine (pe_callB (X := X.suite a ((a, oe) :: pn)) (call_isX (pn := pn) XC.ask hz hf) (G.glo g1) hmi (by decide +kernel) ha (by decide +kernel) (by decide +kernel) (star_cons rfl).1 (star_any (env := X.env) rfl)).run pins s σ H Q I ?_
        refine ⟨ρ, st, xs, ?_⟩
        refine ⟨.ref D, .ref D, _, rfl, fun u hu => hu, hk, fun dd hdd => ?_, q _ (.d (.bl _))⟩
        subst hdd
        cases hfs : e.fs with
        | nil => rw [hfs] at x2; cases x2
        | cons f0 fs =>
          rw [hfs] at x2
          obtain ⟨dd', ws, e1, hdd, nd, rk⟩ := x2
          cases e1
          exact ⟨ws, hdd⟩
      · cases h
    · cases h
  · cases h
theorem sx_items (G : Good Γ X E) (hn : ∀ y, n = some y → (ixOf Γ.N y).isSome = true) (hz : Zc cls d oe) (hf : ∃ vs, oe.data = .fields vs) : ∀ {es : List Expr} {vs : List PV}, noStar es = true → xItems Γ n e fr es = some vs → PA (X.suite a ((a, oe) :: pn)) es (tXs Γ X n a cls d e fr vs)
  | [], vs, _, h => by
    cases h
    refine ⟨fun p pins s σ H Q I hq => pa_nil.run p pins s σ H Q I ?_⟩
    obtain ⟨ρ, st, xs, q⟩ := hq
    exact q [] .nil
  | x :: es, vs, hs, h => by
    unfold xItems xsCons at h
    split at h
    · rename_i v ws h1 h2
      cases h
      refine ⟨fun p pins s σ H Q I hq => (pa_cons (sx_item G hn hz hf h1) (sx_items G hn hz hf (star_cons (env := X.env) hs).2 h2) (star_cons hs).1).run p pins s σ H Q I ?_⟩
      obtain ⟨ρ, st, xs, q⟩ := hq
      refine ⟨ρ, st, xs, fun y hy => ⟨ρ, st, xs, fun ys hys => q (y :: ys) (.cons hy hys)⟩⟩
    · cases h
/-- what a suite must reach -/
def tSu (Γ : Ga) (X : Cx) (n : Option Str) (su : List Stmt) (a : Addr) (cls : Value) (d : Option Addr) : TS := fun D σ H => ∃ ρ fr st e v, XS Γ X n a cls d e ρ fr st σ H ∧ xSuite Γ n e fr su = some v ∧
  ∀ ρ' H' x, Ext ρ H ρ' H' → RS X.K ρ' H' X.mg st → VR X.K ρ' H' X.mg v x → D.rt x H'
theorem ss_suite (G : Good Γ X E) (hn : ∀ y, n = some y → (ixOf Γ.N y).isSome = true) (hz : Zc cls d oe) (hf : ∃ vs, oe.data = .fields vs) {su : List Stmt} : PSs (X.suite a ((a, oe) :: pn)) su (tSu Γ X n su a cls d) := by
  refine ⟨fun pins s σ H D I h => ?_⟩
  obtain ⟨ρ, fr, st, e, v, xs, h1, q⟩ := h
  unfold xSuite at h1
  split at h1
  · rename_i es lp rp
    split at h1
    · rename_i hs
      unfold xsLst at h1
      split at h1
      · rename_i vs hvs
        split at h1
        · rename_i hsz
          cases hd : datas vs with
          | none => rw [hd] at h1; cases h1
          | some ds =>
            rw [hd] at h1
            cases h1
            have e2 := datas_eq hd
            subst e2
            refine (pss_cons (ps_ret (pe_lst (sx_items G hn hz hf hs hvs))) pss_nil).run pins s σ H D I ?_
            refine ⟨ρ, st, xs, fun ys hys => ⟨by rw [← hys.length]; exact sizeOk_le hsz, fun p np => ?_⟩⟩
            exact q ρ _ _ (xs.at_.rs.ext np) (xs.at_.rs.new np) (.d (new_lst xs.at_.rs hys.toD np))
        · cases h1
      · cases h1
    · cases h1
  · refine (pss_cons (ps_ret (sx_item G hn hz hf h1)) pss_nil).run pins s σ H D I ?_
    exact ⟨ρ, st, xs, fun y hy => q ρ H y (Ext.refl _ _) xs.at_.rs hy⟩
  · cases h1
end

/-! try -/
/-- e of the class x? -/
def xIs (xt : List XT) (e : PX) (x : Str) : Option Bool := match xtIn xt e.cls, xtIn xt x with
  | some T, some _ => some (T.up.contains x)
  | _, _ => none
def atSl (sl : Option Nat) (fr : Fr) : Option Fr := match sl with
  | none => some fr
  | some i => if i < fr.length then some (fr.set i none) else none
def sTryX (xt : List XT) (x : Str) (sl : Option Nat) (k : PX → Fr → Option PV) (b : DS) : DS := fun fr st => match b fr st with
  | .ex e fr1 st1 => match xIs xt e x with
    | some true => match atSl sl fr1 with
      | some fr2 => match k e fr2 with
        | some v => .rt v st1
        | none => .bad
      | none => .bad
    | some false => .ex e fr1 st1
    | none => .bad
  | r => r
def sTryN (Γ : Ga) (x : Str) (su : List Stmt) (b : DS) : DS := sTryX Γ.xt x none (fun e fr => xSuite Γ none e fr su) b
def sTryA (Γ : Ga) (x : Str) (y : Str) (i : Nat) (su : List Stmt) (b : DS) : DS := sTryX Γ.xt x (some i) (fun e fr => xSuite Γ (some y) e fr su) b
section
variable {Γ : Ga} {X : Cx} {E : WX} {x : Str} {su body : List Stmt} {b₀ : Stmt} {np pos pos' : Pos} {b : DS}
theorem xIs_ok (G : Good Γ X E) {e : PX} {k : Bool} (h : xIs Γ.xt e x = some k) {ρ : Cs} {H : Hp} {c : Value} {d : Option Addr} (r : XR X.K ρ H X.mg e c d) : ∃ D, X.mg x = some (.ref D) ∧ PySem.W.exmOne X.K c (.ref D) = some k := by
  unfold xIs at h
  split at h
  · rename_i T U hT hU
    cases h
    obtain ⟨hm, hx⟩ := xtOf_ok hT
    obtain ⟨hmu, rfl⟩ := xtOf_ok hU
    obtain ⟨C, XC⟩ := G.xt T hm
    obtain ⟨D, hD, hk, _⟩ := XC.up U hmu
    have x1 := r.1
    rw [← hx, XC.gC] at x1
    cases x1
    exact ⟨D, hD, hk⟩
  · cases h
theorem xIs_name (G : Good Γ X E) (h : (xtOf Γ x).isSome = true) : ∃ D, X.mg x = some (.ref D) := by
  obtain ⟨U, hU⟩ := Option.isSome_iff_exists.mp h
  obtain ⟨hmu, rfl⟩ := xtOf_ok hU
  obtain ⟨C, XC⟩ := G.xt U hmu
  exact ⟨C, XC.gC⟩
theorem tSu_of {n : Option Str} {e : PX} {fr1 : Fr} {st1 : Store} {v : PV} {c : Value} {d : Option Addr} {ρ ρ' : Cs} {H H' : Hp} {σ' : L2.St} {a : Addr} {D : Ends} (xs : XS Γ X n a c d e ρ' fr1 st1 σ' H') (hv : xSuite Γ n e fr1 su = some v) (e1 : Ext ρ H ρ' H')
    (h : okS X E ρ H (.rt v st1) D) : tSu Γ X n su a c d D σ' H' := ⟨ρ', fr1, st1, e, v, xs, hv, fun ρ2 H2 x e2 r2 v2 => h ρ2 H2 x (e1.trans e2) r2 v2⟩
theorem ss_tryN (G : Good Γ X E) (hs : X.stack = X.env :: X.outer) (hf : X.env.frame = some X.env.locals) (hg : glB Γ.sc x = true) (hd : isDbg x = false) (hx : (xtOf Γ x).isSome = true)
    (hb : ∀ (W : WX) (pn : List (Addr × Obj)) (xe : Value → Shared → Prop), Takes (X.tr pn xe) W → PassesOwn (model X.prog X.w) X.A X.env xe → PSs (X.tr pn xe) body (tS X W b)) :
    PS X (.Try body [.ExceptHandler (some (.Name x np)) none (b₀ :: su) pos'] [] [] pos) (tS X E (sTryN Γ x (b₀ :: su) b)) := by
  obtain ⟨D0, hD0⟩ := xIs_name G hx
  have hnm : Names X x (.ref D0) := ⟨G.glo hg, (isDbg_ok (by rw [hd]; decide)).1, .inl hD0⟩
  refine ⟨fun pins s σ H D I h => (ps_try_only hs hf hnm G.tk hb (ts := tSu Γ X none (b₀ :: su)) fun a oe cls d pn hz hff => ss_suite G (fun y z => by cases z) hz hff).run pins s σ H D I ?_⟩
  obtain ⟨ρ, fr, st, A, h⟩ := h
  refine ⟨ρ, fr, st, A, ?_⟩
  unfold sTryN sTryX at h
  cases q : b fr st with
  | nx fr1 st1 => rw [q] at h; exact h
  | rt v st1 => rw [q] at h; exact h
  | bk fr1 st1 => rw [q] at h; exact h
  | ct fr1 st1 => rw [q] at h; exact h
  | bad => rw [q] at h; exact h
  | ex e fr1 st1 =>
    rw [q] at h
    intro ρ' H' σ' c d e1 A1 r1
    cases z : xIs Γ.xt e x with
    | none => simp only [z] at h; exact h.elim
    | some k =>
      obtain ⟨D1, hD1, hk⟩ := xIs_ok G z r1
      rw [hD0] at hD1
      cases hD1
      refine ⟨k, hk, fun hk1 a na => ?_, fun hk0 => ?_⟩
      · subst hk1
        simp only [z, atSl] at h
        cases z2 : xSuite Γ none e fr1 (b₀ :: su) with
        | none => simp only [z2] at h; exact h.elim
        | some v =>
          simp only [z2] at h
          exact tSu_of (E := E) ⟨A1, r1, fun y i z => by cases z⟩ z2 e1 h
      · subst hk0
        simp only [z] at h
        exact h ρ' H' σ' c d e1 A1 r1
theorem FR.unset {K : PySem.W.Frag} {ρ : Cs} {H : Hp} {mg : Str → Option Value} {fr : Fr} {σ : L2.St} (F : FR K ρ H mg fr σ) (i : Nat) (u : Option V) : FR K ρ H mg (fr.set i none) (σ.set i u) := by
  refine ⟨by simp [F.len], fun j y e => ?_⟩
  by_cases hij : i = j
  · subst hij
    by_cases hi : i < fr.length
    · rw [List.getElem?_set_self hi] at e
      cases e
    · rw [List.getElem?_eq_none (by simpa using hi)] at e
      cases e
  · rw [List.getElem?_set_ne hij] at e
    obtain ⟨v', h1, h2⟩ := F.at_ j y e
    exact ⟨v', by rw [List.getElem?_set_ne hij]; exact h1, h2⟩
theorem ss_tryA {y : Str} {i : Nat} (G : Good Γ X E) (hs : X.stack = X.env :: X.outer) (hf : X.env.frame = some X.env.locals) (hg : glB Γ.sc x = true) (hd : isDbg x = false) (hx : (xtOf Γ x).isSome = true) (hi : ixOf Γ.N y = some i) (hl : Γ.sc.names.lookup y = some .local)
    (hb : ∀ (W : WX) (pn : List (Addr × Obj)) (xe : Value → Shared → Prop), Takes (X.tr pn xe) W → PassesOwn (model X.prog X.w) X.A X.env xe → PSs (X.tr pn xe) body (tS X W b)) :
    PS X (.Try body [.ExceptHandler (some (.Name x np)) (some y) (b₀ :: su) pos'] [] [] pos) (tS X E (sTryA Γ x y i (b₀ :: su) b)) := by
  obtain ⟨D0, hD0⟩ := xIs_name G hx
  have hnm : Names X x (.ref D0) := ⟨G.glo hg, (isDbg_ok (by rw [hd]; decide)).1, .inl hD0⟩
  have hN : X.N.Nodup := by rw [G.N]; exact G.nd
  refine ⟨fun pins s σ H D I h => (ps_try_as hs hf hN (G.ix hi) (show X.env.scope.names.lookup y = _ by rw [G.sc]; exact hl) hnm G.tk hb (ts := tSu Γ X (some y) (b₀ :: su)) fun a oe cls d pn hz hff => ss_suite G (fun y' z => by cases z; rw [hi]; rfl) hz hff).run pins s σ H D I ?_⟩
  obtain ⟨ρ, fr, st, A, h⟩ := h
  refine ⟨ρ, fr, st, A, ?_⟩
  unfold sTryA sTryX at h
  cases q : b fr st with
  | nx fr1 st1 => rw [q] at h; exact h
  | rt v st1 => rw [q] at h; exact h
  | bk fr1 st1 => rw [q] at h; exact h
  | ct fr1 st1 => rw [q] at h; exact h
  | bad => rw [q] at h; exact h
  | ex e fr1 st1 =>
    rw [q] at h
    intro ρ' H' σ' c d e1 A1 r1
    cases z : xIs Γ.xt e x with
    | none => simp only [z] at h; exact h.elim
    | some k =>
      obtain ⟨D1, hD1, hk⟩ := xIs_ok G z r1
      rw [hD0] at hD1
      cases hD1
      refine ⟨k, hk, fun hk1 a na => ?_, fun hk0 => ?_⟩
      · subst hk1
        by_cases hlt : i < fr1.length
        · simp only [z, atSl, if_pos hlt] at h
          cases z2 : xSuite Γ (some y) e (fr1.set i none) (b₀ :: su) with
          | none => simp only [z2] at h; exact h.elim
          | some v =>
            simp only [z2] at h
            refine tSu_of (E := E) ⟨⟨A1.fr.unset i _, A1.rs⟩, r1, fun y' j z3 hj => ?_⟩ z2 e1 h
            cases z3
            rw [hi] at hj
            cases hj
            rw [List.getElem?_set_self (by rw [← A1.fr.len]; exact hlt)]
        · simp only [z, atSl, if_neg hlt] at h
          exact h.elim
      · subst hk0
        simp only [z] at h
        exact h ρ' H' σ' c d e1 A1 r1
end
end Sr
/-! try with several clauses, each with a name: what reaches a clause is told by one look at a time. -/
namespace Sr
open PySem L2 PySem.Spec PyProof.Rows

/-- a clause: class, name, slot, suite -/
structure Cla where
  x : Str
  np : Pos
  y : Str
  i : Nat
  b₀ : Stmt
  su : List Stmt
  pos : Pos
def Cla.h (c : Cla) : ExceptHandler := .ExceptHandler (some (.Name c.x c.np)) (some c.y) (c.b₀ :: c.su) c.pos
def Cla.t (Γ : Ga) (c : Cla) : Str × Nat × (PX → Fr → Option PV) := (c.x, c.i, fun e fr => xSuite Γ (some c.y) e fr (c.b₀ :: c.su))
def pickL (xt : List XT) : List (Str × Nat × (PX → Fr → Option PV)) → PX → Fr → Store → RO
  | [], e, fr, st => .ex e fr st
  | c :: r, e, fr, st => match xIs xt e c.1 with
    | some true => match atSl (some c.2.1) fr with
      | some fr2 => match c.2.2 e fr2 with
        | some v => .rt v st
        | none => .bad
      | none => .bad
    | some false => pickL xt r e fr st
    | none => .bad
def sTryL (xt : List XT) (l : List (Str × Nat × (PX → Fr → Option PV))) (b : DS) : DS := fun fr st => match b fr st with
  | .ex e fr1 st1 => pickL xt l e fr1 st1
  | r => r
def pickX (Γ : Ga) (l : List Cla) : PX → Fr → Store → RO := pickL Γ.xt (l.map (Cla.t Γ))
def sTryM (Γ : Ga) (l : List Cla) (b : DS) : DS := sTryL Γ.xt (l.map (Cla.t Γ)) b
def claOk (Γ : Ga) (c : Cla) : Bool := glB Γ.sc c.x && !isDbg c.x && (xtOf Γ c.x).isSome && (ixOf Γ.N c.y == some c.i) && (Γ.sc.names.lookup c.y == some .local)

section
variable {Γ : Ga} {X : Cx} {E : WX} {pins : List (Addr × Obj)} {a : Addr} {cls : Value} {d : Option Addr} {σ : L2.St} {H : Hp} {B : Heap} {sI s : Shared}
/-- the exception at a has been caught: sI is the state as it was without it -/
structure Caught (X : Cx) (pins : List (Addr × Obj)) (a : Addr) (cls : Value) (d : Option Addr) (σ : L2.St) (H : Hp) (B : Heap) (sI s : Shared) : Prop where
  inv : Inv X pins σ H sI
  nb : ∀ b o, sI.heap.get? b = some o → b ∉ frs X.stack → B.get? b = some o
  up : sI.heap.UpToSlots s.heap
  fl : HandSPX.FlyingZ B (X.env :: X.outer) a (Zc cls d) s.heap
  na : H a = none
  os : s.os = sI.os
  ag : AllBare s.gens
theorem Caught.live (c : Caught X pins a cls d σ H B sI s) : Inv X pins σ H s := c.inv.landed c.nb c.fl.1 c.up c.os c.ag
theorem Caught.on (c : Caught X pins a cls d σ H B sI s) {h' : Heap} (f : HandSPX.FlyingZ B (X.env :: X.outer) a (Zc cls d) h') (u : s.heap.UpToSlots h') : Caught X pins a cls d σ H B sI { s with heap := h' } := ⟨c.inv, c.nb, c.up.trans u, f, c.na, c.os, c.ag⟩
theorem Caught.far (c : Caught X pins a cls d σ H B sI s) : a ∉ frs (X.env :: X.outer) := fun hm => by
  obtain ⟨o, vs, e1, _, e3⟩ := c.fl.there
  obtain ⟨_, o', e', nf⟩ := c.fl.2.2.1.mem hm
  exact nf _ ((congrArg Obj.data (Option.some.inj (e'.symm.trans e1))).trans e3)
/-- within a clause -/
theorem Caught.within (c : Caught X pins a cls d σ H B sI s) (hf : X.env.frame = some X.env.locals) : ∃ oe, Zc cls d oe ∧ (∃ vs, oe.data = .fields vs) ∧ s.heap.get? a = some oe ∧ Inv (X.suite a ((a, oe) :: (X.pn ++ pins))) [] σ H s := by
  obtain ⟨o, vs, e1, e2, e3⟩ := c.fl.there
  refine ⟨o, e2, ⟨vs, e3⟩, e1, c.live.suite e1 e3 c.na (fun q => c.far ?_) (fun q => c.far ?_)⟩
  · rw [q]
    exact List.mem_filterMap.mpr ⟨X.env, List.mem_cons_self, hf⟩
  · obtain ⟨e, he, z⟩ := List.mem_filterMap.mp q
    exact List.mem_filterMap.mpr ⟨e, List.mem_cons_of_mem _ he, z⟩
/-- no clause is left: it goes on out -/
theorem Caught.out (hs : X.stack = X.env :: X.outer) (hf : X.env.frame = some X.env.locals) {W : WX} (tk : Takes X W) (c : Caught X pins a cls d σ H B sI s) (w : W cls d σ H) {Q : Flow → Shared → Prop} :
    wpAny (model X.prog X.w) X.A (handleBy (.ref a) X.env []) Q X.xe s := by
  refine wpAny_handleBy_nil ?_
  obtain ⟨_, _, _, _, _, T, _, _, g1, _, g3, g4, _⟩ := c.fl
  have last : wpAny (model X.prog X.w) X.A (setFlight (.ref a) X.env.frame) (fun _ s4 => wpAny (model X.prog X.w) X.A (throw (.ref a) : Sem Flow) Q X.xe s4) X.xe s := by
    rw [hf]
    refine HandSPX.setFlight_upZ c.fl fun h4 q4 u4 => wpAny_throw (tk _ _ ⟨a, B, sI, pins, σ, H, cls, d, rfl, c.inv, c.nb, c.up.trans u4, ?_, c.na, c.os, c.ag, w⟩)
    rw [hs]
    exact .inr (.inr q4)
  unfold PySem.passOn
  refine wpAny_bind (wpAny_field g1 g3 g4 ?_)
  rw [if_neg (by simp)]
  first
    | exact wpAny_bind (wpAny_pure (wpAny_bind last))
    | exact wpAny_bind last
/-- a clause's class is asked -/
theorem Caught.ask (hf : X.env.frame = some X.env.locals) (c : Caught X pins a cls d σ H B sI s) {x : Str} {C : Value} {np : Pos} {n : Option Str} {body : List Stmt} {pos : Pos} {rest : List ExceptHandler} {k : Bool} (hn : Names X x C) (hk : PySem.W.exmOne X.K cls C = some k) {Q : Flow → Shared → Prop}
    (no : k = false → wpAny (model X.prog X.w) X.A (handleBy (.ref a) X.env rest) Q X.xe s)
    (yes : k = true → codeAny (model X.prog X.w) (X.A.mark (some (.ref a))) (.handlers (.ref a) [.ExceptHandler none n body pos] X.env) (fun r s₂ => match r with
      | .ok f => (match n with
        | none => Q f s₂
        | some y => wpAny (model X.prog X.w) X.A (do bindName X.env y .none; unbindBehindTheSuite X.env y pos) (fun _ s₃ => Q f s₃) X.xe s₂)
      | .error z => cameBackBy (model X.prog X.w) X.A X.env X.xe z s₂) s) :
    wpAny (model X.prog X.w) X.A (handleBy (.ref a) X.env (.ExceptHandler (some (.Name x np)) n body pos :: rest)) Q X.xe s := by
  obtain ⟨oe, z1, _, g1, S⟩ := c.within hf
  have lk : PySem.W.Looks (model X.prog X.w) s.heap (typeOf (.ref a)) cls := by
    intro A₁ Q₁ E₁ s₁ there want
    refine wpAny_typeOf_ref (there _ _ g1) ?_
    rw [z1.1]
    exact want
  have goal := PySem.W.exm_one (M := model X.prog X.w) c.live.kIn lk hk
  refine wpAny_handleBy_cons (codeAny_handlers_test ?_) nofun
  obtain ⟨hg, hd, hm | ⟨hm, hv, hnn⟩⟩ := hn
  · refine ld_glob (X := X.suite a ((a, oe) :: (X.pn ++ pins))) S hg hm (goal.here ?_) hd
    cases k with
    | true => exact yes rfl
    | false => exact no rfl
  · refine ld_blt (X := X.suite a ((a, oe) :: (X.pn ++ pins))) S hg hm hv (goal.here ?_) hnn hd
    cases k with
    | true => exact yes rfl
    | false => exact no rfl
/-- a clause that takes it: its suite returns, the name goes -/
theorem Caught.take (G : Good Γ X E) (hf : X.env.frame = some X.env.locals) (c : Caught X pins a cls d σ H B sI s) {k : Cla} (hi : ixOf Γ.N k.y = some k.i) (hl : Γ.sc.names.lookup k.y = some .local) {D : Ends}
    (su : tSu Γ X (some k.y) (k.b₀ :: k.su) a cls d ⟨fun _ _ => False, D.rt, fun _ _ => False, fun _ _ => False⟩ (σ.set k.i (some (.ref a))) H) :
    codeAny (model X.prog X.w) (X.A.mark (some (.ref a))) (.handlers (.ref a) [.ExceptHandler none (some k.y) (k.b₀ :: k.su) k.pos] X.env) (fun r s₂ => match r with
      | .ok f => wpAny (model X.prog X.w) X.A (do bindName X.env k.y .none; unbindBehindTheSuite X.env k.y k.pos) (fun _ s₃ => SP X pins D f s₃) X.xe s₂
      | .error z => cameBackBy (model X.prog X.w) X.A X.env X.xe z s₂) s := by
  have hN : X.N.Nodup := by rw [G.N]; exact G.nd
  have hk : X.env.kindOf k.y = some .local := by show X.env.scope.names.lookup k.y = _; rw [G.sc]; exact hl
  have hix : X.N[k.i]? = some k.y := G.ix hi
  have ok := c.inv.ok
  refine codeAny_handlers_suite_as (HandSPX.lands_againZ c.fl fun h2 f2 u2 => ?_)
  obtain ⟨o2, z2, d2, g2, S2⟩ := (c.on f2 u2).within hf
  have run := ss_suite (pn := X.pn ++ pins) (a := a) (oe := o2) (su := k.b₀ :: k.su) (n := some k.y) G (fun y z => by cases z; rw [hi]; rfl) z2 d2
  refine store_ok (X := X.suite a ((a, o2) :: (X.pn ++ pins))) (v := .ref a) S2 hN hix (.inl hk) rfl (fun s3 S3 => ?_) (.inr hk)
  refine wpAny_mono (run.run [] s3 _ H _ S3 su) ?_ (fun _ _ z => z.elim)
  intro f s4 q
  match f, q with
  | .ret u, ⟨v, σ4, H4, S4, r4, q4⟩ => exact gone_ok (S4.unsuite ok) hN hix hk fun s5 J5 => ⟨v, _, H4, J5, r4, q4⟩
  | .next, ⟨_, _, _, z⟩ => exact z.elim
  | .brk, ⟨_, _, _, z⟩ => exact z.elim
  | .cont, ⟨_, _, _, z⟩ => exact z.elim
/-- the clauses one behind another -/
theorem clauses (G : Good Γ X E) (hs : X.stack = X.env :: X.outer) (hf : X.env.frame = some X.env.locals) {D : Ends} {ρ0 ρ : Cs} {H0 : Hp} {e : PX} {fr : Fr} {st : Store} (c : Caught X pins a cls d σ H B sI s) (x : Ext ρ0 H0 ρ H) (A : At X σ H ρ fr st) (r : XR X.K ρ H X.mg e cls d) :
    ∀ l : List Cla, (∀ k ∈ l, claOk Γ k = true) → okS X E ρ0 H0 (pickX Γ l e fr st) D → wpAny (model X.prog X.w) X.A (handleBy (.ref a) X.env (l.map Cla.h)) (SP X pins D) X.xe s
  | [], _, h => c.out hs hf G.tk (h ρ H σ cls d x A r)
  | k :: l, hk, h => by
    have k1 := hk k List.mem_cons_self
    unfold claOk at k1
    simp only [Bool.and_eq_true, Bool.not_eq_true', beq_iff_eq] at k1
    obtain ⟨⟨⟨⟨g1, g2⟩, g3⟩, g4⟩, g5⟩ := k1
    rw [pickX, List.map_cons, pickL] at h
    have h : okS X E ρ0 H0 (match xIs Γ.xt e k.x with
      | some true => match atSl (some k.i) fr with
        | some fr2 => match xSuite Γ (some k.y) e fr2 (k.b₀ :: k.su) with
          | some v => .rt v st
          | none => .bad
        | none => .bad
      | some false => pickX Γ l e fr st
      | none => .bad) D := h
    cases z : xIs Γ.xt e k.x with
    | none => rw [z] at h; exact h.elim
    | some b =>
      obtain ⟨C, hC, hm⟩ := xIs_ok G z r
      refine c.ask hf (x := k.x) ⟨G.glo g1, (isDbg_ok (by rw [g2]; decide)).1, .inl hC⟩ hm (fun hb => ?_) (fun hb => ?_)
      · subst hb
        rw [z] at h
        exact clauses G hs hf c x A r l (fun k' hk' => hk k' (List.mem_cons_of_mem _ hk')) h
      · subst hb
        rw [z] at h
        dsimp only at h
        by_cases hlt : k.i < fr.length
        · simp only [atSl, if_pos hlt] at h
          cases z2 : xSuite Γ (some k.y) e (fr.set k.i none) (k.b₀ :: k.su) with
          | none => rw [z2] at h; exact h.elim
          | some v =>
            rw [z2] at h
            refine c.take G hf g4 g5 ⟨ρ, _, st, e, v, ⟨⟨A.fr.unset k.i _, A.rs⟩, r, fun y j z3 hj => ?_⟩, z2, fun ρ2 H2 w e2 r2 v2 => h ρ2 H2 w (x.trans e2) r2 v2⟩
            cases z3
            rw [g4] at hj
            cases hj
            exact List.getElem?_set_self (by rw [← A.fr.len]; exact hlt)
        · simp only [atSl, if_neg hlt] at h
          exact h.elim
theorem ss_tryM {k₀ : Cla} {l : List Cla} {body : List Stmt} {pos : Pos} {b : DS} (G : Good Γ X E) (hs : X.stack = X.env :: X.outer) (hf : X.env.frame = some X.env.locals) (hl : ∀ k ∈ k₀ :: l, claOk Γ k = true)
    (hb : ∀ (W : WX) (pn : List (Addr × Obj)) (xe : Value → Shared → Prop), Takes (X.tr pn xe) W → PassesOwn (model X.prog X.w) X.A X.env xe → PSs (X.tr pn xe) body (tS X W b)) :
    PS X (.Try body ((k₀ :: l).map Cla.h) [] [] pos) (tS X E (sTryM Γ (k₀ :: l) b)) := by
  refine ⟨fun pins s σ H D I h => ?_⟩
  obtain ⟨ρ, fr, st, A, h⟩ := h
  have ok := I.ok
  generalize hW : (fun c d σ' H' => ∃ ρ' e fr1 st1, Ext ρ H ρ' H' ∧ At X σ' H' ρ' fr1 st1 ∧ XR X.K ρ' H' X.mg e c d ∧ okS X E ρ H (pickX Γ (k₀ :: l) e fr1 st1) D : WX) = W
  have hbody : tS X W b D σ H := by
    refine ⟨ρ, fr, st, A, ?_⟩
    unfold sTryM sTryL at h
    cases q : b fr st with
    | ex e fr1 st1 =>
      rw [q] at h
      rw [← hW]
      exact fun ρ' H' σ' c d e1 A1 r1 => ⟨ρ', e, fr1, st1, e1, A1, r1, h⟩
    | _ => rw [q] at h; exact h
  refine wpAny_Try_except (wpAny_mono ((hb W (X.pn ++ pins) (fun u s₁ => wpAny (model X.prog X.w) X.A (noteFrame u X.env) (fun _ s₂ => wpAny (model X.prog X.w) X.A (setFlight u none) (fun _ s₃ =>
    wpAny (model X.prog X.w) X.A (handleBy u X.env ((k₀ :: l).map Cla.h)) (SP X pins D) X.xe s₃) X.xe s₂) X.xe s₁) (fun u s1 xx => ?_) PassesOwn.looking).run [] s σ H D (I.toTry _) hbody) (fun f s1 q => ?_) fun _ _ z => z)
  · obtain ⟨a, B, sI, p', σ', H', cls, d, rfl, J, nb, up, sky, na, os, ag, w⟩ := xx
    rw [← hW] at w
    obtain ⟨ρ', e, fr1, st1, x, A1, r1, w⟩ := w
    have hsky : Sky B (X.env :: X.outer) a (Zc cls d) X.env.locals s1.heap := hs ▸ sky
    exact Sky.land Zc.steady (by rw [ok.frames, hs]) hf hsky fun h3 f3 u3 => clauses (s := { s1 with heap := h3 }) G hs hf ⟨J.ofTry ok, nb, up.trans u3, f3, na, os, ag⟩ x A1 r1 _ hl w
  · match f, q with
    | .next, ⟨σ', H', J, q⟩ => exact wpAny_execs_nil ⟨σ', H', J.ofTry ok, q⟩
    | .brk, ⟨σ', H', J, q⟩ => exact ⟨σ', H', J.ofTry ok, q⟩
    | .cont, ⟨σ', H', J, q⟩ => exact ⟨σ', H', J.ofTry ok, q⟩
    | .ret u, ⟨v, σ', H', J, r, q⟩ => exact ⟨v, σ', H', J.ofTry ok, r, q⟩

def claOf (Γ : Ga) : ExceptHandler → Option Cla
  | .ExceptHandler (some (.Name x np)) (some y) (b₀ :: su) pos => match ixOf Γ.N y with
    | some i => if claOk Γ ⟨x, np, y, i, b₀, su, pos⟩ then some ⟨x, np, y, i, b₀, su, pos⟩ else none
    | none => none
  | _ => none
def claL (Γ : Ga) : List ExceptHandler → Option (List Cla)
  | [] => some []
  | h :: r => match claOf Γ h, claL Γ r with
    | some k, some l => some (k :: l)
    | _, _ => none
theorem claOf_ok {h : ExceptHandler} {k : Cla} (e : claOf Γ h = some k) : h = k.h ∧ claOk Γ k = true := by
  unfold claOf at e
  split at e
  · split at e
    · split at e
      · rename_i hk
        cases e
        exact ⟨rfl, hk⟩
      · cases e
    · cases e
  · cases e
theorem claL_ok : ∀ {r : List ExceptHandler} {l : List Cla}, claL Γ r = some l → r = l.map Cla.h ∧ ∀ k ∈ l, claOk Γ k = true
  | [], _, e => by cases e; exact ⟨rfl, fun _ h => by cases h⟩
  | h :: r, _, e => by
    unfold claL at e
    split at e
    · rename_i k l e1 e2
      cases e
      obtain ⟨h1, h2⟩ := claOf_ok e1
      obtain ⟨h3, h4⟩ := claL_ok e2
      refine ⟨by rw [List.map_cons, ← h1, ← h3], fun q hq => ?_⟩
      rcases List.mem_cons.mp hq with rfl | hq
      · exact h2
      · exact h4 q hq
    · cases e
def denTry (Γ : Ga) (hds : List ExceptHandler) (b : DS) : DS := match claL Γ hds with
  | some (k :: l) => sTryM Γ (k :: l) b
  | _ => sBad
theorem ss_tryL {hds : List ExceptHandler} {body : List Stmt} {pos : Pos} {b : DS} (G : Good Γ X E) (hs : X.stack = X.env :: X.outer) (hf : X.env.frame = some X.env.locals)
    (hb : ∀ (W : WX) (pn : List (Addr × Obj)) (xe : Value → Shared → Prop), Takes (X.tr pn xe) W → PassesOwn (model X.prog X.w) X.A X.env xe → PSs (X.tr pn xe) body (tS X W b)) :
    PS X (.Try body hds [] [] pos) (tS X E (denTry Γ hds b)) := by
  unfold denTry
  split
  · rename_i k l e
    obtain ⟨rfl, h2⟩ := claL_ok e
    exact ss_tryM G hs hf h2 hb
  · exact ss_bad
end
end Sr
/-! A dict in a cell, locked while a statement runs. -/
namespace Sr
open PySem L2
/-- the lock of the cell n taken off -/
def unlS (n : Nat) (st : Store) : Option Store := match st[n]? with
  | some (.dicL kvs) => some (st.set n (.dic kvs))
  | _ => none
def unl (n : Nat) : RO → RO
  | .nx fr st => match unlS n st with
    | some st' => .nx fr st'
    | none => .bad
  | .bk fr st => match unlS n st with
    | some st' => .bk fr st'
    | none => .bad
  | .ct fr st => match unlS n st with
    | some st' => .ct fr st'
    | none => .bad
  | .rt v st => match unlS n st with
    | some st' => .rt v st'
    | none => .bad
  | .ex _ _ _ => .bad
  | .bad => .bad
/-- the dict in slot i locked -/
def sLock (i : Nat) (s : DS) : DS := fun fr st => match fr[i]? with
  | some (some (.cell n)) => match st[n]? with
    | some (.dic kvs) => unl n (s fr (st.set n (.dicL kvs)))
    | _ => .bad
  | _ => .bad
section
variable {K : PySem.W.Frag} {ρ ρ' : Cs} {H H' : Hp} {mg : Str → Option Value}
theorem other_same {a : Addr} {o : HO} (ha : a ∈ ρ) : ∀ b, b ∉ ρ → upd H a o b = H b := fun b hb => upd_ne fun z => hb (z ▸ ha)
theorem FR.same {fr : Fr} {σ : L2.St} (e : ∀ a, a ∉ ρ → H' a = H a) (h : FR K ρ H mg fr σ) : FR K ρ H' mg fr σ :=
  ⟨h.len, fun i x q => by
    obtain ⟨v, h1, h2⟩ := h.at_ i x q
    exact ⟨v, h1, h2.same e⟩⟩
/-- behind the lock: as if the cell had stood open all the while -/
theorem ext_open {n : Nat} {a : Addr} {u v : HO} (ha : ρ.at_ n = some a) (nd : ρ.l.Nodup) (hu : H a = some u) (nf : ∀ o w, u ≠ .frz o w) (e : Ext ρ (upd H a v) ρ' H') : Ext ρ H ρ' (upd H' a u) := by
  refine ⟨e.more, fun b o hb nb => ?_, fun i b hi q => ?_, fun b o w q => ?_⟩
  · have ne : b ≠ a := fun z => nb (z ▸ Cs.mem_at ha)
    obtain ⟨h1, h2⟩ := e.keep b o (by rw [upd_ne ne]; exact hb) nb
    exact ⟨by rw [upd_ne ne]; exact h1, h2⟩
  · have ne : b ≠ a := fun z => by
      subst z
      have ha : ρ.l[ρ.k + n]? = some b := ha
      obtain ⟨l1, e1⟩ := List.getElem?_eq_some_iff.mp q
      obtain ⟨l2, e2⟩ := List.getElem?_eq_some_iff.mp ha
      have := (List.getElem_inj nd).mp (e1.trans e2.symm)
      omega
    rw [upd_ne ne, e.hid i b hi q, upd_ne ne]
  · have ne : b ≠ a := fun z => by
      subst z
      rw [hu] at q
      exact nf o w (Option.some.inj q)
    rw [upd_ne ne]
    exact e.frz b o w (by rw [upd_ne ne]; exact q)
theorem at_more {n : Nat} {a : Addr} (ha : ρ.at_ n = some a) (e : ∃ m, ρ' = ⟨ρ.l ++ m, ρ.k⟩) : ρ'.at_ n = some a := by
  obtain ⟨m, rfl⟩ := e
  have ha : ρ.l[ρ.k + n]? = some a := ha
  show (ρ.l ++ m)[ρ.k + n]? = some a
  rw [List.getElem?_append_left (List.getElem?_eq_some_iff.mp ha).1]
  exact ha
end
section
variable {X : Cx} {E : WX} {st0 : Stmt} {s : DS}
/-- the store unlocked -/
theorem rs_open {ρ : Cs} {H : Hp} {st st' : Store} {n : Nat} {a : Addr} {od : Addr × Nat} {ws : List (Key × V)} (h : RS X.K ρ H X.mg st) (ha : ρ.at_ n = some a) (hf : True) (e : unlS n st = some st') (hh : ∀ o w, H a = some (.frz o w) → w = .dK ws) :
    RS X.K ρ (upd H a (.dK ws)) X.mg st' := by
  unfold unlS at e
  cases z : st[n]? with
  | none => rw [z] at e; cases e
  | some o =>
    rw [z] at e
    cases o with
    | dicL kvs =>
      cases e
      obtain ⟨b, hb, od', ws', h1, h2⟩ := h.at_ n _ z
      rw [ha] at hb
      cases hb
      have w := hh _ _ h1
      cases w
      exact h.set ha ⟨ws, upd_same, h2.same (other_same (Cs.mem_at ha))⟩
    | _ => cases e
theorem ps_locked (h : PS X st0 (tS X E s)) {i : Nat} : PS X st0 (tS X E (sLock i s)) := by
  refine ⟨fun pins s0 σ H D I hw => (ps_lock h).run pins s0 σ H D I ?_⟩
  obtain ⟨ρ, fr, st, A, q⟩ := hw
  unfold sLock at q
  split at q
  · rename_i n hfr
    split at q
    · rename_i kvs hst
      obtain ⟨a, ha, ws, h1, h2⟩ := A.rs.at_ n _ hst
      refine ⟨a, .dK ws, h1, trivial, fun od => ?_⟩
      have hs := other_same (H := H) (o := HO.frz od (.dK ws)) (Cs.mem_at ha)
      have A' : At X σ (upd H a (.frz od (.dK ws))) ρ fr (st.set n (.dicL kvs)) := ⟨A.fr.same hs, A.rs.set ha ⟨od, ws, upd_same, h2.same hs⟩⟩
      refine ⟨ρ, fr, st.set n (.dicL kvs), A', ?_⟩
      have nf : ∀ o w, HO.dK ws ≠ .frz o w := fun _ _ z => nomatch z
      have key : ∀ {ρ' : Cs} {H' : Hp}, Ext ρ (upd H a (.frz od (.dK ws))) ρ' H' → H' a = some (.frz od (.dK ws)) ∧ Ext ρ H ρ' (upd H' a (.dK ws)) ∧ ρ'.at_ n = some a := fun e =>
        ⟨e.frz a od _ upd_same, ext_open ha A.rs.nd h1 nf e, at_more ha e.more⟩
      have rs : ∀ {ρ' : Cs} {H' : Hp} {st1 st2 : Store}, Ext ρ (upd H a (.frz od (.dK ws))) ρ' H' → RS X.K ρ' H' X.mg st1 → unlS n st1 = some st2 → RS X.K ρ' (upd H' a (.dK ws)) X.mg st2 := fun e r z => by
        obtain ⟨k1, k2, k3⟩ := key e
        exact rs_open (od := (a, 0)) r k3 trivial z fun o w k => by
          rw [k1] at k
          cases k
          rfl
      revert q
      generalize s fr (st.set n (.dicL kvs)) = r
      intro q
      cases r with
      | nx fr1 st1 =>
        simp only [unl] at q
        cases z : unlS n st1 with
        | none => rw [z] at q; exact q.elim
        | some st2 =>
          rw [z] at q
          intro ρ' H' σ' e A1
          obtain ⟨k1, k2, k3⟩ := key e
          exact ⟨k1, q ρ' _ σ' k2 ⟨A1.fr.same (other_same (Cs.mem_at k3)), rs e A1.rs z⟩⟩
      | bk fr1 st1 =>
        simp only [unl] at q
        cases z : unlS n st1 with
        | none => rw [z] at q; exact q.elim
        | some st2 =>
          rw [z] at q
          intro ρ' H' σ' e A1
          obtain ⟨k1, k2, k3⟩ := key e
          exact ⟨k1, q ρ' _ σ' k2 ⟨A1.fr.same (other_same (Cs.mem_at k3)), rs e A1.rs z⟩⟩
      | ct fr1 st1 =>
        simp only [unl] at q
        cases z : unlS n st1 with
        | none => rw [z] at q; exact q.elim
        | some st2 =>
          rw [z] at q
          intro ρ' H' σ' e A1
          obtain ⟨k1, k2, k3⟩ := key e
          exact ⟨k1, q ρ' _ σ' k2 ⟨A1.fr.same (other_same (Cs.mem_at k3)), rs e A1.rs z⟩⟩
      | rt v st1 =>
        simp only [unl] at q
        cases z : unlS n st1 with
        | none => rw [z] at q; exact q.elim
        | some st2 =>
          rw [z] at q
          intro ρ' H' x e r1 v1
          obtain ⟨k1, k2, k3⟩ := key e
          exact ⟨k1, q ρ' _ x k2 (rs e r1 z) (v1.same (other_same (Cs.mem_at k3)))⟩
      | ex e1 fr1 st1 => exact q.elim
      | bad => exact q.elim
    · exact q.elim
  · exact q.elim
end
/-! the keys of a locked dict -/
def dKeysL (d : Den) : DI := fun fr st => (d fr st).bind fun v st1 => match v with
  | .cell n => match st1[n]? with
    | some (.dicL kvs) => .ok (.vals (kvs.map fun p => .d (keyD p.1))) st1
    | _ => .bad
  | _ => .bad
section
variable {X : Cx} {E : WX} {e tg : Expr} {d : Den}
theorem DR.key {K : PySem.W.Frag} {ρ : Cs} {H : Hp} (k : Key) : DR K ρ H (keyD k) (kV k) := by
  cases k with
  | inl i => exact .int i
  | inr x => exact .str x
theorem keys_at {κ : Type} {K : PySem.W.Frag} {ρ : Cs} {H : Hp} {mg : Str → Option Value} {kvs : List (κ × PV)} {ws : List (κ × V)} (h : VRk K ρ H mg kvs ws) : kvs.map (·.1) = ws.map (·.1) := by
  induction h with
  | nil => rfl
  | cons q _ ih => rw [List.map_cons, List.map_cons, ih, q.1]
theorem wk_keys {ρ0 : Cs} {H0 : Hp} {a : Addr} {od : Obj} {ws : List (Key × V)} (h : H0 a = some (.frz od (.dK ws))) : Wk X (Itk a od ws) (.vals ((ws.map (·.1)).map fun k => .d (keyD k))) ρ0 H0 := by
  intro i ρ H D st hD e r
  have f := del_some (e.frz a od _ h)
  refine ⟨fun v hv => ?_, fun hs => ⟨f, ?_⟩⟩
  · have hv := vals_item hv
    rw [List.getElem?_map, List.getElem?_map] at hv
    cases z : ws[i]? with
    | none => rw [z] at hv; cases hv
    | some p =>
      rw [z] at hv
      have hv := Option.some.inj hv
      subst hv
      refine ⟨⟨f, (List.getElem?_eq_some_iff.mp z).1⟩, fun x H' hy => ?_⟩
      obtain ⟨e1, k, v, h1, h2⟩ := hy
      subst e1
      subst h2
      rw [z] at h1
      cases h1
      exact ⟨Ext.refl _ _, r, .d (DR.key _), fun _ _ => rfl⟩
  · have := vals_stop hs
    rw [List.length_map, List.length_map] at this
    exact this
theorem si_keysL (he : PE X e (tE X E d)) : PI X tg e (tI X E (dKeysL d)) := by
  refine ⟨fun pins s σ H R I h => (pi_keys he).run pins s σ H R I ?_⟩
  obtain ⟨ρ, fr, st, A, h⟩ := h
  have hw := Res.wp_bind h
  cases q : d fr st with
  | bad => rw [q] at hw; exact hw.elim
  | exc x st1 =>
    rw [q] at hw
    exact ⟨ρ, fr, st, A, by rw [q]; exact hw⟩
  | ok v st1 =>
    rw [q] at hw
    refine tE.of_ok A q fun ρ1 H1 x e1 r1 v1 => ?_
    cases v1 with
    | @cell n a hc =>
      have hw : (match st1[n]? with
        | some (.dicL kvs) => Res.ok (Src.vals (kvs.map fun p : Key × PV => PV.d (keyD p.1))) st1
        | _ => .bad).wp _ _ := hw
      cases z : st1[n]? with
      | none => rw [z] at hw; exact hw.elim
      | some o =>
        rw [z] at hw
        cases o with
        | dicL kvs =>
          obtain ⟨b, hb, od, ws, h1, h2⟩ := r1.at_ n _ z
          rw [hc] at hb
          cases hb
          refine ⟨a, od, rfl, .inl ⟨ws, h1, hw ρ1 H1 _ e1 r1 ?_⟩⟩
          have ek : (kvs.map fun p : Key × PV => PV.d (keyD p.1)) = ((ws.map (·.1)).map fun k => PV.d (keyD k)) := by
            rw [← keys_at h2, List.map_map]
            rfl
          rw [ek]
          exact wk_keys h1
        | _ => exact hw.elim
    | _ => exact hw.elim
end
end Sr
/-! The evaluator of statements; the table of defs. -/
namespace Sr
open PySem L2
open PyProof.Rows (envOfC)

def denSs (f : Stmt → DS) : List Stmt → DS
  | [] => sNext
  | s :: r => sSeq (f s) (denSs f r)
/-- the slot of a dict that is walked, told by its place in the text -/
def lockOf (Γ : Ga) : Expr → Option Nat
  | .Name x p => if isC Γ p then ixOf Γ.N x else none
  | _ => none
def sForL : Option Nat → DI → DI → DG → DS → DS
  | none, d, _, g, b => sFor d g b
  | some i, _, dk, g, b => sLock i (sFor dk g b)
def evS (R : Ga → Evs) (Γ : Ga) : Nat → Stmt → DS
  | 0, _ => sBad
  | k + 1, s => match s with
    | .Expr e _ => if isComp e then sBad else sExpr ((R Γ).e e)
    | .Return (some e) _ => sRet ((R Γ).e e)
    | .Return none _ => sRetN
    | .If c a b _ => sIf ((R Γ).t c) (denSs (evS R Γ k) a) (denSs (evS R Γ k) b)
    | .For tg iter body [] _ => if noSet iter then sForL (lockOf Γ iter) (denI (R Γ).e Γ tg iter) (dKeysL ((R Γ).e iter)) (denG (R Γ).e Γ 5 tg) (denSs (evS R Γ k) body) else sBad
    | .While c body [] _ => loopW ((R Γ).t c) (denSs (evS R Γ k) body) Γ.fw
    | .Pass _ => sNext
    | .Break _ => sBreak
    | .Continue _ => sCont
    | .Assign [tg] e pos => denAsg R Γ tg e pos.line
    | .Raise (some e) none _ => denRaise (R Γ).e Γ e
    | .Try body [.ExceptHandler (some (.Name x _)) n (b₀ :: su) _] [] [] _ => if glB Γ.sc x && !isDbg x && (xtOf Γ x).isSome then match n with
      | none => sTryN Γ x (b₀ :: su) (denSs (evS R Γ k) body)
      | some y => match ixOf Γ.N y with
        | some i => if Γ.sc.names.lookup y == some .local then sTryA Γ x y i (b₀ :: su) (denSs (evS R Γ k) body) else sBad
        | none => sBad
      else sBad
    | .Try body (h₀ :: h₁ :: hds) [] [] _ => denTry Γ (h₀ :: h₁ :: hds) (denSs (evS R Γ k) body)
    | _ => sBad
section
variable {Γ : Ga} {X : Cx} {E : WX}
theorem sn_ss {f : Stmt → DS} (hf : ∀ s, PS X s (tS X E (f s))) : ∀ {l : List Stmt}, PSs X l (tS X E (denSs f l))
  | [] => ss_nil
  | s :: r => ss_cons (hf s) (sn_ss hf)
theorem sn_asg {R : Ga → Evs} (hR : RevOk R) (G : Good Γ X E) {tg e : Expr} {pos : Pos} : PS X (.Assign [tg] e pos) (tS X E (denAsg R Γ tg e pos.line)) := by
  have hN : X.N.Nodup := by rw [G.N]; exact G.nd
  obtain ⟨h1, h2⟩ := hR Γ X E G
  unfold denAsg
  split
  · split
    · rename_i hl
      obtain ⟨l1, l2⟩ := G.loc hl
      split
      · rename_i i hi
        split
        · rename_i elt gens scope lp
          split
          · exact sn_setComp hR G hl hi ‹_›
          · rename_i hsw
            split
            · rename_i hk
              refine ss_set hN (G.ix hi) l1 (h1 _) ?_ l2
              have hk := beq_iff_eq.mp hk
              have b1 : X.env.blockKind = .function := kind_block (by rw [G.sc]; exact hk)
              refine congrArg pure (Bool.eq_false_iff.mpr fun z => hsw ?_)
              rw [b1] at z
              unfold swB
              rw [hk, ← G.sc]
              exact z
            · exact ss_bad
        · rename_i kx vx gens scope lp
          split
          · exact sn_setDc hR G hl hi ‹_›
          · rename_i hsw
            split
            · rename_i hk
              refine ss_set hN (G.ix hi) l1 (h1 _) ?_ l2
              have hk := beq_iff_eq.mp hk
              have b1 : X.env.blockKind = .function := kind_block (by rw [G.sc]; exact hk)
              refine congrArg pure (Bool.eq_false_iff.mpr fun z => hsw ?_)
              rw [b1] at z
              unfold swB
              rw [hk, ← G.sc]
              exact z
            · exact ss_bad
        · split
          · exact ss_bad
          · rename_i hc
            exact ss_set hN (G.ix hi) l1 (h1 _) (noComp_swaps (Bool.eq_false_iff.mpr hc) _ _ _) l2
      · exact ss_bad
    · exact ss_bad
  · rename_i hn
    exact sn_asgT G h1 hn
theorem Good.tr (G : Good Γ X E) {pn : List (Addr × Obj)} {xe : Value → Shared → Prop} {W : WX} (tk : Takes (X.tr pn xe) W) : Good Γ (X.tr pn xe) W :=
  ⟨G.calm, G.N, G.nd, G.sc, G.fn, G.hot, G.un, G.sm, tk, G.room, G.ft, G.gl, G.md, G.bl, G.xt, G.nk⟩
theorem At.cast {X X' : Cx} (hK : X'.K = X.K) (hm : X'.mg = X.mg) {σ : L2.St} {H : Hp} {ρ : Cs} {fr : Fr} {st : Store} (A : At X σ H ρ fr st) : At X' σ H ρ fr st := ⟨by rw [hK, hm]; exact A.fr, by rw [hK, hm]; exact A.rs⟩
theorem tS_cast {X X' : Cx} {E : WX} {d : DS} (hK : X'.K = X.K) (hm : X'.mg = X.mg) {D : Ends} {σ : L2.St} {H : Hp} (h : tS X E d D σ H) : tS X' E d D σ H := by
  obtain ⟨ρ, fr, st, A, h⟩ := h
  refine ⟨ρ, fr, st, A.cast hK hm, ?_⟩
  cases q : d fr st with
  | nx fr1 st1 => rw [q] at h; exact fun ρ' H' σ' e A' => h ρ' H' σ' e (A'.cast hK.symm hm.symm)
  | bk fr1 st1 => rw [q] at h; exact fun ρ' H' σ' e A' => h ρ' H' σ' e (A'.cast hK.symm hm.symm)
  | ct fr1 st1 => rw [q] at h; exact fun ρ' H' σ' e A' => h ρ' H' σ' e (A'.cast hK.symm hm.symm)
  | rt v st1 =>
    rw [q] at h
    intro ρ' H' x e r v
    rw [hK, hm] at r v
    exact h ρ' H' x e r v
  | ex x fr1 st1 =>
    rw [q] at h
    intro ρ' H' σ' c dx e A' r
    rw [hK, hm] at r
    exact h ρ' H' σ' c dx e (A'.cast hK.symm hm.symm) r
  | bad => rw [q] at h; exact h
theorem sn_stmt {R : Ga → Evs} (hR : RevOk R) : ∀ (k : Nat) (X : Cx) (E : WX), Good Γ X E → PassesOwn (model X.prog X.w) X.A X.env X.xe → X.stack = X.env :: X.outer → X.env.frame = some X.env.locals → ∀ s : Stmt, PS X s (tS X E (evS R Γ k s))
  | 0, _, _, _, _, _, _, _ => ss_bad
  | k + 1, X, E, G, po, hst, hfr, s => by
    obtain ⟨h1, h2⟩ := hR Γ X E G
    have ih := sn_stmt hR k X E G po hst hfr
    have iht : ∀ {body : List Stmt} (W : WX) (pn : List (Addr × Obj)) (xe : Value → Shared → Prop), Takes (X.tr pn xe) W → PassesOwn (model X.prog X.w) X.A X.env xe → PSs (X.tr pn xe) body (tS X W (denSs (evS R Γ k) body)) :=
      fun W pn xe tk po' => ⟨fun pins s σ H D I h => (sn_ss (X := X.tr pn xe) (E := W) (sn_stmt hR k (X.tr pn xe) W (G.tr tk) po' hst hfr)).run pins s σ H D I (tS_cast (X := X) (X' := X.tr pn xe) rfl rfl h)⟩
    unfold evS
    split
    · split
      · exact ss_bad
      · rename_i hc
        exact ss_expr (h1 _) (noComp_swaps (Bool.eq_false_iff.mpr hc) _ _ _)
    · exact ss_ret (h1 _)
    · exact ss_retN
    · exact ss_if (h2 _) (sn_ss ih) (sn_ss ih)
    · split
      · rename_i hset
        generalize lockOf Γ _ = lo
        cases lo with
        | none => exact ss_for po G.calm (sn_iter G h1) (sn_target G h1 5 _) (sn_ss ih) (noSet_ok hset X.env)
        | some i => exact ps_locked (ss_for po G.calm (si_keysL (h1 _)) (sn_target G h1 5 _) (sn_ss ih) (noSet_ok hset X.env))
      · exact ss_bad
    · exact ss_while po (h2 _) (sn_ss ih)
    · exact ss_pass
    · exact ss_break
    · exact ss_cont
    · exact sn_asg hR G
    · exact sn_raise G h1
    · split
      · rename_i hc
        simp only [Bool.and_eq_true, Bool.not_eq_true'] at hc
        obtain ⟨⟨c1, c2⟩, c3⟩ := hc
        split
        · exact ss_tryN G hst hfr c1 c2 c3 iht
        · split
          · rename_i i hi
            split
            · rename_i hl
              exact ss_tryA G hst hfr c1 c2 c3 hi (beq_iff_eq.mp hl) iht
            · exact ss_bad
          · exact ss_bad
      · exact ss_bad
    · exact ss_tryL G hst hfr iht
    · exact ss_bad
end

/-! ### the defs of a row -/
structure DF where
  x : Str
  qual : Str
  params : Arguments
  body : List Stmt
  scope : Scope
  N : List Str
  ps : List Str
structure Cfg where
  defs : List DF
  gl : List (Str × PyData)
  md : List (Str × List (Key × PyData))
  bl : List Str
  sh : List Str
  cs : List (Nat × Nat)
  fw : Nat
  fuel : Nat
  xs : List XT := []
  file : Str := "/claim/cut.py"
  nk : Option (List Str) := none
def Cfg.ga (c : Cfg) (D : DF) (ft : Str → Option FI) (k : Nat) : Ga := ⟨D.N, D.scope, fun _ => true, c.gl, c.md, c.bl, ft, c.sh, c.cs, c.fw, k, c.xs, c.nk⟩
def findD : List DF → Str → Option DF
  | [], _ => none
  | D :: r, x => if D.x = x then some D else findD r x
theorem findD_ok : ∀ {l : List DF} {x : Str} {D : DF}, findD l x = some D → D ∈ l ∧ D.x = x
  | [], _, _, h => by cases h
  | E :: r, x, D, h => by
    have h : (if E.x = x then some E else findD r x) = some D := h
    split at h
    · rename_i e
      cases h
      exact ⟨List.mem_cons_self, e⟩
    · obtain ⟨h1, h2⟩ := findD_ok h
      exact ⟨List.mem_cons_of_mem _ h1, h2⟩
/-- what a def answers, the defs below being ft -/
def Cfg.fi (c : Cfg) (ft : Str → Option FI) (k : Nat) (D : DF) : FI := ⟨D.ps, bodyF D.N.length D.ps.length (denSs (evS (ev c.fuel) (c.ga D ft k) c.fuel) D.body)⟩
def Cfg.tab (c : Cfg) : Nat → Str → Option FI
  | 0, _ => none
  | n + 1, x => (findD c.defs x).map (c.fi (c.tab n) n)
/-- the names' lists are as they should be -/
def DF.okB (D : DF) : Bool := (match D.scope.kind with | .function => true | _ => false) && !D.scope.isCoroutine && !D.scope.isGenerator && decide D.N.Nodup && decide (D.N.take D.ps.length = D.ps) &&
  D.ps.all (fun x => match D.scope.names.lookup x with | some .local => true | some .cell => true | _ => false) && D.scope.names.all (fun y => match y.2 with | .free => false | _ => true) &&
  decide (D.params.posonlyargs.map (·.arg) = []) && decide (D.params.args.map (·.arg) = D.ps) && D.params.vararg.isNone && D.params.kwonlyargs.isEmpty && D.params.kw_defaults.isEmpty && D.params.kwarg.isNone && D.params.defaults.isEmpty && decide D.ps.Nodup
theorem DF.ok {D : DF} (h : D.okB = true) : FnScope D.N D.ps D.scope ∧ Plain D.params D.ps ∧ D.ps.Nodup := by
  unfold DF.okB at h
  simp only [Bool.and_eq_true, decide_eq_true_eq, Bool.not_eq_true', List.all_eq_true, List.isEmpty_iff, Option.isNone_iff_eq_none] at h
  obtain ⟨⟨⟨⟨⟨⟨⟨⟨⟨⟨⟨⟨⟨⟨a1, a2⟩, a3⟩, a4⟩, a5⟩, a6⟩, a7⟩, a8⟩, a9⟩, a10⟩, a11⟩, a12⟩, a13⟩, a14⟩, a15⟩ := h
  refine ⟨⟨?_, a2, a3, a4, a5, fun x hx => ?_, fun y hy e => ?_⟩, ⟨List.map_eq_nil_iff.mp a8, a9, a10, a11, a12, a13, a14⟩, a15⟩
  · split at a1
    · assumption
    · cases a1
  · have := a6 x hx
    split at this
    · exact .inl ‹_›
    · exact .inr ‹_›
    · cases this
  · have := a7 y hy
    rw [e] at this
    cases this
def GlobK (K : PySem.W.Frag) (mg : Str → Option Value) (x : Str) (d : PyData) : Prop := ∃ u v, mg x = some u ∧ RelV v u ∧ ∀ ρ H, DR K ρ H d v
def MDK (P : Program) (w : World) (K : PySem.W.Frag) (mg : Str → Option Value) (x : Str) (kvs : List (Key × PyData)) : Prop := ∃ (a : Addr) (ws : List (Key × Value)), mg x = some (.ref a) ∧ (∀ h : Heap, K.In h → h.DictOf (mixKind P w) a ws) ∧ (a == sysModules) = false ∧ ws.length ≤ sizeLine ∧
  Paired (fun p q => p.1 = q.1 ∧ ∃ v, RelV v q.2 ∧ ∀ ρ H, DR K ρ H p.2 v) kvs ws
/-- what the module holds -/
structure Held (c : Cfg) (P : Program) (w : World) (K : PySem.W.Frag) (mg : Str → Option Value) : Prop where
  d : ∀ D ∈ c.defs, D.okB = true ∧ ∃ f fd, mg D.x = some (.ref f) ∧ FunD K D.x D.qual D.params D.body D.scope [] [] f fd
  g : ∀ x d, c.gl.lookup x = some d → GlobK K mg x d
  m : ∀ x d, c.md.lookup x = some d → MDK P w K mg x d
  b : ∀ x ∈ c.bl, mg x = none
  s : Sysm K
  x : XtOk P K mg c.xs
  n : ∀ ws, c.nk = some ws → NoKW K ws
theorem tab_ok {c : Cfg} {P : Program} {w : World} {K : PySem.W.Frag} {mg : Str → Option Value} (M : Held c P w K mg) : ∀ (n : Nat) (x : Str) (I : FI), c.tab n x = some I →
    ∃ f fd, mg x = some (.ref f) ∧ PySem.W.keepIn K (.ref f) = true ∧ (∀ base : Heap, FnG P w K mg base n f fd I.ps (spF K mg I.ps.length I.F)) ∧ Narrow I.ps.length I.F ∧ Plain fd.params I.ps ∧ fd.defaults = .none ∧ I.ps.Nodup
  | 0, x, I, h => by cases h
  | n + 1, x, I, h => by
    have h : (findD c.defs x).map (c.fi (c.tab n) n) = some I := h
    cases q : findD c.defs x with
    | none => rw [q] at h; cases h
    | some D =>
      rw [q] at h
      have h := Option.some.inj h
      subst h
      obtain ⟨hm, hx⟩ := findD_ok q
      obtain ⟨hb, f, fd, h1, h2⟩ := M.d D hm
      obtain ⟨S, Pl, nd⟩ := DF.ok hb
      rw [hx] at h1
      have hp : fd.params = D.params ∧ fd.defaults = .none := by
        obtain ⟨oc, od, dV, kV, doc, pm, an, cdv, ct, osl, rfl, _, _, hdV, _⟩ := h2.ex
        rcases hdV with ⟨_, e⟩ | ⟨e, _⟩
        · exact ⟨rfl, e⟩
        · exact absurd rfl e
      refine ⟨f, fd, h1, h2.kp, fun base => ?_, narrow_body, by rw [hp.1]; exact Pl, hp.2, nd⟩
      refine fnG_of h2 S fun cv A o s H W hr hg => ?_
      have G : Good (c.ga D (c.tab n) n) (cxOf (CX P w) P w K mg base D.N D.qual D.scope f cv A o s H W) (fun cc dx _ H' => W cc dx H') :=
        ⟨rfl, rfl, S.nd, rfl, fun _ _ => rfl, hg, by have := hr.un; show (A.deeper _).units + 150 < cLine; omega, M.s, takes_of rfl rfl rfl rfl, hr, fun y I hI => let ⟨f', fd', g1, g2, g3, g4⟩ := tab_ok (P := P) (w := w) M n y I hI; ⟨f', fd', g1, g2, g3 base, g4⟩, M.g, M.m, M.b, M.x, M.n⟩
      exact sn_ss (sn_stmt (ev_ok c.fuel) c.fuel _ _ G (passes_of rfl) rfl rfl)
end Sr
/-! The text's own exception classes, read off what is held. -/
namespace Sr
open PySem L2 PySem.W PySem.HandSPX

def eqB (a b : Option Bool) : Bool := decide (a = b)
theorem eqB_ok {a b : Option Bool} (h : eqB a b = true) : a = b := of_decide_eq_true h
/-- an own exception class as it is held: its order, whether it makes its things as ValueError does -/
def oexRow (K : Frag) (C : Addr) : Bool := match K.lookup C with
  | some ⟨.type t, _, .cls ⟨_, _, .ref C' :: bm, _, _, true, _, _, _, _, false⟩, ⟨[_, _, _, _, some (.builtin n), _]⟩⟩ => (decide (t = "type") && decide (C' = C)) && (decide (n = "ValueError.__new__") && refsVE bm)
  | _ => false
def oexB (K : Frag) (C : Addr) : Bool := oexRow K C && He.eqO (findIn K (.ref C) "__setattr__") (some (some (.builtin "object.__setattr__")))
theorem oexB_ok {K : Frag} {C : Addr} (h : oexB K C = true) (h1 : subIn K (.ref C) (.type "BaseException") = some true) (h2 : typeIn K (.ref C) = some (.type "type")) (h3 : keepIn K (.ref C) = true) : OexC K C := by
  obtain ⟨q, q2⟩ := He.ba h
  refine ⟨?_, He.eqO_ok q2, h1, h2, h3⟩
  unfold oexRow at q
  split at q
  · rename_i held
    obtain ⟨qa, qb⟩ := He.ba q
    obtain ⟨t1, t2⟩ := He.ba qa
    obtain ⟨n1, n2⟩ := He.ba qb
    cases of_decide_eq_true t1
    cases of_decide_eq_true t2
    cases of_decide_eq_true n1
    exact ⟨_, _, _, _, _, _, _, _, _, _, _, _, _, _, _, held, n2⟩
  · cases q
def askB (K : Frag) (C : Addr) : Bool := hasDictIn K C && (He.eqO (findIn K (.ref C) "__class__") (some (some (.builtin "object.__class__"))) && (He.eqO (specialIn K (.builtin "object.__class__") "__get__") (some (some (.builtin "getset_descriptor.__get__"))) &&
  (eqB (takesIn K (.builtin "object.__class__")) (some true) && eqB (mroIn K C (.type "object")) (some true))))
theorem askB_ok {K : Frag} {C : Addr} (h : askB K C = true) (x : XfC K C) : ExcC K C := by
  unfold askB at h
  obtain ⟨a1, h⟩ := He.ba h
  obtain ⟨a2, h⟩ := He.ba h
  obtain ⟨a3, h⟩ := He.ba h
  obtain ⟨a4, a5⟩ := He.ba h
  exact ⟨x.ga, x.gg, x.exC, a1, He.eqO_ok a2, He.eqO_ok a3, eqB_ok a4, eqB_ok a5⟩
def plainB (p : Arguments) (ps : List Str) : Bool := decide (p.posonlyargs.map (·.arg) = []) && decide (p.args.map (·.arg) = ps) && p.vararg.isNone && p.kwonlyargs.isEmpty && p.kw_defaults.isEmpty && p.kwarg.isNone && p.defaults.isEmpty
theorem plainB_ok {p : Arguments} {ps : List Str} (h : plainB p ps = true) : Plain p ps := by
  unfold plainB at h
  simp only [Bool.and_eq_true, decide_eq_true_eq, List.isEmpty_iff, Option.isNone_iff_eq_none] at h
  obtain ⟨⟨⟨⟨⟨⟨a8, a9⟩, a10⟩, a11⟩, a12⟩, a13⟩, a14⟩ := h
  exact ⟨List.map_eq_nil_iff.mp a8, a9, a10, a11, a12, a13, a14⟩
def scopeB (sc : Scope) (f : Str) : Bool := (match sc.kind with | .function => true | _ => false) && !sc.isCoroutine && !sc.isGenerator && (match sc.names.lookup ("super" : Str) with | some .globalImplicit => true | _ => false) && (match sc.names.lookup ("__class__" : Str) with | some .free => true | _ => false) &&
  (match sc.names.lookup ("self" : Str) with | some .local => true | _ => false) && (match sc.names.lookup f with | some .local => true | _ => false) && sc.names.all (fun y => match y.2 with | .cell => false | _ => true)
def initFnB (K : Frag) (file : Str) (C : Addr) (f : Str) (o : Option Obj) : Bool := match o with
  | some ⟨_, _, .func fd, _⟩ => decide (fd.name = "__init__") && (match fd.body with | .stmts b => initB f b | _ => false) && decide (fd.globals = mainGlobals) && decide (fd.builtins = builtinsNs) && (match fd.defaults with | .none => true | _ => false) &&
      (match fd.closure with | [(n, cc)] => decide (n = "__class__") && (match K.lookup cc with | some ⟨_, _, .cell (some (.ref D)), _⟩ => decide (D = C) | _ => false) | _ => false) &&
      (match fd.code with | .ref cda => codeIn K (.ref cda) fd.qualname && (match K.lookup cda with | some ⟨_, _, .fields (vs : Array Value), _⟩ => (match (vs[2]? : Option Value) with | some (.str fi _) => decide (file = fi) | _ => false) | _ => false) | _ => false) &&
      plainB fd.params ["self", f] && scopeB fd.scope f
  | _ => false
def ownB (K : Frag) (file : Str) (C : Addr) (f : Str) : Bool := oexB K C && (He.eqO (findIn K (.ref C) f) (some none) && (He.eqO (findIn K (.ref C) "__init__") (some (some (.ref (He.ma K C "__init__")))) && (decide (typeIn K (.ref (He.ma K C "__init__")) = some (.type "function")) &&
  (He.eqO (ks_superIn K C C "__init__") (some (some (.builtin "ValueError.__init__"))) && (eqB (subIn K (.ref C) (.type "ValueError")) (some true) && (eqB (mroIn K C (.ref C)) (some true) && (He.eqO (nsIn K cStatics "thirdparty.any") (some none) && (He.eqO (nsIn K mainGlobals "super") (some none) &&
  (decide (("self" : Str) ≠ f) && (!(f == ("__debug__" : Str)) && initFnB K file C f (K.lookup (He.ma K C "__init__"))))))))))))
/-- the text's file; no name super at its top -/
def progB (file : Str) (P : Program) : Bool := decide (P.main.file = file) && !(P.main.scope.names.lookup ("super" : Str)).isSome
theorem ownB_ok {P : Program} {K : Frag} {file : Str} {C : Addr} {f : Str} (h : ownB K file C f = true) (hp : progB file P = true) (h1 : subIn K (.ref C) (.type "BaseException") = some true) (h2 : typeIn K (.ref C) = some (.type "type")) (h3 : keepIn K (.ref C) = true) :
    OwnX P K C (He.ma K C "__init__") f := by
  unfold ownB at h
  obtain ⟨b1, h⟩ := He.ba h
  obtain ⟨b2, h⟩ := He.ba h
  obtain ⟨b3, h⟩ := He.ba h
  obtain ⟨b4, h⟩ := He.ba h
  obtain ⟨b5, h⟩ := He.ba h
  obtain ⟨b6, h⟩ := He.ba h
  obtain ⟨b7, h⟩ := He.ba h
  obtain ⟨b8, h⟩ := He.ba h
  obtain ⟨b9, h⟩ := He.ba h
  obtain ⟨b10, h⟩ := He.ba h
  obtain ⟨b11, h⟩ := He.ba h
  unfold progB at hp
  obtain ⟨p1, p2⟩ := He.ba hp
  have p1 := of_decide_eq_true p1
  refine ⟨oexB_ok b1 h1 h2 h3, He.eqO_ok b2, He.eqO_ok b3, of_decide_eq_true b4, He.eqO_ok b5, eqB_ok b6, eqB_ok b7, He.eqO_ok b8, He.eqO_ok b9, by simpa using p2, ?_⟩
  unfold initFnB at h
  split at h
  · rename_i oc od fd osl ho
    simp only [Bool.and_eq_true, decide_eq_true_eq] at h
    obtain ⟨⟨⟨⟨⟨⟨⟨⟨c1, c2⟩, c3⟩, c4⟩, c5⟩, c6⟩, c7⟩, c8⟩, c9⟩ := h
    obtain ⟨name, qual, params, body, scope, globals, closure, defaults, kV, doc, pm, an, code, ct, blt⟩ := fd
    dsimp only at c1 c2 c3 c4 c5 c6 c7 c8 c9
    split at c2
    · rename_i b
      split at c5
      · split at c6
        · rename_i n cc
          rw [Bool.and_eq_true, decide_eq_true_eq] at c6
          obtain ⟨rfl, c6⟩ := c6
          split at c6
          · rename_i cl cld D csl hcc
            have c6 := of_decide_eq_true c6
            subst c6
            split at c7
            · rename_i cda
              rw [Bool.and_eq_true] at c7
              obtain ⟨c7, c10⟩ := c7
              split at c10
              · rename_i ccl cdd vs ccs hcda
                split at c10
                · rename_i fi tf hvs
                  have c10 := of_decide_eq_true c10
                  subst c1 c3 c4
                  unfold scopeB at c9
                  simp only [Bool.and_eq_true, Bool.not_eq_true', List.all_eq_true] at c9
                  obtain ⟨⟨⟨⟨⟨⟨⟨d1, d2⟩, d3⟩, d4⟩, d5⟩, d6⟩, d7⟩, d8⟩ := c9
                  refine ⟨oc, od, qual, params, b, scope, cc, cda, kV, doc, pm, an, ct, osl, cl, ccl, cld, cdd, csl, ccs, vs, fi, tf, ho, c7, hcda, hvs, by rw [p1, c10]; exact beq_self_eq_true _, hcc, plainB_ok c8, initB_ok c2, of_decide_eq_true b10, by simpa using b11, ?_, d2, d3, ?_, ?_, ?_, ?_, ?_⟩
                  · split at d1
                    · assumption
                    · cases d1
                  · split at d4
                    · assumption
                    · cases d4
                  · split at d5
                    · assumption
                    · cases d5
                  · split at d6
                    · assumption
                    · cases d6
                  · split at d7
                    · assumption
                    · cases d7
                  · intro y hy z
                    have := d8 y hy
                    rw [z] at this
                    cases this
                · cases c10
              · cases c10
            · cases c7
          · cases c6
        · cases c6
      · cases c5
    · cases c2
  · cases h
/-- a class of the text -/
def xtB (K : Frag) (file : Str) (all : List XT) (T : XT) : Bool := He.eqO (nsIn K mainGlobals T.x) (some (some (.ref (He.ga K T.x)))) && (keepIn K (.ref (He.ga K T.x)) && (eqB (subIn K (.ref (He.ga K T.x)) (.type "BaseException")) (some true) && (decide (typeIn K (.ref (He.ga K T.x)) = some (.type "type")) &&
  (xfB K (He.ga K T.x) && (askB K (He.ga K T.x) && ((match T.f with
    | none => excIn K (He.ga K T.x) He.veBase "ValueError.__new__"
    | some f => ownB K file (He.ga K T.x) f) && all.all fun U => He.eqO (nsIn K mainGlobals U.x) (some (some (.ref (He.ga K U.x)))) && (eqB (exmOne K (.ref (He.ga K T.x)) (.ref (He.ga K U.x))) (some (T.up.contains U.x)) && eqB (kitOne K (.ref (He.ga K T.x)) (.ref (He.ga K U.x))) (some (T.up.contains U.x)))))))))
theorem xtB_ok {P : Program} {K : Frag} {h : Heap} {mg : Str → Option Value} {file : Str} {all : List XT} (X : K.In h) (G : h.Ns mainGlobals mg) (hp : progB file P = true) (hall : all.all (xtB K file all) = true) : XtOk P K mg all := by
  intro T hT
  have h := List.all_eq_true.mp hall T hT
  unfold xtB at h
  obtain ⟨a1, h⟩ := He.ba h
  obtain ⟨a2, h⟩ := He.ba h
  obtain ⟨a3, h⟩ := He.ba h
  obtain ⟨a4, h⟩ := He.ba h
  obtain ⟨a5, h⟩ := He.ba h
  obtain ⟨a6, h⟩ := He.ba h
  obtain ⟨a7, h⟩ := He.ba h
  have a3 := eqB_ok a3
  have a4 := of_decide_eq_true a4
  refine ⟨He.ga K T.x, mg_of X G (He.eqO_ok a1), a2, a3, a4, xfB_ok a5, askB_ok a6 (xfB_ok a5), ?_, fun U hU => ?_⟩
  · cases q : T.f with
    | none => rw [q] at a7; exact a7
    | some f =>
      rw [q] at a7
      have o := ownB_ok (P := P) a7 hp a3 a4 a2
      exact ⟨⟨_, o⟩, mg_none_of X G o.sg⟩
  · have u := List.all_eq_true.mp h U hU
    obtain ⟨u1, u⟩ := He.ba u
    obtain ⟨u2, u3⟩ := He.ba u
    exact ⟨_, mg_of X G (He.eqO_ok u1), eqB_ok u2, eqB_ok u3⟩
end Sr
/-! What the module holds, seen by a Hook; a law's end. -/
namespace Sr
open PySem L2

/-! ### constants of the module -/
mutual
def datB (K : PySem.W.Frag) : PyData → Value → Bool
  | .none, u => match u with
    | .none => true
    | _ => false
  | .bool b, u => match u with
    | .bool c => b == c
    | _ => false
  | .int i, u => match u with
    | .int j _ => decide (i = j)
    | _ => false
  | .str x, u => match u with
    | .str y _ => decide (x = y)
    | _ => false
  | .tuple ds, u => match u with
    | .ref T => match K.lookup T with
      | some ⟨.type c, _, .seq its _, _⟩ => decide (c = "tuple") && decide (its.size ≤ sizeLine) && datBs K ds its.toList
      | _ => false
    | _ => false
  | .list _, _ => false
  | .dict _, _ => false
def datBs (K : PySem.W.Frag) : List PyData → List Value → Bool
  | [], [] => true
  | d :: ds, u :: us => datB K d u && datBs K ds us
  | _, _ => false
end
mutual
theorem datB_ok (K : PySem.W.Frag) : ∀ (d : PyData) (u : Value), datB K d u = true → ∃ v, RelV v u ∧ ∀ ρ H, DR K ρ H d v
  | .none, u, h => by
    cases u with
    | none => exact ⟨.non, rfl, fun _ _ => .non⟩
    | _ => cases h
  | .bool b, u, h => by
    cases u with
    | bool c =>
      have h : b = c := beq_iff_eq.mp (show (b == c) = true from h)
      subst h
      exact ⟨.bl b, rfl, fun _ _ => .bl b⟩
    | _ => cases h
  | .int i, u, h => by
    cases u with
    | int j t =>
      have h : i = j := of_decide_eq_true h
      subst h
      exact ⟨.int i, ⟨t, rfl⟩, fun _ _ => .int i⟩
    | _ => cases h
  | .str x, u, h => by
    cases u with
    | str j t =>
      have h : x = j := of_decide_eq_true h
      subst h
      exact ⟨.str x, ⟨t, rfl⟩, fun _ _ => .str x⟩
    | _ => cases h
  | .tuple ds, u, h => by
    cases u with
    | ref T =>
      have h : (match K.lookup T with
        | some ⟨.type c, _, .seq its _, _⟩ => decide (c = "tuple") && decide (its.size ≤ sizeLine) && datBs K ds its.toList
        | _ => false) = true := h
      cases q : K.lookup T with
      | none => rw [q] at h; cases h
      | some o =>
        obtain ⟨oc, od, dt, osl⟩ := o
        rw [q] at h
        cases oc with
        | type c =>
          cases dt with
          | seq its n =>
            have h : (decide (c = "tuple") && decide (its.size ≤ sizeLine) && datBs K ds its.toList) = true := h
            simp only [Bool.and_eq_true, decide_eq_true_eq] at h
            obtain ⟨vs, h1, h2⟩ := datBs_ok K ds its.toList h.2
            exact ⟨.ref T, rfl, fun ρ H => .tup (.inr ⟨_, its, n, q, by rw [h.1.1], rfl, h.1.2, h1⟩) (h2 ρ H)⟩
          | _ => cases h
        | _ => cases dt <;> cases h
    | _ => cases h
  | .list _, _, h => by cases h
  | .dict _, _, h => by cases h
theorem datBs_ok (K : PySem.W.Frag) : ∀ (ds : List PyData) (us : List Value), datBs K ds us = true → ∃ vs, Vals vs us ∧ ∀ ρ H, DRs K ρ H ds vs
  | [], [], _ => ⟨[], .nil, fun _ _ => .nil⟩
  | [], _ :: _, h => by cases h
  | _ :: _, [], h => by cases h
  | d :: ds, u :: us, h => by
    have h : (datB K d u && datBs K ds us) = true := h
    rw [Bool.and_eq_true] at h
    obtain ⟨v, h1, h2⟩ := datB_ok K d u h.1
    obtain ⟨vs, h3, h4⟩ := datBs_ok K ds us h.2
    exact ⟨v :: vs, .cons h1 h3, fun ρ H => .cons (h2 ρ H) (h4 ρ H)⟩
end

/-! ### the part of the heap that stays: what the module's names reach, lists left out -/
def isLstO (o : Obj) : Bool := match o.cls with
  | .type c => decide (c = "list")
  | _ => false
def asL (g : Addr → Option Obj) (n : Nat) : List Addr := (He.asD g n).filter fun a => match g a with
  | some o => !isLstO o
  | none => true
def noLst (K : PySem.W.Frag) : Bool := K.all fun p => !isLstO p.2
theorem lookup_mem {α : Type} : ∀ {l : List (Addr × α)} {a : Addr} {o : α}, l.lookup a = some o → (a, o) ∈ l
  | [], _, _, h => by cases h
  | (b, u) :: l, a, o, h => by
    rw [List.lookup_cons] at h
    split at h
    · rename_i q
      have e1 := beq_iff_eq.mp q
      cases h
      rw [e1]
      exact List.mem_cons_self
    · exact List.mem_cons_of_mem _ (lookup_mem h)
theorem lookup_memS {α : Type} : ∀ {l : List (Str × α)} {a : Str} {o : α}, l.lookup a = some o → (a, o) ∈ l
  | [], _, _, h => by cases h
  | (b, u) :: l, a, o, h => by
    rw [List.lookup_cons] at h
    split at h
    · rename_i q
      have e1 := beq_iff_eq.mp q
      cases h
      rw [e1]
      exact List.mem_cons_self
    · exact List.mem_cons_of_mem _ (lookup_memS h)
theorem noLst_ok {K : PySem.W.Frag} (h : noLst K = true) {a : Addr} {o : Obj} (e : K.lookup a = some o) : isLstO o = false := by
  have := List.all_eq_true.mp h _ (lookup_mem e)
  simpa using this
def Cfg.fa (c : Cfg) : List He.Fa := c.defs.map (fun D => .glo D.x) ++ c.bl.map .free
def Cfg.fn (c : Cfg) : List He.DefD := c.defs.map fun D => ⟨(D.x, none), D.x, D.qual, D.params, D.body, D.scope, [], []⟩
def glK (K : PySem.W.Frag) (p : Str × PyData) : Bool := match PySem.W.nsIn K mainGlobals p.1 with
  | some (some u) => datB K p.2 u
  | _ => false
/-- a dict of the module: its keys and values -/
def pairB (K : PySem.W.Frag) : List (Key × PyData) → List DictEntry → Bool
  | [], [] => true
  | p :: ps, e :: es => keyIs p.1 e.key && datB K p.2 e.val && pairB K ps es
  | _, _ => false
def mdAt (K : PySem.W.Frag) (x : Str) : Option (Addr × Obj) := match PySem.W.nsIn K mainGlobals x with
  | some (some (.ref a)) => (K.lookup a).map fun o => (a, o)
  | _ => none
def mdB (K : PySem.W.Frag) (p : Str × List (Key × PyData)) : Bool := match mdAt K p.1 with
  | some (a, ⟨.type c, none, .dict es _, sl⟩) => decide (c = "dict") && decide (sl.size = 0) && !(a == sysModules) && decide (es.toList.length ≤ 1000000) && decide ((p.2.map (·.1)).Nodup) && pairB K p.2 es.toList
  | _ => false
def mdH (K : PySem.W.Frag) (p : Str × List (Key × PyData)) : List Int := match mdAt K p.1 with
  | some (_, ⟨_, _, .dict es _, _⟩) => es.toList.map (·.hash)
  | _ => []
abbrev AlS : Type := He.AlD × List (List Int)
/-- a tuple of the module without numbers, and without some words -/
def nkO (ws : List Str) (o : Obj) : Bool := match o.cls, o.data with
  | .type c, .seq its _ => if c = "tuple" then its.toList.all fun v => match v with
    | .int _ _ => false
    | .str x _ => !ws.contains x
    | _ => true
    else true
  | _, _ => true
def nkB (K : PySem.W.Frag) (nk : Option (List Str)) : Bool := match nk with
  | some ws => K.all fun p => nkO ws p.2
  | none => true
theorem nkB_ok {K : PySem.W.Frag} {nk : Option (List Str)} (h : nkB K nk = true) : ∀ ws, nk = some ws → NoKW K ws := by
  intro ws e a vs ⟨o, its, n, h1, h2, h3, _, h4⟩ v hv
  subst e
  have hb : nkO ws o = true := List.all_eq_true.mp h _ (lookup_mem h1)
  unfold nkO at hb
  rw [h2, h3] at hb
  dsimp only at hb
  rw [if_pos rfl] at hb
  obtain ⟨j, hj⟩ := List.mem_iff_getElem?.mp hv
  obtain ⟨u, g1, g2⟩ := h4.get hj
  have hu := List.all_eq_true.mp hb u (List.mem_of_getElem? g1)
  refine ⟨fun i z => ?_, fun x hx z => ?_⟩
  · subst z
    obtain ⟨t, rfl⟩ := g2
    cases hu
  · subst z
    obtain ⟨t, rfl⟩ := g2
    simp [hx] at hu
def obsK (c : Cfg) (K : PySem.W.Frag) : AlS := (((He.obsD c.fa c.fn K).1 && (noLst K && c.gl.all (glK K) && (c.md.all (mdB K) && ((K.lookup sysModules).isSome && (c.xs.all (xtB K c.file c.xs) && nkB K c.nk)))), (He.obsD c.fa c.fn K).2), c.md.map (mdH K))
def valK (c : Cfg) (w : World) : AlS := (He.valD c.fn, c.md.map fun p => p.2.map fun q => keyH w q.1)
def SaysK (c : Cfg) (w : World) (K : PySem.W.Frag) : Prop := obsK c K = valK c w
def closA (g : Addr → Option Obj) (as : List Addr) : List Addr := as.flatMap fun a => match g a with
  | some ⟨_, _, .func fd, _⟩ => fd.closure.map (·.2)
  | _ => []
def asX (c : Cfg) (g : Addr → Option Obj) (as : List Addr) : List Addr := if c.xs.isEmpty then as else cStatics :: (as ++ closA g as)
def obsS (n : Nat) (c : Cfg) (g : Addr → Option Obj) : AlS := obsK c (He.frG g (asX c g (sysModules :: asL g n)))
def hookS (n : Nat) (c : Cfg) : PySem.W.Hook where
  α := AlS
  obs := fun s => obsS n c s.heap.get?
  val := valK c
  says := fun w h => ∃ K : PySem.W.Frag, K.In h ∧ SaysK c w K
  of := fun _ _ e => ⟨_, He.frG_in, e⟩
  keeps := fun _ _ _ ⟨K, hK, e⟩ k => ⟨K, PySem.W.Frag.In.keeps hK k, e⟩
theorem obsS_eq {n : Nat} {c : Cfg} {g : Addr → Option Obj} {s : Shared} (h : ∀ a, g a = s.heap.get? a) : obsS n c g = (hookS n c).obs s := by
  rw [funext h]
  rfl
theorem SaysK.parts {c : Cfg} {w : World} {K : PySem.W.Frag} (h : SaysK c w K) : He.SaysD c.fa c.fn K ∧ noLst K = true ∧ c.gl.all (glK K) = true ∧ (c.md.all (mdB K) = true ∧ Sysm K ∧ c.xs.all (xtB K c.file c.xs) = true ∧ nkB K c.nk = true) ∧ c.md.map (mdH K) = c.md.map fun p => p.2.map fun q => keyH w q.1 := by
  have h0 : obsK c K = valK c w := h
  have h1 : (obsK c K).1.1 = (valK c w).1.1 := by rw [h0]
  have h2 : (obsK c K).1.2 = (valK c w).1.2 := by rw [h0]
  have h3 : (obsK c K).2 = (valK c w).2 := by rw [h0]
  have h1 : ((He.obsD c.fa c.fn K).1 && (noLst K && c.gl.all (glK K) && (c.md.all (mdB K) && ((K.lookup sysModules).isSome && (c.xs.all (xtB K c.file c.xs) && nkB K c.nk))))) = true := h1
  simp only [Bool.and_eq_true] at h1
  refine ⟨?_, h1.2.1.1, h1.2.1.2, ⟨h1.2.2.1, Option.isSome_iff_exists.mp h1.2.2.2.1, h1.2.2.2.2⟩, h3⟩
  show He.obsD c.fa c.fn K = He.valD c.fn
  exact Prod.ext h1.1 h2
theorem pairB_ok {K : PySem.W.Frag} {w : World} {P : Program} : ∀ {ps : List (Key × PyData)} {es : List DictEntry}, pairB K ps es = true → es.map (·.hash) = ps.map (fun q => keyH w q.1) →
    ∃ ws : List (Key × Value), ws.map (·.1) = ps.map (·.1) ∧ Pairs (mixKind P w) es ws ∧ (∀ e ∈ es, ∃ k, (mixKind P w).is k e.key = true ∧ e.hash = (mixKind P w).hash k) ∧ Paired (fun p q => p.1 = q.1 ∧ ∃ v, RelV v q.2 ∧ ∀ ρ H, DR K ρ H p.2 v) ps ws
  | [], [], _, _ => ⟨[], rfl, .nil, fun _ z => (nomatch z), .nil⟩
  | [], _ :: _, h, _ => by cases h
  | _ :: _, [], h, _ => by cases h
  | p :: ps, e :: es, h, hh => by
    have h : (keyIs p.1 e.key && datB K p.2 e.val && pairB K ps es) = true := h
    simp only [Bool.and_eq_true] at h
    rw [List.map_cons, List.map_cons] at hh
    injection hh with hh1 hh2
    obtain ⟨ws, k1, k2, k3, k4⟩ := pairB_ok (P := P) h.2 hh2
    obtain ⟨v, r1, r2⟩ := datB_ok K p.2 e.val h.1.2
    refine ⟨(p.1, e.val) :: ws, by rw [List.map_cons, List.map_cons, k1], .cons h.1.1 rfl k2, fun z hz => ?_, .cons ⟨rfl, v, r1, r2⟩ k4⟩
    rcases List.mem_cons.mp hz with rfl | hz
    · exact ⟨p.1, h.1.1, hh1⟩
    · exact k3 z hz
theorem map_at {α β : Type} {f g : α → β} : ∀ {l : List α}, l.map f = l.map g → ∀ a ∈ l, f a = g a
  | [], _, a, h => by cases h
  | b :: l, e, a, h => by
    rw [List.map_cons, List.map_cons] at e
    injection e with e1 e2
    rcases List.mem_cons.mp h with rfl | h
    · exact e1
    · exact map_at e2 a h
theorem mdK_of {K : PySem.W.Frag} {w : World} {P : Program} {h : Heap} {mg : Str → Option Value} (X : K.In h) (G : h.Ns mainGlobals mg) {x : Str} {kvs : List (Key × PyData)} (hb : mdB K (x, kvs) = true) (hh : mdH K (x, kvs) = kvs.map fun q => keyH w q.1) : MDK P w K mg x kvs := by
  unfold mdB at hb
  unfold mdH at hh
  cases q : mdAt K x with
  | none => rw [q] at hb; cases hb
  | some r =>
    obtain ⟨a, o⟩ := r
    rw [q] at hb hh
    unfold mdAt at q
    cases q2 : PySem.W.nsIn K mainGlobals x with
    | none => rw [q2] at q; cases q
    | some u =>
      rw [q2] at q
      cases u with
      | none => cases q
      | some u =>
        cases u with
        | ref b =>
          have q : (K.lookup b).map (fun o => (b, o)) = some (a, o) := q
          cases q3 : K.lookup b with
          | none => rw [q3] at q; cases q
          | some ob =>
            rw [q3] at q
            cases q
            obtain ⟨oc, od, dt, sl⟩ := o
            cases oc with
            | type c =>
              cases od with
              | none =>
                cases dt with
                | dict es ep =>
                  have hb : (decide (c = "dict") && decide (sl.size = 0) && !(a == sysModules) && decide (es.toList.length ≤ 1000000) && decide ((kvs.map (·.1)).Nodup) && pairB K kvs es.toList) = true := hb
                  simp only [Bool.and_eq_true, decide_eq_true_eq, Bool.not_eq_true'] at hb
                  obtain ⟨⟨⟨⟨⟨b1, b2⟩, b3⟩, b4⟩, b5⟩, b6⟩ := hb
                  have hh : es.toList.map (·.hash) = kvs.map fun q => keyH w q.1 := hh
                  obtain ⟨ws, k1, k2, k3, k4⟩ := pairB_ok (P := P) b6 hh
                  subst b1
                  have hsl : sl = #[] := Array.eq_empty_of_size_eq_zero b2
                  subst hsl
                  refine ⟨a, ws, PySem.W.mg_of X G q2, fun h' X' => ⟨_, es, ep, X' _ _ q3, ⟨rfl, rfl, rfl⟩, rfl, fun e he => k3 e (Array.mem_toList_iff.mpr he), k2, by rw [k1]; exact b5⟩, b3, ?_, k4⟩
                  have : ws.length = es.toList.length := (Pairs.length k2).symm
                  rw [this]
                  exact Nat.le_trans b4 mil
                | _ => cases hb
              | some z => cases dt <;> cases hb
            | _ => cases od <;> cases dt <;> cases hb
        | _ => cases q
theorem held_of {c : Cfg} {P : Program} {w : World} {K : PySem.W.Frag} {h : Heap} {mg : Str → Option Value} (X : K.In h) (G : h.Ns mainGlobals mg) (e : SaysK c w K) (hb : c.defs.all DF.okB = true) (hpf : (c.xs.isEmpty || progB c.file P) = true) : Held c P w K mg := by
  obtain ⟨e1, e2, e3, ⟨e4, e6, e7, e8⟩, e5⟩ := e.parts
  have hfa : ∀ f ∈ c.fa, f.ok K = true := by
    have : ((c.fa.all fun f => f.ok K) && c.fn.all fun d => d.ok K) = true := congrArg (fun z : He.AlD => z.1) e1
    rw [Bool.and_eq_true] at this
    exact fun f hf => List.all_eq_true.mp this.1 f hf
  refine ⟨fun D hD => ?_, fun x d hl => ?_, fun x d hl => ?_, fun x hx => ?_, e6, ?_, nkB_ok e8⟩
  · refine ⟨List.all_eq_true.mp hb D hD, ?_⟩
    obtain ⟨i, hi, q⟩ := List.getElem_of_mem hD
    have hq : c.fn[i]? = some ⟨(D.x, none), D.x, D.qual, D.params, D.body, D.scope, [], []⟩ := by
      show (c.defs.map _)[i]? = _
      rw [List.getElem?_map, List.getElem?_eq_getElem hi, q]
      rfl
    obtain ⟨fd, F⟩ := He.SaysD.def_ e1 i hq
    refine ⟨He.ga K D.x, fd, He.glo_ok X G (hfa _ ?_), F⟩
    exact List.mem_append_left _ (List.mem_map.mpr ⟨D, hD, rfl⟩)
  · have hm := lookup_memS hl
    have := List.all_eq_true.mp e3 _ hm
    unfold glK at this
    dsimp only at this
    split at this
    · rename_i u hu
      obtain ⟨v, h1, h2⟩ := datB_ok K d u this
      exact ⟨u, v, PySem.W.mg_of X G hu, h1, h2⟩
    · cases this
  · have hm := lookup_memS hl
    exact mdK_of X G (List.all_eq_true.mp e4 _ hm) (map_at e5 _ hm)
  · exact He.free_ok X G (hfa _ (List.mem_append_right _ (List.mem_map.mpr ⟨x, hx, rfl⟩)))
  · rw [Bool.or_eq_true] at hpf
    rcases hpf with hpf | hpf
    · rw [List.isEmpty_iff.mp hpf]
      exact fun T hT => nomatch hT
    · exact xtB_ok X G hpf e7

/-! ### a law's end -/
section
open PySem.W PyProof.Rows PySem.Calls
variable {P : Program} {w : World} {K : PySem.W.Frag} {mg mb : Str → Option Value} {k : Nat} {fa a : Addr} {fd : FuncData} {x : Str} {s₁ : Shared} {vs : List Value} {ns : List Int}
/-- the script alone is tracked, and it stays -/
def scriptH (a : Addr) (vs : List Value) (ns : List Int) : Hp := fun b => if b = a then some (.frz { cls := .type "list", data := .seq vs.toArray } (.lst (ns.map V.int))) else none
theorem scriptH_at {b : Addr} {u : HO} (h : scriptH a vs ns b = some u) : b = a ∧ u = .frz { cls := .type "list", data := .seq vs.toArray } (.lst (ns.map V.int)) := by
  unfold scriptH at h
  split at h
  · rename_i e
    exact ⟨e, (Option.some.inj h).symm⟩
  · cases h
theorem scriptH_off {b : Addr} (h : b ≠ a) : scriptH a vs ns b = none := if_neg h
theorem end_call (KX : K.In s₁.heap) (nl : noLst K = true) (hns : s₁.heap.Ns mainGlobals mg) (hb : s₁.heap.Ns builtinsNs mb) (hbb : ∀ x : Str, x ≠ "__name__" → mb x = bootBuiltins x) (hlim : s₁.heap.NoLimit) (hg : s₁.gens = #[])
    (ha : s₁.heap.get? a = some { cls := .type "list", data := .seq vs.toArray }) (hi : IntsAre vs ns) (hl : ns.length ≤ sizeLine) (hr : Room k callerA) {F : List PV → Store → Res PV}
    (G : ∀ base : Heap, K.In base → FnG P w K mg base k fa fd [x] (spF K mg 1 F)) (hbind : BindsTo s₁ fd ⟨[.ref a], []⟩ [(x, .ref a)])
    (hF : ∃ st, F [.d (.list (ns.map .int))] [] = .ok (.d (.bool true)) st) :
    codeAny (model P w) callerA (.call (.ref fa) ⟨[.ref a], []⟩) (fun r s' => r = .ok (.ret (.bool true)) ∧ OldK s₁.heap s'.heap ∧ s'.os = s₁.os ∧ AllBare s'.gens) s₁ := by
  have rv := vals_ints hi
  have offK : ∀ {b : Addr} {o : Obj}, K.lookup b = some o → b ≠ a := fun {b o} e z => by
    subst z
    have h1 := KX _ _ e
    rw [ha] at h1
    cases h1
    have h2 := noLst_ok nl e
    unfold isLstO at h2
    simp at h2
  have hM : Mod K mg (hidT s₁.heap (scriptH a vs ns)) := by
    have keep : ∀ {b : Addr} {m : Str → Option Value}, s₁.heap.Ns b m → (hidT s₁.heap (scriptH a vs ns)).Ns b m := fun {b m} ⟨o, es, ep, e, d, r⟩ =>
      ⟨o, es, ep, hidT_get e (scriptH_off fun z => by
        subst z
        rw [ha] at e
        cases e
        have d : Data.seq vs.toArray _ = Data.dict es ep := d
        cases d), d, r⟩
    obtain ⟨mc, c1, c2⟩ := hlim
    exact ⟨fun b o e => hidT_get (KX b o e) (scriptH_off (offK e)), keep hns, ⟨mb, keep hb, hbb⟩, ⟨mc, keep c1, c2⟩⟩
  have hok : HOk P w (scriptH a vs ns) s₁.heap := fun b u z => by
    obtain ⟨rfl, rfl⟩ := scriptH_at z
    exact ⟨ha, by rw [List.length_map]; exact hl, vs, _, rv, ha⟩
  have e0 : Env0 P w K mg (hidT s₁.heap (scriptH a vs ns)) callerA [] s₁ (scriptH a vs ns) :=
    ⟨rfl, hM, fun b o e => of_hidT e, Nat.le_of_eq (hidT_size _ _), trivial, fun b z => (nomatch z), hok, .of_eq hg⟩
  obtain ⟨st, hF⟩ := hF
  have dri : ∀ (ρ : Cs) (H : Hp) (l : List Int), DRs K ρ H (l.map .int) (l.map V.int) := fun ρ H l => by
    induction l with
    | nil => exact .nil
    | cons i l ih => exact .cons (.int i) ih
  have hsp : spF K mg 1 F [.ref a] (scriptH a vs ns) (fun v _ => v = .bl true) (fun _ _ _ => False) := by
    refine ⟨rfl, ⟨[], 0⟩, [], [.d (.list (ns.map .int))], ⟨rfl, List.nodup_nil, fun b z => (nomatch z), fun i o z => by simp at z⟩, .cons (.d (.lst ⟨.inr ⟨_, if_pos rfl⟩, fun z => (nomatch z)⟩ (dri _ _ ns))) .nil, ?_⟩
    rw [hF]
    intro ρ' H' y _ _ hy
    cases hy with
    | d h => cases h; rfl
  have stays : ∀ {H' : Hp} {s' : Shared}, Un (frs []) [] (scriptH a vs ns) H' s₁.heap s'.heap → HOk P w H' s'.heap → OldK s₁.heap s'.heap := fun {H' s'} un good => OldK.of_keep fun b o e => by
    rcases Classical.em (b = a) with rfl | other
    · have frozen := un.frzs b _ _ (if_pos rfl)
      rw [← e, ha]
      exact (good b _ frozen).1
    · exact un.keep b o e (scriptH_off other) nofun nofun
  refine codeAny_mono ((G _ hM.kin).run callerA [] s₁ _ ⟨[.ref a], []⟩ [.ref a] [.ref a] _ _ hr rfl e0 hbind (.cons rfl .nil) hsp) ?_
  rintro (_ | _) s' h
  · exact (let ⟨_, _, _, _, _, _, _, _, _, _, _, _, never⟩ := h; never.elim)
  · rename_i fl
    cases fl <;> try exact h.elim
    obtain ⟨_, H', os, bare, un, good, answer, rfl⟩ := h
    cases answer
    exact ⟨rfl, stays un good, os, bare⟩
end
/-- what a row's law answers by the evaluator -/
def Cfg.run (c : Cfg) (k : Nat) (name : Str) (ns : List Int) : Res PV := match c.tab k name with
  | some I => I.F [.d (.list (ns.map .int))] []
  | none => .bad
def oneParam (c : Cfg) (name x : Str) : Bool := match findD c.defs name with
  | some D => decide (D.ps = [x])
  | none => false
/-- no number of a script that can be laid is of more than 2 ^ 20 bits -/
theorem laid_small {ns : List Int} (h : PySem.W.WData.layableAll [.list (ns.map .int)] = true) : ∀ i ∈ ns, i.natAbs.log2 ≤ 1048576 := by
  unfold PySem.W.WData.layableAll PySem.W.WData.layable at h
  simp only [List.all_cons, List.all_nil, Bool.and_true, Bool.and_eq_true, decide_eq_true_eq] at h
  have h := h.2
  have go : ∀ l : List Int, ∀ i ∈ l, i.natAbs.log2 ≤ PySem.W.WData.weightAll (l.map .int) := by
    intro l
    induction l with
    | nil => intro i hi; cases hi
    | cons j l ih =>
      intro i hi
      rw [List.map_cons, PySem.W.WData.weightAll]
      rcases List.mem_cons.mp hi with rfl | hi
      · rw [PySem.W.WData.weight]
        split
        · rename_i z
          rw [beq_iff_eq.mp z]
          show Nat.log2 0 ≤ _
          rw [show Nat.log2 0 = 0 by decide]
          exact Nat.zero_le _
        · omega
      · have := ih i hi
        omega
  intro i hi
  have h1 := go ns i hi
  rw [PySem.W.WData.weight] at h
  omega
theorem walk_S {l : PySem.W.OpenLaw} {n k m : Nat} {q : Program} {loose : List Str} {XP : (Str → Option Value) → Heap → Prop} {d : DefRec} {c : Cfg} {x : Str} (hn : l.most = some n) (hn2 : n ≤ sizeLine) (hdf : d.params.defaults = []) (hr : Room k callerA)
    (hc : c.defs.all DF.okB = true) (hpf : (c.xs.isEmpty || progB c.file l.prog) = true) (hp : oneParam c d.name x = true) (h : ∀ ns : List Int, ns.length ≤ n → (∀ i ∈ ns, i.natAbs.log2 ≤ 1048576) → ∃ st, c.run k d.name ns = .ok (.d (.bool true)) st) :
    PySem.W.WalkO q loose XP (hookS m c).says l.row.toRowW d [] (fun f vs => PySem.call f vs) := by
  intro w s₀ s₁ mg mb G Y f o pm cd doc dV kV ho hd hcd hD hmg hg args vals as hpre hlay hrd hwl hlo
  obtain ⟨a, vs, ns, e1, e2, hobj, hints, hlen⟩ := Att.script_of hn hpre hwl
  rw [e2] at hlay
  have hw := laid_small hlay
  subst e1 e2
  obtain ⟨K, KX, e⟩ := Y
  have M := held_of (P := l.prog) KX G.T.g e hc hpf
  obtain ⟨st, hF⟩ := h ns hlen hw
  unfold Cfg.run at hF
  cases q : c.tab k d.name with
  | none => rw [q] at hF; cases hF
  | some I =>
    rw [q] at hF
    obtain ⟨f', fd, h1, h2, h3, h4, h5, h6, h7⟩ := tab_ok (P := l.prog) (w := w) M k d.name I q
    rw [hmg] at h1
    cases h1
    have hps : I.ps = [x] := by
      unfold oneParam at hp
      cases k with
      | zero => cases q
      | succ k =>
        have q : (findD c.defs d.name).map (c.fi (c.tab k) k) = some I := q
        cases q2 : findD c.defs d.name with
        | none => rw [q2] at q; cases q
        | some D =>
          rw [q2] at q hp
          cases q
          exact of_decide_eq_true hp
    rw [hps] at h3 h5 h7
    have hb := binds_pos (K := K) h5 h6 h7
    have fin := end_call KX e.parts.2.1 G.T.g G.T.b G.T.builtins G.T.nolimit hg hobj hints (Nat.le_trans hlen hn2) hr (fun base _ => h3 base) (hb s₁ [.ref a] KX rfl) ⟨st, hF⟩
    refine PySem.W.enter_call (PySem.codeAny_mono fin fun r s' hq => ?_)
    obtain ⟨z1, z2, z3, z4⟩ := hq
    subst z1
    exact ⟨.inl ⟨.bool true, .bool true, [], rfl, fun _ => rfl, .bool true, Att.post_true l _, fun _ => ⟨List.Pairwise.nil, fun _ z => (nomatch z)⟩⟩, z2, z3, z4⟩
end Sr
/-! Steps of the small evaluator, for plain proofs. -/
namespace Sr
open PySem L2

section
variable {α β : Type} (fr : Fr) (st : Store)
@[simp] theorem bind_rok (a : α) (s : Store) (f : α → Store → Res β) : (Res.ok a s).bind f = f a s := rfl
@[simp] theorem bind_rbad (f : α → Store → Res β) : (Res.bad : Res α).bind f = .bad := rfl
@[simp] theorem lift_some (v : PV) (s : Store) : lift (some (v, s)) = .ok v s := rfl
@[simp] theorem noX_ok (a : α) (s : Store) : noX (Res.ok a s) = .ok a s := rfl
@[simp] theorem ofR_ok (a : α) (s : Store) (k : α → Store → RO) : ofR fr (Res.ok a s) k = k a s := rfl
@[simp] theorem x_dC (v : PyData) : dC v fr st = .ok (.d v) st := rfl
theorem x_var {i : Nat} {v : PV} (h : fr[i]? = some (some v)) : dVar i fr st = .ok v st := by unfold dVar; rw [h]
@[simp] theorem x_dOp (f : V2) (a b : Den) : dOp f a b fr st = (a fr st).bind fun v st1 => (b fr st1).bind fun w st2 => lift (f v w st2) := rfl
@[simp] theorem x_dUn (f : V1) (a : Den) : dUn f a fr st = (a fr st).bind fun v st1 => lift (f v st1) := rfl
@[simp] theorem x_dB (f : VB) (r : Dens) : dB f r fr st = (r fr st).bind fun vs st1 => lift (f vs st1) := rfl
@[simp] theorem x_nil : dNil fr st = .ok [] st := rfl
@[simp] theorem x_cons (d : Den) (r : Dens) : dCons d r fr st = (d fr st).bind fun v st1 => (r fr st1).bind fun vs st2 => .ok (v :: vs) st2 := rfl
@[simp] theorem x_call (F : List PV → Store → Res PV) (r : Dens) : dCall F r fr st = (r fr st).bind F := rfl
@[simp] theorem x_meth (T : Ty3) (f : VM) (o : Den) (r : Dens) : dMeth T f o r fr st = (o fr st).bind fun v st1 => if T.is v st1 then (r fr st1).bind fun vs st2 => lift (f v vs st2) else .bad := rfl
@[simp] theorem x_cmpT (d : Den) : dCmpT d fr st = (d fr st).bind fun v st1 => match vB v with
  | some k => .ok k st1
  | none => .bad := rfl
@[simp] theorem vB_bool (b : Bool) : vB (.d (.bool b)) = some b := rfl
@[simp] theorem x_seq (a b : DS) : sSeq a b fr st = match a fr st with
  | .nx fr1 st1 => b fr1 st1
  | r => r := rfl
@[simp] theorem x_if (c : DenT) (a b : DS) : sIf c a b fr st = ofR fr (c fr st) fun k st1 => if k then a fr st1 else b fr st1 := rfl
@[simp] theorem x_set (i : Nat) (d : Den) : sSet i d fr st = ofR fr (d fr st) fun v st1 => .nx (fr.set i (some v)) st1 := rfl
@[simp] theorem x_ret (d : Den) : sRet d fr st = ofR fr (d fr st) fun v st1 => .rt v st1 := rfl
@[simp] theorem x_expr (d : Den) : sExpr d fr st = ofR fr (d fr st) fun _ st1 => .nx fr st1 := rfl
@[simp] theorem x_next : sNext fr st = .nx fr st := rfl
@[simp] theorem x_asg (d : Den) (g : DG) : sAsg d g fr st = ofR fr (d fr st) fun v st1 => match g v fr st1 with
  | some (fr2, st2) => .nx fr2 st2
  | none => .bad := rfl
@[simp] theorem x_gslot (i : Nat) (v : PV) : gSlot i v fr st = some (fr.set i (some v), st) := rfl
@[simp] theorem x_gsub (a b : Den) (v : PV) : gSubC a b v fr st = match a fr st with
  | .ok o st1 => match b fr st1 with
    | .ok i st2 => (vSetC o i v st2).map fun st3 => (fr, st3)
    | _ => none
  | _ => none := rfl
theorem x_dict (m : Bool) (ps : List (Den × Den)) : dDict m ps fr st = (dPairs ps fr st).bind fun ws st1 => match keysOf ws with
  | some kvs => if kvs.length ≤ 15 then lift (newD m (mergeP [] kvs) st1) else .bad
  | none => .bad := rfl
theorem x_pairs (a b : Den) (r : List (Den × Den)) : dPairs ((a, b) :: r) fr st = (a fr st).bind fun k st1 => (b fr st1).bind fun v st2 => (dPairs r fr st2).bind fun ps st3 => .ok ((k, v) :: ps) st3 := rfl
@[simp] theorem ret_rt (v : PV) (s : Store) : retF (.rt v s) = .ok v s := rfl
@[simp] theorem ret_nx (s : Store) : retF (.nx fr s) = .ok (.d .none) s := rfl
end
section
variable (i j : Int) (st : Store) (m : Bool)
@[simp] theorem add_int : vAdd m (.d (.int i)) (.d (.int j)) st = some (.d (.int (i + j)), st) := rfl
@[simp] theorem sub_int : vSub (.d (.int i)) (.d (.int j)) st = some (.d (.int (i - j)), st) := rfl
theorem mul_int' (h : i.natAbs.log2 + j.natAbs.log2 < 100000000) : vMul (.d (.int i)) (.d (.int j)) st = some (.d (.int (i * j)), st) := by
  have e : vMul2P false (.d (.int i)) (.d (.int j)) st = some (.d (.int (i * j)), st) := by
    show (if mulOk i j = true then _ else _) = _
    rw [show mulOk i j = true from decide_eq_true h]
    rfl
  unfold vMul vMul2
  rw [e]
theorem mod_int' (h : 0 < j) : vMod (.d (.int i)) (.d (.int j)) st = some (.d (.int (i % j)), st) := by
  show ((if 0 < j then some (i % j) else none).map fun k => (PV.d (.int k), st)) = _
  rw [if_pos h]
  rfl
theorem div_int' (h : 0 < j) (h2 : j.natAbs.log2 < 9000) : vDiv (.d (.int i)) (.d (.int j)) st = some (.d (.int (i / j)), st) := by
  show ((if (decide (0 < j) && decide (j.natAbs.log2 < 9000)) = true then some (i / j) else none).map fun k => (PV.d (.int k), st)) = _
  rw [if_pos (by simp [h, h2])]
  rfl
@[simp] theorem lt_int' : vLt (.d (.int i)) (.d (.int j)) st = some (.d (.bool (decide (i < j))), st) := rfl
@[simp] theorem cmpI_int (f : Int → Int → Bool) : vCmpI f (.d (.int i)) (.d (.int j)) st = some (.d (.bool (f i j)), st) := rfl
end
/-- numbers of few bits -/
theorem log2_le {n k : Nat} (h : n < 2 ^ k) : n.log2 ≤ k := by
  by_cases z : n = 0
  · subst z
    rw [show Nat.log2 0 = 0 by decide]
    exact Nat.zero_le _
  · exact Nat.le_of_lt ((Nat.log2_lt z).mpr h)

/-! ints in lists -/
def intL (l : List Int) : List PV := l.map fun i => .d (.int i)
theorem intL_data (l : List Int) : intL l = (l.map PyData.int).map .d := by
  unfold intL
  rw [List.map_map]
  rfl
theorem frz_ints (k : Nat) (st : Store) (l : List Int) : frzL (frz k st) (intL l) = some (l.map .int) := by
  have h : ∀ (x : PyData), frz k st (.d x) = some x := fun x => by cases k <;> rfl
  induction l with
  | nil => rfl
  | cons i l ih =>
    show (match frz k st (.d (.int i)) with
      | some d => (frzL (frz k st) (intL l)).map (d :: ·)
      | none => none) = _
    rw [h, ih]
    rfl
theorem plain_ints (l : List Int) : PyData.plainAll (l.map .int) = true := by
  induction l with
  | nil => rfl
  | cons i l ih => rw [List.map_cons, PyData.plainAll, ih]; rfl
theorem eqv_nil (l : List Int) : PyData.eqv (.list (l.map .int)) (.list []) = l.isEmpty := by
  cases l <;> rfl
theorem vEq_P {neg : Bool} {v w : PV} {st : Store} {r : PV × Store} (h : vEqP neg v w st = some r) : vEq neg v w st = some r := by
  unfold vEq
  rw [h]
/-- a list of ints in a cell, beside [] -/
theorem ne_nil {st : Store} {n : Nat} {l : List Int} (h : st[n]? = some (.lst (intL l))) : vEq true (.cell n) (.d (.list [])) st = some (.d (.bool (!l.isEmpty)), st) := by
  have e : frz 6 st (.cell n) = some (.list (l.map .int)) := by
    show (match st[n]? with
      | some (.lst xs) => (frzL (frz 5 st) xs).map PyData.list
      | some (.dic kvs) => (frzL (frz 5 st) (kvs.map (fun p : Key × PV => p.2))).map fun ds => PyData.dict ((kvs.map fun p : Key × PV => keyD p.1).zip ds)
      | _ => none) = _
    rw [h]
    show (frzL (frz 5 st) (intL l)).map PyData.list = _
    rw [frz_ints]
    rfl
  refine vEq_P ?_
  unfold vEqP cmpD
  rw [e]
  show (match (if (PyData.plain (.list (l.map .int)) && PyData.plain (.list []) && decide (min (PyData.depth (.list (l.map .int))) (PyData.depth (.list [])) ≤ 100)) = true then some ((PyData.list (l.map .int)), PyData.list []) else none) with
    | some (d, e) => vB2 (if true = true then !PyData.eqv d e else PyData.eqv d e) st
    | none => none) = _
  have hp : PyData.plain (.list (l.map .int)) = true := by rw [PyData.plain]; exact plain_ints l
  have hd : min (PyData.depth (.list (l.map .int))) (PyData.depth (.list [])) ≤ 100 := Nat.le_trans (Nat.min_le_right _ _) (by decide)
  rw [hp, decide_eq_true hd]
  show vB2 (!PyData.eqv (.list (l.map .int)) (.list [])) st = _
  rw [eqv_nil]
  rfl

/-! comprehensions over data -/
theorem loopC_all {i : Nat} {e : Den} {fr0 : Fr} {st : Store} {g : PV → PV} : ∀ {xs : List PV}, (∀ v ∈ xs, e (fr0.set i (some v)) st = .ok (g v) st) → loopC (.one i) dYes e fr0 xs st = .ok (xs.map g) st
  | [], _ => rfl
  | v :: xs, h => by
    show (turnC (.one i) dYes e fr0 v st).bind _ = _
    have : turnC (.one i) dYes e fr0 v st = .ok (some (g v)) st := by
      show (noX (e (fr0.set i (some v)) st)).bind (fun y st2 => Res.ok (some y) st2) = _
      rw [h v List.mem_cons_self]
      rfl
    rw [this]
    show (loopC (.one i) dYes e fr0 xs st).bind _ = _
    rw [loopC_all fun w hw => h w (List.mem_cons_of_mem _ hw)]
    rfl
theorem loopC_some {i : Nat} {c : DenT} {e : Den} {fr0 : Fr} {st : Store} {p : PV → Bool} {g : PV → PV} : ∀ {xs : List PV}, (∀ v ∈ xs, c (fr0.set i (some v)) st = .ok (p v) st) → (∀ v ∈ xs, e (fr0.set i (some v)) st = .ok (g v) st) →
    loopC (.one i) c e fr0 xs st = .ok ((xs.filter p).map g) st
  | [], _, _ => rfl
  | v :: xs, h, k => by
    show (turnC (.one i) c e fr0 v st).bind _ = _
    have : turnC (.one i) c e fr0 v st = .ok (if p v then some (g v) else none) st := by
      show (noX (c (fr0.set i (some v)) st)).bind _ = _
      rw [h v List.mem_cons_self]
      show (if p v = true then (noX (e (fr0.set i (some v)) st)).bind _ else Res.ok none st) = _
      cases p v with
      | true =>
        rw [if_pos rfl, if_pos rfl, k v List.mem_cons_self]
        rfl
      | false => rfl
    rw [this]
    show (loopC (.one i) c e fr0 xs st).bind _ = _
    rw [loopC_some (fun w hw => h w (List.mem_cons_of_mem _ hw)) fun w hw => k w (List.mem_cons_of_mem _ hw)]
    cases q : p v with
    | true => rw [List.filter_cons_of_pos q]; rfl
    | false => rw [List.filter_cons_of_neg (by rw [q]; decide)]; rfl
/-- a loop over values that keeps an invariant and does not leave -/
theorem loopV_inv {g : DG} {b : DS} {P : Fr → Store → Prop} : ∀ {xs : List PV}, (∀ v ∈ xs, ∀ fr st, P fr st → ∃ fr' st', (turnS g b v fr st = .nx fr' st' ∨ turnS g b v fr st = .ct fr' st') ∧ P fr' st') → ∀ {fr st}, P fr st → ∃ fr' st', loopV g b xs fr st = .nx fr' st' ∧ P fr' st'
  | [], _, fr, st, h => ⟨fr, st, rfl, h⟩
  | v :: xs, k, fr, st, h => by
    obtain ⟨fr1, st1, e, h1⟩ := k v List.mem_cons_self fr st h
    obtain ⟨fr2, st2, e2, h2⟩ := loopV_inv (fun w hw => k w (List.mem_cons_of_mem _ hw)) h1
    refine ⟨fr2, st2, ?_, h2⟩
    show behind (turnS g b v fr st) (loopV g b xs) = _
    rcases e with e | e <;> rw [e] <;> exact e2
/-- what a comprehension hands over -/
def fromYs (m : Bool) (ys : List PV) (st : Store) : Res PV := if m then .ok (.cell st.length) (st ++ [.lst ys]) else match datas ys with
  | some ds => .ok (.d (.list ds)) st
  | none => .bad
theorem dComp_all {m : Bool} {i : Nat} {vs : List Nat} {d : DI} {e : Den} {fr : Fr} {st : Store} {xs : List PV} {g : PV → PV} (hd : d fr st = .ok (.vals xs) st) (hz : xs.length ≤ 1000000) (he : ∀ v ∈ xs, e ((wipeF fr vs).set i (some v)) st = .ok (g v) st) :
    dComp m (.one i) vs d dYes e fr st = fromYs m (xs.map g) st := by
  unfold dComp
  rw [hd]
  show ((if sizeOk xs.length = true then loopC (.one i) dYes e (wipeF fr vs) xs st else .bad).bind _) = _
  rw [if_pos (show sizeOk xs.length = true from decide_eq_true hz), loopC_all he]
  rfl
theorem dComp_some {m : Bool} {i : Nat} {vs : List Nat} {d : DI} {c : DenT} {e : Den} {fr : Fr} {st : Store} {xs : List PV} {p : PV → Bool} {g : PV → PV} (hd : d fr st = .ok (.vals xs) st) (hz : xs.length ≤ 1000000) (hc : ∀ v ∈ xs, c ((wipeF fr vs).set i (some v)) st = .ok (p v) st)
    (he : ∀ v ∈ xs, e ((wipeF fr vs).set i (some v)) st = .ok (g v) st) : dComp m (.one i) vs d c e fr st = fromYs m ((xs.filter p).map g) st := by
  unfold dComp
  rw [hd]
  show ((if sizeOk xs.length = true then loopC (.one i) c e (wipeF fr vs) xs st else .bad).bind _) = _
  rw [if_pos (show sizeOk xs.length = true from decide_eq_true hz), loopC_some hc he]
  rfl
theorem fromYs_ints (l : List Int) (st : Store) : fromYs false (intL l) st = .ok (.d (.list (l.map .int))) st := by
  unfold fromYs
  rw [if_neg (by decide), intL_data, datas_map]
theorem fromYs_cell (ys : List PV) (st : Store) : fromYs true ys st = .ok (.cell st.length) (st ++ [.lst ys]) := rfl
/-- xs[:k] -/
theorem cut_to {α : Type} (xs : List α) {k : Nat} (h : xs.length ≤ k) : cutL xs none (some (k : Int)) = xs := by
  unfold cutL
  rw [HT.sIx_none, HT.sIx_nat, List.drop_zero, Nat.sub_zero]
  exact List.take_of_length_le (by omega)
theorem slice_ints (l : List Int) {k : Nat} (h : l.length ≤ k) (st : Store) : vSl false (.d (.list (l.map .int))) none (some (k : Int)) st = some (.d (.list (l.map .int)), st) := by
  show newL false (cutL ((l.map PyData.int).map PV.d) none (some (k : Int))) st = _
  rw [cut_to _ (by simpa using h)]
  show (if false = true then _ else match datas ((l.map PyData.int).map PV.d) with
    | some ds => some (PV.d (.list ds), st)
    | none => none) = _
  rw [if_neg (by decide), datas_map]
/-- what stands in the walk of a list of ints -/
theorem it_ints {d : Den} {fr : Fr} {st : Store} {l : List Int} (h : d fr st = .ok (.d (.list (l.map .int))) st) : dIt d fr st = .ok (.vals (intL l)) st := by
  unfold dIt
  rw [h, intL_data]
  rfl
theorem intL_map (l : List Int) (f : Int → Int) (g : PV → PV) (h : ∀ i ∈ l, g (.d (.int i)) = .d (.int (f i))) : (intL l).map g = intL (l.map f) := by
  unfold intL
  rw [List.map_map, List.map_map]
  exact List.map_congr_left fun i hi => h i hi
theorem intL_filter (l : List Int) (f : Int → Bool) (p : PV → Bool) (h : ∀ i ∈ l, p (.d (.int i)) = f i) : (intL l).filter p = intL (l.filter f) := by
  induction l with
  | nil => rfl
  | cons i l ih =>
    have h1 := h i List.mem_cons_self
    have h2 := ih fun j hj => h j (List.mem_cons_of_mem _ hj)
    show List.filter p (.d (.int i) :: intL l) = intL (List.filter f (i :: l))
    cases q : f i with
    | true => rw [List.filter_cons_of_pos (by rw [h1, q]), List.filter_cons_of_pos q, h2]; rfl
    | false => rw [List.filter_cons_of_neg (by rw [h1, q]; decide), List.filter_cons_of_neg (by rw [q]; decide), h2]
theorem intL_mem {l : List Int} {v : PV} (h : v ∈ intL l) : ∃ i ∈ l, v = .d (.int i) := by
  obtain ⟨i, hi, e⟩ := List.mem_map.mp h
  exact ⟨i, hi, e.symm⟩
@[simp] theorem intL_length (l : List Int) : (intL l).length = l.length := List.length_map ..
def pInt : PV → Int
  | .d (.int i) => i
  | _ => 0
end Sr
/-! Steps of the small evaluator over data; loops; what can be shown. -/
namespace Sr
open PySem L2

abbrev CF := Str → List PV → Store → Res PV

/-! ### data -/
@[simp] theorem datas_nil : datas [] = some [] := rfl
@[simp] theorem datas_cons (x : PyData) (r : List PV) : datas (.d x :: r) = (datas r).map (x :: ·) := rfl
@[simp] theorem mkTup_data (l : List PyData) : mkTup (l.map .d) = .d (.tuple l) := by unfold mkTup; rw [datas_map]
@[simp] theorem mkTup_nil : mkTup [] = .d (.tuple []) := rfl
@[simp] theorem mkTup_one (a : PyData) : mkTup [.d a] = .d (.tuple [a]) := rfl
@[simp] theorem mkTup_two (a b : PyData) : mkTup [.d a, .d b] = .d (.tuple [a, b]) := rfl
@[simp] theorem mkTup_three (a b c : PyData) : mkTup [.d a, .d b, .d c] = .d (.tuple [a, b, c]) := rfl
@[simp] theorem mkTup_four (a b c e : PyData) : mkTup [.d a, .d b, .d c, .d e] = .d (.tuple [a, b, c, e]) := rfl
@[simp] theorem mkTup_five (a b c e f : PyData) : mkTup [.d a, .d b, .d c, .d e, .d f] = .d (.tuple [a, b, c, e, f]) := rfl
@[simp] theorem frz_d (k : Nat) (st : Store) (x : PyData) : frz k st (.d x) = some x := by cases k <;> rfl
@[simp] theorem isData_d (x : PyData) : isData (.d x) = true := rfl
@[simp] theorem sizeOk_lit (n : Nat) : sizeOk n = decide (n ≤ 1000000) := rfl
theorem all_data (l : List PyData) : (l.map PV.d).all isData = true := by rw [List.all_map]; exact List.all_eq_true.mpr fun _ _ => rfl
theorem frzL_data (k : Nat) (st : Store) (l : List PyData) : frzL (frz k st) (l.map .d) = some l := by
  induction l with
  | nil => rfl
  | cons x l ih =>
    show (match frz k st (.d x) with
      | some d => (frzL (frz k st) (l.map .d)).map (d :: ·)
      | none => none) = _
    rw [frz_d, ih]
    rfl
theorem frz_lst {k : Nat} {st : Store} {n : Nat} {l : List PyData} (h : st[n]? = some (.lst (l.map .d))) : frz (k + 1) st (.cell n) = some (.list l) := by
  show (match st[n]? with
    | some (.lst xs) => (frzL (frz k st) xs).map PyData.list
    | some (.dic kvs) => (frzL (frz k st) (kvs.map (fun p : Key × PV => p.2))).map fun ds => PyData.dict ((kvs.map fun p : Key × PV => keyD p.1).zip ds)
    | _ => none) = _
  rw [h]
  show (frzL (frz k st) (l.map .d)).map PyData.list = _
  rw [frzL_data]
  rfl

/-! ### calls in a store of their own -/
theorem iso_of {F : List PV → Store → Res PV} {vs : List PV} {d : PyData} {st' st : Store} (hv : vs.all isData = true) (h : F vs [] = .ok (.d d) st') : isoF F vs st = .ok (.d d) st := by
  unfold isoF
  rw [if_pos hv, h]
  rfl
theorem iso_cell {F : List PV → Store → Res PV} {vs : List PV} {v : PV} {d : PyData} {st' st : Store} (hv : vs.all isData = true) (h : F vs [] = .ok v st') (hd : frz 6 st' v = some d) : isoF F vs st = .ok (.d d) st := by
  unfold isoF
  rw [if_pos hv, h]
  dsimp only
  rw [hd]
theorem iso_exc {F : List PV → Store → Res PV} {vs : List PV} {e : PX} {st' st : Store} (hv : vs.all isData = true) (h : F vs [] = .exc e st') (hd : (e.fs.all fun p => isData p.2) = true) : isoF F vs st = .exc e st := by
  unfold isoF
  rw [if_pos hv, h]
  dsimp only
  rw [if_pos hd]

/-! ### steps -/
section
variable {α β : Type} (fr : Fr) (st : Store)
@[simp] theorem bind_rexc (e : PX) (s : Store) (f : α → Store → Res β) : (Res.exc e s : Res α).bind f = .exc e s := rfl
@[simp] theorem var_zero (v : PV) (r : Fr) : dVar 0 (some v :: r) st = .ok v st := rfl
@[simp] theorem var_succ (i : Nat) (x : Option PV) (r : Fr) : dVar (i + 1) (x :: r) st = dVar i r st := rfl
@[simp] theorem x_tup (d : Dens) : dTup d fr st = (d fr st).bind fun vs st1 => if sizeOk vs.length then .ok (mkTup vs) st1 else .bad := rfl
@[simp] theorem x_lst (d : Dens) : dLst d fr st = (d fr st).bind fun vs st1 => match datas vs with
  | some ds => if sizeOk vs.length then .ok (.d (.list ds)) st1 else .bad
  | none => .bad := rfl
@[simp] theorem x_lstC (d : Dens) : dLstC d fr st = (d fr st).bind fun vs st1 => if sizeOk vs.length then .ok (.cell st1.length) (st1 ++ [.lst vs]) else .bad := rfl
@[simp] theorem x_truth (d : Den) : dTruth d fr st = (d fr st).bind fun v st1 => match vTru v st1 with
  | some k => .ok k st1
  | none => .bad := rfl
@[simp] theorem x_notT (d : DenT) : dNotT d fr st = (d fr st).bind fun b st1 => .ok (!b) st1 := rfl
@[simp] theorem x_andT (a b : DenT) : dAndT a b fr st = (a fr st).bind fun k st1 => if k then b fr st1 else .ok false st1 := rfl
@[simp] theorem x_orT (a b : DenT) : dOrT a b fr st = (a fr st).bind fun k st1 => if k then .ok true st1 else b fr st1 := rfl
@[simp] theorem x_and (a b : Den) : dAnd a b fr st = (a fr st).bind fun v st1 => match vTru v st1 with
  | some true => b fr st1
  | some false => .ok v st1
  | none => .bad := rfl
@[simp] theorem x_or (a b : Den) : dOr a b fr st = (a fr st).bind fun v st1 => match vTru v st1 with
  | some true => .ok v st1
  | some false => b fr st1
  | none => .bad := rfl
@[simp] theorem x_not (a : Den) : dNot a fr st = (a fr st).bind fun v st1 => match vTru v st1 with
  | some k => .ok (.d (.bool (!k))) st1
  | none => .bad := rfl
@[simp] theorem x_ifE (c : DenT) (a b : Den) : dIf c a b fr st = (c fr st).bind fun k st1 => if k then a fr st1 else b fr st1 := rfl
@[simp] theorem x_yes : dYes fr st = .ok true st := rfl
@[simp] theorem x_sl (f : VS) (d : Den) (l u : DO) : dSl f d l u fr st = (d fr st).bind fun v st1 => (l fr st1).bind fun lo st2 => (u fr st2).bind fun hi st3 => lift (f v lo hi st3) := rfl
@[simp] theorem x_noPart : dNoPart fr st = .ok none st := rfl
@[simp] theorem x_part (d : Den) : dPart d fr st = (d fr st).bind fun v st1 => match v with
  | .d (.int i) => .ok (some i) st1
  | _ => .bad := rfl
@[simp] theorem x_callK (F : List PV → Store → Res PV) (r rk : Dens) (os : List Nat) : dCallK F r rk os fr st = (r fr st).bind fun vs st1 => (rk fr st1).bind fun zs st2 => F (vs ++ inOrder zs os) st2 := rfl
@[simp] theorem x_chain (f g : V2) (a b c : Den) : dChain f g a b c fr st = (a fr st).bind fun v st1 => (b fr st1).bind fun w st2 => (lift (f v w st2)).bind fun z st3 => match vB z with
  | some true => (c fr st3).bind fun u st4 => lift (g w u st4)
  | some false => .ok (.d (.bool false)) st3
  | none => .bad := rfl
@[simp] theorem x_spar (is : List Nat) (r : Dens) : sPar is r fr st = ofR fr (r fr st) fun vs st1 => match setAll is vs fr with
  | some fr1 => .nx fr1 st1
  | none => .bad := rfl
@[simp] theorem setAll_nil : setAll [] [] fr = some fr := rfl
@[simp] theorem setAll_cons (i : Nat) (is : List Nat) (v : PV) (vs : List PV) : setAll (i :: is) (v :: vs) fr = setAll is vs (fr.set i (some v)) := rfl
@[simp] theorem x_gtupl (n : Nat) (r : DGs) (v : PV) : gTupl n r v fr st = match tupItems v with
  | some xs => if xs.length = n then r xs fr st else none
  | none => none := rfl
@[simp] theorem x_gscons (g : DG) (r : DGs) (v : PV) (vs : List PV) : gsCons g r (v :: vs) fr st = match g v fr st with
  | some (fr1, st1) => r vs fr1 st1
  | none => none := rfl
@[simp] theorem x_gsnil : gsNil [] fr st = some (fr, st) := rfl
@[simp] theorem tupItems_d (l : List PyData) : tupItems (.d (.tuple l)) = some (l.map .d) := rfl
@[simp] theorem x_retN : sRetN fr st = .rt (.d .none) st := rfl
@[simp] theorem x_brk : sBreak fr st = .bk fr st := rfl
@[simp] theorem x_cont : sCont fr st = .ct fr st := rfl
@[simp] theorem ofR_exc (e : PX) (s : Store) (k : α → Store → RO) : ofR fr (Res.exc e s : Res α) k = .ex e fr s := rfl
@[simp] theorem ofR_bad (k : α → Store → RO) : ofR fr (Res.bad : Res α) k = .bad := rfl
@[simp] theorem ret_ex (e : PX) (s : Store) : retF (.ex e fr s) = .exc e s := rfl
@[simp] theorem behind_nx (s : Store) (k : DS) : behind (.nx fr s) k = k fr s := rfl
@[simp] theorem behind_ct (s : Store) (k : DS) : behind (.ct fr s) k = k fr s := rfl
@[simp] theorem behind_bk (s : Store) (k : DS) : behind (.bk fr s) k = .nx fr s := rfl
@[simp] theorem behind_rt (v : PV) (s : Store) (k : DS) : behind (.rt v s) k = .rt v s := rfl
end
theorem inOrder_one (a : PV) : inOrder [a] [0] = [a] := rfl
/-- a for over values -/
theorem for_vals {d : DI} {g : DG} {b : DS} {fr : Fr} {st st1 : Store} {xs : List PV} (h : d fr st = .ok (.vals xs) st1) : sFor d g b fr st = loopV g b xs fr st1 := by
  unfold sFor
  rw [h]
  rfl
theorem it_tup {d : Den} {fr : Fr} {st st1 : Store} {l : List PyData} (h : d fr st = .ok (.d (.tuple l)) st1) : dIt d fr st = .ok (.vals (l.map .d)) st1 := by
  unfold dIt
  rw [h]
  rfl
theorem it_lst {d : Den} {fr : Fr} {st st1 : Store} {l : List PyData} (h : d fr st = .ok (.d (.list l)) st1) : dIt d fr st = .ok (.vals (l.map .d)) st1 := by
  unfold dIt
  rw [h]
  rfl
theorem enum_tup' {r : Dens} {fr : Fr} {st st1 : Store} {l : List PyData} (h : r fr st = .ok [.d (.tuple l)] st1) : dEnum2 r fr st = .ok (.vals ((l.zipIdx.map fun p => PyData.tuple [.int (p.2 : Nat), p.1]).map .d)) st1 := by
  unfold dEnum2
  rw [h]
  show Res.ok (Src.vals (enumVals (l.map .d))) st1 = _
  unfold enumVals
  rw [List.zipIdx_map, List.map_map, List.map_map]
  rfl
theorem enum_lst' {r : Dens} {fr : Fr} {st st1 : Store} {l : List PyData} (h : r fr st = .ok [.d (.list l)] st1) : dEnum2 r fr st = .ok (.vals ((l.zipIdx.map fun p => PyData.tuple [.int (p.2 : Nat), p.1]).map .d)) st1 := by
  unfold dEnum2
  rw [h]
  show Res.ok (Src.vals (enumVals (l.map .d))) st1 = _
  unfold enumVals
  rw [List.zipIdx_map, List.map_map, List.map_map]
  rfl

/-! ### values -/
section
variable (st : Store) (m : Bool)
theorem atI_map {α β : Type} (f : α → β) (l : List α) (k : Int) : atI (l.map f) k = (atI l k).map f := by
  unfold atI
  rw [List.length_map]
  cases ixN l.length k with
  | none => rfl
  | some j => simp
theorem idx_tup (l : List PyData) (k : Int) : vIdx (.d (.tuple l)) (.d (.int k)) st = (atI l k).map fun v => (PV.d v, st) := by
  show (atI (l.map PV.d) k).map (fun v => (v, st)) = _
  rw [atI_map, Option.map_map]
  rfl
theorem idx_lst (l : List PyData) (k : Int) : vIdx (.d (.list l)) (.d (.int k)) st = (atI l k).map fun v => (PV.d v, st) := by
  show (atI (l.map PV.d) k).map (fun v => (v, st)) = _
  rw [atI_map, Option.map_map]
  rfl
theorem ixN_nat {n i : Nat} (h : i < n) : ixN n (i : Int) = some i := by
  unfold ixN
  rw [if_pos (by omega)]
  simp [h]
theorem atI_nat' {α : Type} {l : List α} {i : Nat} (h : i < l.length) : atI l (i : Int) = l[i]? := by
  unfold atI
  rw [ixN_nat h]
  rfl
@[simp] theorem idx_0 (a : PyData) (l : List PyData) : vIdx (.d (.tuple (a :: l))) (.d (.int 0)) st = some (.d a, st) := by
  rw [idx_tup, show (0 : Int) = ((0 : Nat) : Int) from rfl, atI_nat' (by simp)]; rfl
@[simp] theorem idx_1 (a b : PyData) (l : List PyData) : vIdx (.d (.tuple (a :: b :: l))) (.d (.int 1)) st = some (.d b, st) := by
  rw [idx_tup, show (1 : Int) = ((1 : Nat) : Int) from rfl, atI_nat' (by simp)]; rfl
@[simp] theorem idx_2 (a b c : PyData) (l : List PyData) : vIdx (.d (.tuple (a :: b :: c :: l))) (.d (.int 2)) st = some (.d c, st) := by
  rw [idx_tup, show (2 : Int) = ((2 : Nat) : Int) from rfl, atI_nat' (by simp)]; rfl
@[simp] theorem idx_3 (a b c e : PyData) (l : List PyData) : vIdx (.d (.tuple (a :: b :: c :: e :: l))) (.d (.int 3)) st = some (.d e, st) := by
  rw [idx_tup, show (3 : Int) = ((3 : Nat) : Int) from rfl, atI_nat' (by simp)]; rfl
@[simp] theorem idx_4 (a b c e f : PyData) (l : List PyData) : vIdx (.d (.tuple (a :: b :: c :: e :: f :: l))) (.d (.int 4)) st = some (.d f, st) := by
  rw [idx_tup, show (4 : Int) = ((4 : Nat) : Int) from rfl, atI_nat' (by simp)]; rfl
@[simp] theorem len_tup (l : List PyData) : vLen [.d (.tuple l)] st = some (.d (.int l.length), st) := by
  show some (PV.d (.int ((l.map PV.d).length : Nat)), st) = _
  rw [List.length_map]
@[simp] theorem len_lst (l : List PyData) : vLen [.d (.list l)] st = some (.d (.int l.length), st) := by
  show some (PV.d (.int ((l.map PV.d).length : Nat)), st) = _
  rw [List.length_map]
@[simp] theorem tupOf_lst (l : List PyData) : vTupOf [.d (.list l)] st = some (.d (.tuple l), st) := by
  show (if isList (.d (.list l)) st then (some (l.map PV.d)).map fun xs => (mkTup xs, st) else none) = _
  rw [if_pos (show isList (.d (.list l)) st = true from rfl)]
  show some (mkTup (l.map PV.d), st) = _
  rw [mkTup_data]
@[simp] theorem tupOf_tup (l : List PyData) : vTupOf [.d (.tuple l)] st = some (.d (.tuple l), st) := rfl
theorem cutL_map {α β : Type} (f : α → β) (l : List α) (lo hi : Option Int) : cutL (l.map f) lo hi = (cutL l lo hi).map f := by
  unfold cutL
  rw [List.length_map, List.map_take, List.map_drop]
@[simp] theorem sl_tup (l : List PyData) (lo hi : Option Int) : vSl m (.d (.tuple l)) lo hi st = some (.d (.tuple (cutL l lo hi)), st) := by
  show some (mkTup (cutL (l.map PV.d) lo hi), st) = _
  rw [cutL_map, mkTup_data]
@[simp] theorem sl_lst (l : List PyData) (lo hi : Option Int) : vSl false (.d (.list l)) lo hi st = some (.d (.list (cutL l lo hi)), st) := by
  show newL false (cutL (l.map PV.d) lo hi) st = _
  rw [cutL_map]
  show (if false = true then _ else match datas ((cutL l lo hi).map PV.d) with
    | some ds => some (PV.d (.list ds), st)
    | none => none) = _
  rw [if_neg (by decide), datas_map]
theorem cut_pre {α : Type} (l : List α) (k : Nat) : cutL l none (some (k : Int)) = l.take k := by
  unfold cutL
  rw [HT.sIx_none, HT.sIx_nat, List.drop_zero, Nat.sub_zero]
  by_cases h : k ≤ l.length
  · rw [Nat.min_eq_left h]
  · rw [Nat.min_eq_right (by omega), List.take_of_length_le (Nat.le_refl _), List.take_of_length_le (by omega)]
theorem cut_suf {α : Type} (l : List α) (k : Nat) : cutL l (some (k : Int)) none = l.drop k := by
  unfold cutL
  rw [HT.sIx_none, HT.sIx_nat]
  by_cases h : k ≤ l.length
  · rw [Nat.min_eq_left h, List.take_of_length_le (by simp)]
  · rw [Nat.min_eq_right (by omega), List.drop_of_length_le (Nat.le_refl _), List.drop_of_length_le (by omega)]
    simp
@[simp] theorem add_tup (a b : List PyData) : vAdd m (.d (.tuple a)) (.d (.tuple b)) st = if a.length + b.length ≤ 1000000 then some (.d (.tuple (a ++ b)), st) else none := by
  show (if sizeOk ((a.map PV.d).length + (b.map PV.d).length) = true then some (mkTup (a.map PV.d ++ b.map PV.d), st) else none) = _
  rw [← List.map_append, mkTup_data, List.length_map, List.length_map]
  simp
@[simp] theorem add_lst (a b : List PyData) : vAdd false (.d (.list a)) (.d (.list b)) st = if a.length + b.length ≤ 1000000 then some (.d (.list (a ++ b)), st) else none := by
  show (if sizeOk ((a.map PV.d).length + (b.map PV.d).length) = true then newL false (a.map PV.d ++ b.map PV.d) st else none) = _
  have e : newL false (a.map PV.d ++ b.map PV.d) st = some (.d (.list (a ++ b)), st) := by
    rw [← List.map_append]
    unfold newL
    rw [if_neg (by decide), datas_map]
  rw [e, List.length_map, List.length_map]
  simp
@[simp] theorem tru_bool (b : Bool) : vTru (.d (.bool b)) st = some b := rfl
@[simp] theorem tru_none : vTru (.d .none) st = some false := rfl
@[simp] theorem tru_int (i : Int) : vTru (.d (.int i)) st = some (i != 0) := rfl
@[simp] theorem tru_tup (l : List PyData) : vTru (.d (.tuple l)) st = some (!l.isEmpty) := rfl
@[simp] theorem tru_lst (l : List PyData) : vTru (.d (.list l)) st = some (!l.isEmpty) := rfl
@[simp] theorem eq_int (neg : Bool) (i j : Int) : vEq neg (.d (.int i)) (.d (.int j)) st = some (.d (.bool (if neg then !decide (i = j) else decide (i = j))), st) := by
  have : (i == j) = decide (i = j) := by by_cases h : i = j <;> simp [h]
  show some (PV.d (.bool (if neg then !(i == j) else (i == j))), st) = _
  rw [this]
@[simp] theorem eq_str (neg : Bool) (i j : Str) : vEq neg (.d (.str i)) (.d (.str j)) st = some (.d (.bool (if neg then !decide (i = j) else decide (i = j))), st) := by
  have : (i == j) = decide (i = j) := by by_cases h : i = j <;> simp [h]
  show some (PV.d (.bool (if neg then !(i == j) else (i == j))), st) = _
  rw [this]
theorem eq_data (neg : Bool) {a b : PyData} (ha : a.plain = true) (hb : b.plain = true) (hd : min a.depth b.depth ≤ 100) : vEq neg (.d a) (.d b) st = some (.d (.bool (if neg then !PyData.eqv a b else PyData.eqv a b)), st) := by
  refine vEq_P ?_
  unfold vEqP cmpD
  rw [frz_d, frz_d]
  dsimp only
  rw [if_pos (by rw [ha, hb]; simpa using hd)]
  rfl
theorem eqv_self {a : PyData} (ha : a.plain = true) : PyData.eqv a a = true := PySem.SeqAt.eqv_refl_plain a ha
@[simp] theorem is_none (x : PyData) (neg : Bool) : vIs neg (.d x) (.d .none) st = some (.d (.bool (xor neg (isNonV (.d x)))), st) := rfl
theorem isNonV_d (x : PyData) : isNonV (.d x) = isNoneD x := by cases x <;> rfl
end

@[simp] theorem plain_none : PyData.plain .none = true := rfl
@[simp] theorem plain_bool (b : Bool) : PyData.plain (.bool b) = true := rfl
@[simp] theorem plain_int (b : Int) : PyData.plain (.int b) = true := rfl
@[simp] theorem plain_str (b : Str) : PyData.plain (.str b) = true := rfl
@[simp] theorem plain_tup (l : List PyData) : PyData.plain (.tuple l) = PyData.plainAll l := by rw [PyData.plain]
@[simp] theorem plain_lst (l : List PyData) : PyData.plain (.list l) = PyData.plainAll l := by rw [PyData.plain]
@[simp] theorem plainAll_nil : PyData.plainAll [] = true := rfl
@[simp] theorem plainAll_cons' (x : PyData) (l : List PyData) : PyData.plainAll (x :: l) = (x.plain && PyData.plainAll l) := by rw [PyData.plainAll]
theorem eq_nilL (neg : Bool) (st : Store) {l : List PyData} (h : PyData.plainAll l = true) : vEq neg (.d (.list l)) (.d (.list [])) st = some (.d (.bool (if neg then !l.isEmpty else l.isEmpty)), st) := by
  rw [eq_data st neg (by rw [PyData.plain]; exact h) rfl (Nat.le_trans (Nat.min_le_right _ _) (by decide))]
  cases l <;> rfl
theorem eq_nilT (neg : Bool) (st : Store) {l : List PyData} (h : PyData.plainAll l = true) : vEq neg (.d (.tuple l)) (.d (.tuple [])) st = some (.d (.bool (if neg then !l.isEmpty else l.isEmpty)), st) := by
  rw [eq_data st neg (by rw [PyData.plain]; exact h) rfl (Nat.le_trans (Nat.min_le_right _ _) (by decide))]
  cases l <;> rfl
@[simp] theorem eq_nilL0 (neg : Bool) (st : Store) : vEq neg (.d (.list [])) (.d (.list [])) st = some (.d (.bool (!neg)), st) := by cases neg <;> rfl
@[simp] theorem eq_nilT0 (neg : Bool) (st : Store) : vEq neg (.d (.tuple [])) (.d (.tuple [])) st = some (.d (.bool (!neg)), st) := by cases neg <;> rfl
theorem plainAll_map {α : Type} {f : α → PyData} (h : ∀ a, (f a).plain = true) (l : List α) : PyData.plainAll (l.map f) = true := by
  induction l with
  | nil => rfl
  | cons a l ih => rw [List.map_cons, PyData.plainAll, h a, ih]; rfl
theorem filterMap_enc {α : Type} (enc : α → PyData) (f : PyData → Option PyData) (p : α → Bool) (h : ∀ a, f (enc a) = if p a then some (enc a) else none) (l : List α) : (l.map enc).filterMap f = (l.filter p).map enc := by
  induction l with
  | nil => rfl
  | cons a l ih =>
    rw [List.map_cons, List.filterMap_cons, h a]
    cases q : p a with
    | true => rw [List.filter_cons_of_pos q, List.map_cons, ← ih]; rfl
    | false => rw [List.filter_cons_of_neg (by rw [q]; decide), ← ih]; rfl

/-! ### loops -/
theorem loopV_run {g : DG} {b : DS} {P : List PV → Fr → Store → Prop} (h : ∀ v r fr st, P (v :: r) fr st → ∃ fr' st', (turnS g b v fr st = .nx fr' st' ∨ turnS g b v fr st = .ct fr' st') ∧ P r fr' st') :
    ∀ (xs : List PV) (fr : Fr) (st : Store), P xs fr st → ∃ fr' st', loopV g b xs fr st = .nx fr' st' ∧ P [] fr' st'
  | [], fr, st, q => ⟨fr, st, rfl, q⟩
  | v :: xs, fr, st, q => by
    obtain ⟨fr1, st1, e, h1⟩ := h v xs fr st q
    obtain ⟨fr2, st2, e2, h2⟩ := loopV_run h xs fr1 st1 h1
    refine ⟨fr2, st2, ?_, h2⟩
    show behind (turnS g b v fr st) (loopV g b xs) = _
    rcases e with e | e <;> rw [e] <;> exact e2
/-- turns that go on, or return -/
theorem loopV_ret {g : DG} {b : DS} {P : List PV → Fr → Store → Prop} {R : PV → Store → Prop}
    (h : ∀ v r fr st, P (v :: r) fr st → (∃ fr' st', (turnS g b v fr st = .nx fr' st' ∨ turnS g b v fr st = .ct fr' st') ∧ P r fr' st') ∨ ∃ x st', turnS g b v fr st = .rt x st' ∧ R x st') :
    ∀ (xs : List PV) (fr : Fr) (st : Store), P xs fr st → (∃ fr' st', loopV g b xs fr st = .nx fr' st' ∧ P [] fr' st') ∨ ∃ x st', loopV g b xs fr st = .rt x st' ∧ R x st'
  | [], fr, st, q => .inl ⟨fr, st, rfl, q⟩
  | v :: xs, fr, st, q => by
    rcases h v xs fr st q with ⟨fr1, st1, e, h1⟩ | ⟨x, st1, e, h1⟩
    · have e0 : loopV g b (v :: xs) fr st = loopV g b xs fr1 st1 := by
        show behind (turnS g b v fr st) (loopV g b xs) = _
        rcases e with e | e <;> rw [e] <;> rfl
      rw [e0]
      exact loopV_ret h xs fr1 st1 h1
    · refine .inr ⟨x, st1, ?_, h1⟩
      show behind (turnS g b v fr st) (loopV g b xs) = _
      rw [e]
      rfl
/-- the first of the data for which a turn returns; the store is not touched -/
theorem loopV_first {g : DG} {b : DS} {st : Store} {P : Fr → Prop} {f : PyData → Option PyData} : ∀ {l : List PyData},
    (∀ x ∈ l, ∀ fr, P fr → match f x with
      | some y => turnS g b (.d x) fr st = .rt (.d y) st
      | none => ∃ fr', (turnS g b (.d x) fr st = .nx fr' st ∨ turnS g b (.d x) fr st = .ct fr' st) ∧ P fr') → ∀ {fr : Fr}, P fr →
    match l.findSome? f with
      | some y => loopV g b (l.map .d) fr st = .rt (.d y) st
      | none => ∃ fr', loopV g b (l.map .d) fr st = .nx fr' st ∧ P fr'
  | [], _, fr, q => ⟨fr, rfl, q⟩
  | x :: l, h, fr, q => by
    have h1 := h x List.mem_cons_self fr q
    rw [List.findSome?_cons]
    cases e : f x with
    | some y =>
      rw [e] at h1
      show behind (turnS g b (.d x) fr st) (loopV g b (l.map .d)) = _
      rw [h1]
      rfl
    | none =>
      rw [e] at h1
      obtain ⟨fr1, e1, q1⟩ := h1
      have e0 : loopV g b ((x :: l).map .d) fr st = loopV g b (l.map .d) fr1 st := by
        show behind (turnS g b (.d x) fr st) (loopV g b (l.map .d)) = _
        rcases e1 with e1 | e1 <;> rw [e1] <;> rfl
      rw [e0]
      exact loopV_first (fun y hy => h y (List.mem_cons_of_mem _ hy)) q1
/-! ### comprehensions over data -/
theorem loopC_gen {t : Tg} {c : DenT} {e : Den} {fr0 : Fr} {st : Store} {f : PyData → Option PyData} : ∀ {l : List PyData},
    (∀ x ∈ l, ∃ fr1, t.put (.d x) fr0 = some fr1 ∧ match f x with
      | some y => c fr1 st = .ok true st ∧ e fr1 st = .ok (.d y) st
      | none => c fr1 st = .ok false st) → loopC t c e fr0 (l.map .d) st = .ok ((l.filterMap f).map .d) st
  | [], _ => rfl
  | x :: l, h => by
    obtain ⟨fr1, e1, h1⟩ := h x List.mem_cons_self
    have ih := loopC_gen fun y hy => h y (List.mem_cons_of_mem _ hy)
    show (turnC t c e fr0 (.d x) st).bind (fun y st1 => (loopC t c e fr0 (l.map .d) st1).bind fun ys st2 => .ok (consO y ys) st2) = _
    have ht : turnC t c e fr0 (.d x) st = .ok ((f x).map .d) st := by
      unfold turnC
      rw [e1]
      dsimp only
      cases q : f x with
      | some y =>
        rw [q] at h1
        rw [h1.1]
        show (noX (e fr1 st)).bind _ = _
        rw [h1.2]
        rfl
      | none =>
        rw [q] at h1
        rw [h1]
        rfl
    rw [ht, bind_rok, ih, bind_rok, List.filterMap_cons]
    cases f x <;> rfl
theorem comp_data {t : Tg} {vs : List Nat} {d : DI} {c : DenT} {e : Den} {fr : Fr} {st st1 : Store} {l : List PyData} (f : PyData → Option PyData) (hd : d fr st = .ok (.vals (l.map .d)) st1) (hz : l.length ≤ 1000000)
    (h : ∀ x ∈ l, ∃ fr1, t.put (.d x) (wipeF fr vs) = some fr1 ∧ match f x with
      | some y => c fr1 st1 = .ok true st1 ∧ e fr1 st1 = .ok (.d y) st1
      | none => c fr1 st1 = .ok false st1) : dComp false t vs d c e fr st = .ok (.d (.list (l.filterMap f))) st1 := by
  unfold dComp
  rw [hd]
  show ((if sizeOk (l.map PV.d).length = true then loopC t c e (wipeF fr vs) (l.map .d) st1 else .bad).bind _) = _
  rw [if_pos (show sizeOk (l.map PV.d).length = true from decide_eq_true (by rw [List.length_map]; exact hz)), loopC_gen h, bind_rok, if_neg (by decide), datas_map]
theorem comp_cell {t : Tg} {vs : List Nat} {d : DI} {c : DenT} {e : Den} {fr : Fr} {st st1 : Store} {l : List PyData} (f : PyData → Option PyData) (hd : d fr st = .ok (.vals (l.map .d)) st1) (hz : l.length ≤ 1000000)
    (h : ∀ x ∈ l, ∃ fr1, t.put (.d x) (wipeF fr vs) = some fr1 ∧ match f x with
      | some y => c fr1 st1 = .ok true st1 ∧ e fr1 st1 = .ok (.d y) st1
      | none => c fr1 st1 = .ok false st1) : dComp true t vs d c e fr st = .ok (.cell st1.length) (st1 ++ [.lst ((l.filterMap f).map .d)]) := by
  unfold dComp
  rw [hd]
  show ((if sizeOk (l.map PV.d).length = true then loopC t c e (wipeF fr vs) (l.map .d) st1 else .bad).bind _) = _
  rw [if_pos (show sizeOk (l.map PV.d).length = true from decide_eq_true (by rw [List.length_map]; exact hz)), loopC_gen h, bind_rok, if_pos rfl]

/-! over what is coded -/
theorem loopC_filter {α : Type} (enc : α → PyData) (p : α → Bool) (g : α → PyData) {t : Tg} {c : DenT} {e : Den} {fr0 : Fr} {st : Store} : ∀ {l : List α},
    (∀ a ∈ l, ∃ fr1, t.put (.d (enc a)) fr0 = some fr1 ∧ c fr1 st = .ok (p a) st ∧ (p a = true → e fr1 st = .ok (.d (g a)) st)) → loopC t c e fr0 ((l.map enc).map .d) st = .ok (((l.filter p).map g).map .d) st
  | [], _ => rfl
  | x :: l, h => by
    obtain ⟨fr1, e1, h1, h2⟩ := h x List.mem_cons_self
    have ih := loopC_filter enc p g fun y hy => h y (List.mem_cons_of_mem _ hy)
    show (turnC t c e fr0 (.d (enc x)) st).bind (fun y st1 => (loopC t c e fr0 ((l.map enc).map .d) st1).bind fun ys st2 => .ok (consO y ys) st2) = _
    have ht : turnC t c e fr0 (.d (enc x)) st = .ok (if p x then some (.d (g x)) else none) st := by
      unfold turnC
      rw [e1]
      dsimp only
      rw [h1]
      cases q : p x with
      | true =>
        show (noX (e fr1 st)).bind _ = _
        rw [h2 q]
        rfl
      | false => rfl
    rw [ht, bind_rok, ih, bind_rok]
    cases q : p x with
    | true => rw [List.filter_cons_of_pos q]; rfl
    | false => rw [List.filter_cons_of_neg (by rw [q]; decide)]; rfl
theorem comp_filter {α : Type} (enc : α → PyData) (p : α → Bool) (g : α → PyData) {t : Tg} {vs : List Nat} {d : DI} {c : DenT} {e : Den} {fr : Fr} {st st1 : Store} {l : List α} (hd : d fr st = .ok (.vals ((l.map enc).map .d)) st1) (hz : l.length ≤ 1000000)
    (h : ∀ a ∈ l, ∃ fr1, t.put (.d (enc a)) (wipeF fr vs) = some fr1 ∧ c fr1 st1 = .ok (p a) st1 ∧ (p a = true → e fr1 st1 = .ok (.d (g a)) st1)) : dComp false t vs d c e fr st = .ok (.d (.list ((l.filter p).map g))) st1 := by
  unfold dComp
  rw [hd]
  show ((if sizeOk ((l.map enc).map PV.d).length = true then loopC t c e (wipeF fr vs) ((l.map enc).map .d) st1 else .bad).bind _) = _
  rw [if_pos (show sizeOk ((l.map enc).map PV.d).length = true from decide_eq_true (by rw [List.length_map, List.length_map]; exact hz)), loopC_filter enc p g h, bind_rok, if_neg (by decide), datas_map]
theorem comp_map {α : Type} (enc : α → PyData) (g : α → PyData) {t : Tg} {vs : List Nat} {d : DI} {e : Den} {fr : Fr} {st st1 : Store} {l : List α} (hd : d fr st = .ok (.vals ((l.map enc).map .d)) st1) (hz : l.length ≤ 1000000)
    (h : ∀ a ∈ l, ∃ fr1, t.put (.d (enc a)) (wipeF fr vs) = some fr1 ∧ e fr1 st1 = .ok (.d (g a)) st1) : dComp false t vs d dYes e fr st = .ok (.d (.list (l.map g))) st1 := by
  rw [comp_filter enc (fun _ => true) g hd hz fun a ha => ?_, List.filter_eq_self.mpr fun _ _ => rfl]
  obtain ⟨fr1, h1, h2⟩ := h a ha
  exact ⟨fr1, h1, rfl, fun _ => h2⟩
/-- the first for which a turn returns -/
theorem loopV_find {α : Type} (enc : α → PyData) (p : α → Bool) (y : α → PyData) {g : DG} {b : DS} {st : Store} {P : Fr → Prop} : ∀ {l : List α},
    (∀ x ∈ l, ∀ fr, P fr → if p x then turnS g b (.d (enc x)) fr st = .rt (.d (y x)) st else ∃ fr', (turnS g b (.d (enc x)) fr st = .nx fr' st ∨ turnS g b (.d (enc x)) fr st = .ct fr' st) ∧ P fr') → ∀ {fr : Fr}, P fr →
    match l.find? p with
      | some x => loopV g b ((l.map enc).map .d) fr st = .rt (.d (y x)) st
      | none => ∃ fr', loopV g b ((l.map enc).map .d) fr st = .nx fr' st ∧ P fr'
  | [], _, fr, q => ⟨fr, rfl, q⟩
  | x :: l, h, fr, q => by
    have h1 := h x List.mem_cons_self fr q
    rw [List.find?_cons]
    cases e : p x with
    | true =>
      rw [e, if_pos rfl] at h1
      show behind (turnS g b (.d (enc x)) fr st) (loopV g b ((l.map enc).map .d)) = _
      rw [h1]
      rfl
    | false =>
      rw [e, if_neg (by decide)] at h1
      obtain ⟨fr1, e1, q1⟩ := h1
      have e0 : loopV g b (((x :: l).map enc).map .d) fr st = loopV g b ((l.map enc).map .d) fr1 st := by
        show behind (turnS g b (.d (enc x)) fr st) (loopV g b ((l.map enc).map .d)) = _
        rcases e1 with e1 | e1 <;> rw [e1] <;> rfl
      rw [e0]
      exact loopV_find enc p y (fun y hy => h y (List.mem_cons_of_mem _ hy)) q1
theorem ret_find {α : Type} (enc : α → PyData) (p : α → Bool) (y : α → PyData) (P : Fr → Prop) {d : DI} {g : DG} {b rest : DS} {fr : Fr} {st st1 : Store} {l : List α} {res : Res PV} (hd : d fr st = .ok (.vals ((l.map enc).map .d)) st1) (h0 : P fr)
    (h : ∀ x ∈ l, ∀ fr, P fr → if p x then turnS g b (.d (enc x)) fr st1 = .rt (.d (y x)) st1 else ∃ fr', (turnS g b (.d (enc x)) fr st1 = .nx fr' st1 ∨ turnS g b (.d (enc x)) fr st1 = .ct fr' st1) ∧ P fr')
    (hs : ∀ x, l.find? p = some x → Res.ok (.d (y x)) st1 = res) (hn : l.find? p = none → ∀ fr, P fr → retF (rest fr st1) = res) : retF (sSeq (sFor d g b) rest fr st) = res := by
  have hl := loopV_find enc p y h h0
  rw [x_seq, for_vals hd]
  cases q : l.find? p with
  | some x =>
    rw [q] at hl
    dsimp only at hl
    rw [hl]
    exact hs x q
  | none =>
    rw [q] at hl
    obtain ⟨fr', e1, h1⟩ := hl
    rw [e1]
    exact hn q fr' h1
theorem find_any {α : Type} {l : List α} {p : α → Bool} : (l.find? p).isSome = l.any p := by
  induction l with
  | nil => rfl
  | cons a l ih =>
    rw [List.find?_cons, List.any_cons]
    cases p a with
    | true => rfl
    | false => exact ih
theorem isEmpty_map' {α β : Type} (f : α → β) (l : List α) : (l.map f).isEmpty = l.isEmpty := by cases l <;> rfl
theorem isEmpty_filter {α : Type} (p : α → Bool) (l : List α) : (l.filter p).isEmpty = !l.any p := by
  induction l with
  | nil => rfl
  | cons a l ih =>
    rw [List.any_cons]
    cases q : p a with
    | true => rw [List.filter_cons_of_pos q]; rfl
    | false => rw [List.filter_cons_of_neg (by rw [q]; decide), ih]; rfl
/-- [g for t in d if c] == [], != [] -/
theorem comp_none {α : Type} (enc : α → PyData) (p : α → Bool) (g : α → PyData) (neg : Bool) {t : Tg} {vs : List Nat} {d : DI} {c : DenT} {e : Den} {fr : Fr} {st st1 : Store} {l : List α} (hd : d fr st = .ok (.vals ((l.map enc).map .d)) st1) (hz : l.length ≤ 1000000)
    (hp : ∀ a ∈ l, (g a).plain = true)
    (h : ∀ a ∈ l, ∃ fr1, t.put (.d (enc a)) (wipeF fr vs) = some fr1 ∧ c fr1 st1 = .ok (p a) st1 ∧ (p a = true → e fr1 st1 = .ok (.d (g a)) st1)) : ((dComp false t vs d c e fr st).bind fun v s => lift (vEq neg v (.d (.list [])) s)) = .ok (.d (.bool (if neg then l.any p else !l.any p))) st1 := by
  rw [comp_filter enc p g hd hz h, bind_rok]
  have hpl : PyData.plainAll ((l.filter p).map g) = true := by
    have : ∀ l : List α, (∀ a ∈ l, (g a).plain = true) → PyData.plainAll (l.map g) = true := fun l hl => by
      induction l with
      | nil => rfl
      | cons a l ih => rw [List.map_cons, plainAll_cons', hl a List.mem_cons_self, ih fun b hb => hl b (List.mem_cons_of_mem _ hb)]; rfl
    exact this _ fun a ha => hp a (List.mem_filter.mp ha).1
  show (lift (vEq neg _ (.d (.list [])) st1)) = _
  rw [eq_nilL neg st1 hpl, isEmpty_map', isEmpty_filter, Bool.not_not]
  rfl

/-! ### what can be shown -/
/-- data without dicts, at most k deep, whose text has at most c signs -/
structure Sm (c k : Nat) (d : PyData) : Prop where
  p : d.plain = true
  s : d.showable = true
  k : d.depth ≤ k
  c : d.shown.length ≤ c
theorem Sm.mono {c k c' k' : Nat} {d : PyData} (h : Sm c k d) (hc : c ≤ c') (hk : k ≤ k') : Sm c' k' d := ⟨h.p, h.s, Nat.le_trans h.k hk, Nat.le_trans h.c hc⟩
/-- the same, empty dicts within too -/
structure Sy (c k : Nat) (d : PyData) : Prop where
  y : shy d = true
  s : d.showable = true
  k : d.depth ≤ k
  c : d.shown.length ≤ c
mutual
theorem plain_shy : ∀ d : PyData, d.plain = true → shy d = true
  | .none, _ => rfl
  | .bool _, _ => rfl
  | .int _, _ => rfl
  | .str _, _ => rfl
  | .list xs, h => by rw [shy]; exact plain_shyAll xs (by simpa [PyData.plain] using h)
  | .tuple xs, h => by rw [shy]; exact plain_shyAll xs (by simpa [PyData.plain] using h)
  | .dict _, h => by simp [PyData.plain] at h
theorem plain_shyAll : ∀ ds : List PyData, PyData.plainAll ds = true → shyAll ds = true
  | [], _ => rfl
  | x :: xs, h => by
    rw [PyData.plainAll, Bool.and_eq_true] at h
    rw [shyAll, plain_shy x h.1, plain_shyAll xs h.2]; rfl
end
theorem Sy.mono {c k c' k' : Nat} {d : PyData} (h : Sy c k d) (hc : c ≤ c') (hk : k ≤ k') : Sy c' k' d := ⟨h.y, h.s, Nat.le_trans h.k hk, Nat.le_trans h.c hc⟩
theorem Sm.sy {c k : Nat} {d : PyData} (h : Sm c k d) : Sy c k d := ⟨plain_shy d h.p, h.s, h.k, h.c⟩
theorem repr_sy {c k : Nat} {d : PyData} (h : Sy c k d) (hc : c ≤ 1000000) (hk : k ≤ 100) (st : Store) : vRepr [.d d] st = some (.d (.str d.shown), st) := by
  unfold vRepr
  dsimp only
  rw [if_pos (by rw [h.s, h.y, decide_eq_true (Nat.le_trans h.k hk)]; exact decide_eq_true (Nat.le_trans h.c hc))]
theorem repr_ok {c k : Nat} {d : PyData} (h : Sm c k d) (hc : c ≤ 1000000) (hk : k ≤ 100) (st : Store) : vRepr [.d d] st = some (.d (.str d.shown), st) := repr_sy h.sy hc hk st
end Sr
/-! What can be shown: bounds of texts. -/
namespace Sr
open PySem L2

theorem textFrom_le : ∀ (ts : List Str) (k : Nat) (acc : Str), (PySem.textFrom k acc ts).length ≤ acc.length + PySem.piled ts
  | [], k, acc => by show acc.length ≤ _; simp [PySem.piled]
  | t :: r, k, acc => by
    have h := textFrom_le r (k + 1) (acc ++ (if k > 0 then ", " else "" : String) ++ t)
    have e : (acc ++ (if k > 0 then ", " else "" : String) ++ t).length ≤ acc.length + 2 + t.length := by
      rw [PySem.strLen_append, PySem.strLen_append]
      split
      · exact Nat.le_refl _
      · exact Nat.add_le_add_right (Nat.add_le_add_left (by decide) _) _
    show (PySem.textFrom (k + 1) _ r).length ≤ _
    have e2 : PySem.piled (t :: r) = t.length + 2 + PySem.piled r := by simp [PySem.piled]
    omega
theorem listText_le (ts : List Str) : (PySem.listText ts).length ≤ PySem.piled ts + 3 := by
  unfold PySem.listText
  have h := textFrom_le ts 0 "["
  rw [PySem.strLen_append]
  have e1 : (("[" : String) : Str).length = 1 := rfl
  have e2 : (("]" : String) : Str).length = 1 := rfl
  rw [e1] at h
  rw [e2]
  omega
theorem tupleText_le (ts : List Str) : (PySem.tupleText ts).length ≤ PySem.piled ts + 3 := by
  unfold PySem.tupleText
  rw [PySem.strLen_append, PySem.strLen_append]
  have e1 : (("(" : String) : Str).length = 1 := rfl
  have e3 : (((if ts.length == 1 then ",)" else ")" : String) : Str)).length ≤ 2 := by split <;> decide
  rw [e1]
  by_cases h : ts = []
  · subst h
    have : (Str.join ", " []).length = 0 := rfl
    omega
  · have := PySem.join_length_add ts h
    omega
theorem piled_shown {c : Nat} : ∀ {l : List PyData}, (∀ x ∈ l, x.shown.length ≤ c) → PySem.piled (PyData.shownAll l) ≤ l.length * (c + 2)
  | [], _ => by rw [PyData.shownAll]; simp [PySem.piled]
  | x :: l, h => by
    have ih := piled_shown fun y hy => h y (List.mem_cons_of_mem _ hy)
    have h1 := h x List.mem_cons_self
    rw [PyData.shownAll, List.length_cons, Nat.succ_mul]
    have e2 : PySem.piled (x.shown :: PyData.shownAll l) = x.shown.length + 2 + PySem.piled (PyData.shownAll l) := by simp [PySem.piled]
    omega
theorem plainAll_of {l : List PyData} (h : ∀ x ∈ l, x.plain = true) : PyData.plainAll l = true := by
  induction l with
  | nil => rfl
  | cons x l ih => rw [PyData.plainAll, h x List.mem_cons_self, ih fun y hy => h y (List.mem_cons_of_mem _ hy)]; rfl
theorem plainAll_mem : ∀ {l : List PyData}, PyData.plainAll l = true → ∀ x ∈ l, x.plain = true
  | [], _, _, h => by cases h
  | y :: l, h, x, hx => by
    rw [PyData.plainAll, Bool.and_eq_true] at h
    rcases List.mem_cons.mp hx with rfl | hx
    · exact h.1
    · exact plainAll_mem h.2 x hx
theorem showableAll_of {l : List PyData} (h : ∀ x ∈ l, x.showable = true) : PyData.showableAll l = true := by
  induction l with
  | nil => rfl
  | cons x l ih => rw [PyData.showableAll, h x List.mem_cons_self, ih fun y hy => h y (List.mem_cons_of_mem _ hy)]; rfl
theorem depthAll_of {k : Nat} {l : List PyData} (h : ∀ x ∈ l, x.depth ≤ k) : PyData.depthAll l ≤ k := by
  induction l with
  | nil => rw [PyData.depthAll]; exact Nat.zero_le _
  | cons x l ih =>
    rw [PyData.depthAll]
    exact Nat.max_le.mpr ⟨h x List.mem_cons_self, ih fun y hy => h y (List.mem_cons_of_mem _ hy)⟩
theorem Sm.tup {c k n : Nat} {l : List PyData} (h : ∀ x ∈ l, Sm c k x) (hn : l.length ≤ n) : Sm (n * (c + 2) + 3) (k + 1) (.tuple l) := by
  refine ⟨by rw [PyData.plain]; exact plainAll_of fun x hx => (h x hx).p, by rw [PyData.showable]; exact showableAll_of fun x hx => (h x hx).s, by rw [PyData.depth]; exact Nat.succ_le_succ (depthAll_of fun x hx => (h x hx).k), ?_⟩
  rw [PyData.shown]
  have h1 := tupleText_le (PyData.shownAll l)
  have h2 := piled_shown fun x hx => (h x hx).c
  have h3 := Nat.mul_le_mul_right (c + 2) hn
  omega
theorem Sm.lst {c k n : Nat} {l : List PyData} (h : ∀ x ∈ l, Sm c k x) (hn : l.length ≤ n) : Sm (n * (c + 2) + 3) (k + 1) (.list l) := by
  refine ⟨by rw [PyData.plain]; exact plainAll_of fun x hx => (h x hx).p, by rw [PyData.showable]; exact showableAll_of fun x hx => (h x hx).s, by rw [PyData.depth]; exact Nat.succ_le_succ (depthAll_of fun x hx => (h x hx).k), ?_⟩
  rw [PyData.shown]
  have h1 := listText_le (PyData.shownAll l)
  have h2 := piled_shown fun x hx => (h x hx).c
  have h3 := Nat.mul_le_mul_right (c + 2) hn
  omega
theorem Sm.int {i : Int} (h : i.natAbs.log2 < 1920) : Sm 1921 0 (.int i) :=
  ⟨rfl, decide_eq_true h, by rw [PyData.depth]; exact Nat.le_refl _, by rw [PyData.shown]; exact PyProof.Rows.int_text_len_1921 h⟩
/-- an int of few digits -/
theorem Sm.small {i : Int} {k : Nat} (hk : 0 < k) (hz : k ≤ 100) (h : i.natAbs < 10 ^ k) : Sm (k + 1) 0 (.int i) := by
  refine ⟨rfl, decide_eq_true ?_, by rw [PyData.depth]; exact Nat.le_refl _, ?_⟩
  · by_cases z : i.natAbs = 0
    · rw [z]; decide
    · refine (Nat.log2_lt z).mpr (Nat.lt_of_lt_of_le h ?_)
      exact Nat.le_trans (Nat.pow_le_pow_right (by decide) hz) (by decide +kernel)
  · rw [PyData.shown]
    show (Str.ofString (toString i)).length ≤ _
    rw [PySem.ofString_length]
    exact PySem.int_text_length_le10 hk h
theorem Sm.bool (b : Bool) : Sm 5 0 (.bool b) := by
  cases b <;> exact ⟨rfl, rfl, by rw [PyData.depth]; exact Nat.le_refl _, by rw [PyData.shown]; decide⟩
theorem Sm.non : Sm 5 0 .none := ⟨rfl, rfl, by rw [PyData.depth]; exact Nat.le_refl _, by rw [PyData.shown]; decide⟩
theorem shyAll_of {l : List PyData} (h : ∀ x ∈ l, shy x = true) : shyAll l = true := by
  induction l with
  | nil => rfl
  | cons x l ih => rw [shyAll, h x List.mem_cons_self, ih fun y hy => h y (List.mem_cons_of_mem _ hy)]; rfl
theorem Sy.tup {c k n : Nat} {l : List PyData} (h : ∀ x ∈ l, Sy c k x) (hn : l.length ≤ n) : Sy (n * (c + 2) + 3) (k + 1) (.tuple l) := by
  refine ⟨by rw [shy]; exact shyAll_of fun x hx => (h x hx).y, by rw [PyData.showable]; exact showableAll_of fun x hx => (h x hx).s, by rw [PyData.depth]; exact Nat.succ_le_succ (depthAll_of fun x hx => (h x hx).k), ?_⟩
  rw [PyData.shown]
  have h1 := tupleText_le (PyData.shownAll l)
  have h2 := piled_shown fun x hx => (h x hx).c
  have h3 := Nat.mul_le_mul_right (c + 2) hn
  omega
theorem Sy.lst {c k n : Nat} {l : List PyData} (h : ∀ x ∈ l, Sy c k x) (hn : l.length ≤ n) : Sy (n * (c + 2) + 3) (k + 1) (.list l) := by
  refine ⟨by rw [shy]; exact shyAll_of fun x hx => (h x hx).y, by rw [PyData.showable]; exact showableAll_of fun x hx => (h x hx).s, by rw [PyData.depth]; exact Nat.succ_le_succ (depthAll_of fun x hx => (h x hx).k), ?_⟩
  rw [PyData.shown]
  have h1 := listText_le (PyData.shownAll l)
  have h2 := piled_shown fun x hx => (h x hx).c
  have h3 := Nat.mul_le_mul_right (c + 2) hn
  omega
theorem Sy.dict0 : Sy 2 1 (.dict []) := ⟨rfl, rfl, by decide +kernel, by decide +kernel⟩
end Sr
/-! What is drawn. -/
namespace Sr
open PySem L2
/-- a store of L cells from which F draws: Dk n: n draws are to come -/
structure Deck (L c : Nat) (Dk : Nat → Store → Prop) (F : List PV → Store → Res PV) : Prop where
  len : ∀ {n : Nat} {D : Store}, Dk n D → D.length = L
  mono : ∀ {n : Nat} {D : Store}, Dk (n + 1) D → Dk n D
  draw : ∀ {n : Nat} {D : Store} (z : Store) (many : Int), 1 ≤ many → many < 2 ^ 33 → Dk (n + 1) D → ∃ (r : Nat) (D' : Store), (r : Int) < many ∧ Dk n D' ∧ F [.cell c, .d (.int many)] (D ++ z) = .ok (.d (.int r)) (D' ++ z)
theorem Deck.less {L c : Nat} {Dk : Nat → Store → Prop} {F : List PV → Store → Res PV} (K : Deck L c Dk F) : ∀ {k n : Nat} {D : Store}, Dk (n + k) D → Dk n D
  | 0, _, _, h => h
  | k + 1, _, _, h => K.less (k := k) (K.mono h)
theorem run_for {d : DI} {g : DG} {b : DS} {P : List PV → Fr → Store → Prop} {xs : List PV} {fr : Fr} {st st1 : Store} (hd : d fr st = .ok (.vals xs) st1) (h0 : P xs fr st1)
    (h : ∀ v r fr st, P (v :: r) fr st → ∃ fr' st', (turnS g b v fr st = .nx fr' st' ∨ turnS g b v fr st = .ct fr' st') ∧ P r fr' st') : ∃ fr' st', sFor d g b fr st = .nx fr' st' ∧ P [] fr' st' := by
  rw [for_vals hd]
  exact loopV_run h xs fr st1 h0
/-! lists in cells -/
section
variable {st : Store} {n : Nat} {xs : List PV}
theorem seqC (h : st[n]? = some (.lst xs)) : seqItems (.cell n) st = some xs := by
  show (match st[n]? with
    | some (.lst xs) => some xs
    | _ => none) = _
  rw [h]
theorem isListC (h : st[n]? = some (.lst xs)) : isList (.cell n) st = true := by
  show (match st[n]? with
    | some (.lst _) => true
    | _ => false) = _
  rw [h]
theorem isLC (h : st[n]? = some (.lst xs)) : Ty3.is .list (.cell n) st = true := isListC h
theorem idxC (h : st[n]? = some (.lst xs)) (k : Int) : vIdx (.cell n) (.d (.int k)) st = (atI xs k).map fun v => (v, st) := by
  show vIdx2 (.cell n) (.d (.int k)) st = _
  unfold vIdx2
  rw [seqC h]
theorem appC (h : st[n]? = some (.lst xs)) (hz : xs.length < 1000000) (y : PV) : vAppend (.cell n) [y] st = some (.d .none, st.set n (.lst (xs ++ [y]))) := by
  show (match st[n]? with
    | some (.lst xs) => if xs.length < 1000000 then some (PV.d .none, st.set n (.lst (xs ++ [y]))) else none
    | _ => none) = _
  rw [h]
  dsimp only
  rw [if_pos hz]
theorem tupC (h : st[n]? = some (.lst xs)) : vTupOf [.cell n] st = some (mkTup xs, st) := by
  show (if isList (.cell n) st then (seqItems (.cell n) st).map fun xs => (mkTup xs, st) else none) = _
  rw [isListC h, seqC h]
  rfl
theorem lenC (h : st[n]? = some (.lst xs)) : vLen [.cell n] st = some (.d (.int xs.length), st) := by
  show (match seqItems (.cell n) st with
    | some xs => some (PV.d (.int xs.length), st)
    | none => _) = _
  rw [seqC h]
theorem eq_nilC {l : List PyData} (neg : Bool) (h : st[n]? = some (.lst (l.map .d))) (hp : PyData.plainAll l = true) : vEq neg (.cell n) (.d (.list [])) st = some (.d (.bool (if neg then !l.isEmpty else l.isEmpty)), st) := by
  have e : vEqP neg (.cell n) (.d (.list [])) st = vEqP neg (.d (.list l)) (.d (.list [])) st := by
    unfold vEqP cmpD
    rw [frz_lst h, frz_d, frz_d]
  have e2 : vEqP neg (.d (.list l)) (.d (.list [])) st = some (.d (.bool (if neg then !l.isEmpty else l.isEmpty)), st) := by
    unfold vEqP cmpD
    rw [frz_d, frz_d]
    dsimp only
    rw [if_pos (by rw [plain_lst, hp]; simp [PyData.depth, PyData.depthAll])]
    cases l <;> rfl
  exact vEq_P (by rw [e, e2])
end
/-! stores in two parts -/
section
variable {L : Nat} {D z : Store}
theorem ap_get (h : D.length = L) (i : Nat) : (D ++ z)[L + i]? = z[i]? := by
  rw [List.getElem?_append_right (by omega), h]
  congr 1
  omega
theorem ap_set (h : D.length = L) (i : Nat) (o : PO) : (D ++ z).set (L + i) o = D ++ z.set i o := by
  rw [List.set_append_right _ _ (by omega), h]
  congr 2
  omega
theorem la_get (h : D.length = L) (o : PO) : (D ++ (z ++ [o]))[L + z.length]? = some o := by
  rw [ap_get h, List.getElem?_append_right (Nat.le_refl _)]
  simp
theorem la_set (h : D.length = L) (o o' : PO) : (D ++ (z ++ [o])).set (L + z.length) o' = D ++ (z ++ [o']) := by
  rw [ap_set h, List.set_append_right _ _ (Nat.le_refl _)]
  simp
theorem ap_push (o : PO) : (D ++ z) ++ [o] = D ++ (z ++ [o]) := List.append_assoc ..
theorem ap_len (h : D.length = L) : (D ++ z).length = L + z.length := by rw [List.length_append, h]
end
/-- some of a row -/
def pickB {α : Type} : List Bool → List α → List α
  | b :: bs, a :: l => if b then a :: pickB bs l else pickB bs l
  | _, _ => []
section
variable {L c : Nat} {Dk : Nat → Store → Prop} {F : List PV → Store → Res PV}
/-- items drawn one by one -/
theorem loopC_drawn {α : Type} (enc : α → PyData) (g : α → PyData) {t : Tg} {cd : DenT} {e : Den} {fr0 : Fr} (z : Store) : ∀ {l : List α},
    (∀ a ∈ l, ∃ fr1, t.put (.d (enc a)) fr0 = some fr1 ∧ (∀ n D, Dk (n + 1) D → ∃ b D', Dk n D' ∧ cd fr1 (D ++ z) = .ok b (D' ++ z)) ∧ ∀ st, e fr1 st = .ok (.d (g a)) st) →
    ∀ n D, Dk (n + l.length) D → ∃ bs D', bs.length = l.length ∧ Dk n D' ∧ loopC t cd e fr0 ((l.map enc).map .d) (D ++ z) = .ok (((pickB bs l).map g).map .d) (D' ++ z)
  | [], _, n, D, h => ⟨[], D, rfl, h, rfl⟩
  | x :: l, h, n, D, hD => by
    obtain ⟨fr1, e1, h1, h2⟩ := h x List.mem_cons_self
    obtain ⟨b, D1, k1, e2⟩ := h1 (n + l.length) D (by rw [List.length_cons] at hD; rw [Nat.add_assoc]; exact hD)
    obtain ⟨bs, D2, l2, k2, e3⟩ := loopC_drawn enc g z (fun y hy => h y (List.mem_cons_of_mem _ hy)) n D1 k1
    refine ⟨b :: bs, D2, by simp [l2], k2, ?_⟩
    show (turnC t cd e fr0 (.d (enc x)) (D ++ z)).bind (fun y st1 => (loopC t cd e fr0 ((l.map enc).map .d) st1).bind fun ys st2 => .ok (consO y ys) st2) = _
    have ht : turnC t cd e fr0 (.d (enc x)) (D ++ z) = .ok (if b then some (.d (g x)) else none) (D1 ++ z) := by
      unfold turnC
      rw [e1]
      dsimp only
      rw [e2]
      cases b with
      | true =>
        show (noX (e fr1 (D1 ++ z))).bind _ = _
        rw [h2]
        rfl
      | false => rfl
    rw [ht, bind_rok, e3, bind_rok]
    cases b <;> rfl
theorem comp_drawn {α : Type} (enc : α → PyData) (g : α → PyData) {t : Tg} {vs : List Nat} {d : DI} {cd : DenT} {e : Den} {fr : Fr} {l : List α} (z : Store) (n : Nat) (D : Store) (hd : d fr (D ++ z) = .ok (.vals ((l.map enc).map .d)) (D ++ z)) (hz : l.length ≤ 1000000)
    (h : ∀ a ∈ l, ∃ fr1, t.put (.d (enc a)) (wipeF fr vs) = some fr1 ∧ (∀ n D, Dk (n + 1) D → ∃ b D', Dk n D' ∧ cd fr1 (D ++ z) = .ok b (D' ++ z)) ∧ ∀ st, e fr1 st = .ok (.d (g a)) st) (hD : Dk (n + l.length) D) :
    ∃ bs D', bs.length = l.length ∧ Dk n D' ∧ dComp false t vs d cd e fr (D ++ z) = .ok (.d (.list ((pickB bs l).map g))) (D' ++ z) := by
  obtain ⟨bs, D', l1, k1, e1⟩ := loopC_drawn enc g z h n D hD
  refine ⟨bs, D', l1, k1, ?_⟩
  unfold dComp
  rw [hd]
  show ((if sizeOk ((l.map enc).map PV.d).length = true then loopC t cd e (wipeF fr vs) ((l.map enc).map .d) (D ++ z) else .bad).bind _) = _
  rw [if_pos (show sizeOk ((l.map enc).map PV.d).length = true from decide_eq_true (by rw [List.length_map, List.length_map]; exact hz)), e1, bind_rok, if_neg (by decide), datas_map]
end
end Sr
/-! More loops, kinds. -/
namespace Sr
open PySem L2
/-- the first for which a turn returns, told by an option -/
theorem loopV_some {α : Type} (enc : α → PyData) (f : α → Option PyData) {g : DG} {b : DS} {st : Store} {P : Fr → Prop} : ∀ {l : List α},
    (∀ x ∈ l, ∀ fr, P fr → match f x with
      | some y => turnS g b (.d (enc x)) fr st = .rt (.d y) st
      | none => ∃ fr', (turnS g b (.d (enc x)) fr st = .nx fr' st ∨ turnS g b (.d (enc x)) fr st = .ct fr' st) ∧ P fr') → ∀ {fr : Fr}, P fr →
    match l.findSome? f with
      | some y => loopV g b ((l.map enc).map .d) fr st = .rt (.d y) st
      | none => ∃ fr', loopV g b ((l.map enc).map .d) fr st = .nx fr' st ∧ P fr'
  | [], _, fr, q => ⟨fr, rfl, q⟩
  | x :: l, h, fr, q => by
    have h1 := h x List.mem_cons_self fr q
    rw [List.findSome?_cons]
    cases e : f x with
    | some y =>
      rw [e] at h1
      show behind (turnS g b (.d (enc x)) fr st) (loopV g b ((l.map enc).map .d)) = _
      rw [h1]
      rfl
    | none =>
      rw [e] at h1
      obtain ⟨fr1, e1, q1⟩ := h1
      have e0 : loopV g b (((x :: l).map enc).map .d) fr st = loopV g b ((l.map enc).map .d) fr1 st := by
        show behind (turnS g b (.d (enc x)) fr st) (loopV g b ((l.map enc).map .d)) = _
        rcases e1 with e1 | e1 <;> rw [e1] <;> rfl
      rw [e0]
      exact loopV_some enc f (fun y hy => h y (List.mem_cons_of_mem _ hy)) q1
/-- a for that may return, and what stands behind -/
theorem seq_some {α : Type} (enc : α → PyData) (f : α → Option PyData) (P : Fr → Prop) {d : DI} {g : DG} {b rest : DS} {fr : Fr} {st st1 : Store} {l : List α} {res : RO} (hd : d fr st = .ok (.vals ((l.map enc).map .d)) st1) (h0 : P fr)
    (h : ∀ x ∈ l, ∀ fr, P fr → match f x with
      | some y => turnS g b (.d (enc x)) fr st1 = .rt (.d y) st1
      | none => ∃ fr', (turnS g b (.d (enc x)) fr st1 = .nx fr' st1 ∨ turnS g b (.d (enc x)) fr st1 = .ct fr' st1) ∧ P fr')
    (hs : ∀ y, l.findSome? f = some y → .rt (.d y) st1 = res) (hn : l.findSome? f = none → ∀ fr, P fr → rest fr st1 = res) : sSeq (sFor d g b) rest fr st = res := by
  have hl := loopV_some enc f h h0
  rw [x_seq, for_vals hd]
  cases q : l.findSome? f with
  | some x =>
    rw [q] at hl
    dsimp only at hl
    rw [hl]
    exact hs x q
  | none =>
    rw [q] at hl
    obtain ⟨fr', e1, h1⟩ := hl
    rw [e1]
    exact hn q fr' h1
theorem ret_some {α : Type} (enc : α → PyData) (f : α → Option PyData) (P : Fr → Prop) {d : DI} {g : DG} {b rest : DS} {fr : Fr} {st st1 : Store} {l : List α} {res : Res PV} (hd : d fr st = .ok (.vals ((l.map enc).map .d)) st1) (h0 : P fr)
    (h : ∀ x ∈ l, ∀ fr, P fr → match f x with
      | some y => turnS g b (.d (enc x)) fr st1 = .rt (.d y) st1
      | none => ∃ fr', (turnS g b (.d (enc x)) fr st1 = .nx fr' st1 ∨ turnS g b (.d (enc x)) fr st1 = .ct fr' st1) ∧ P fr')
    (hs : ∀ y, l.findSome? f = some y → Res.ok (.d y) st1 = res) (hn : l.findSome? f = none → ∀ fr, P fr → retF (rest fr st1) = res) : retF (sSeq (sFor d g b) rest fr st) = res := by
  have hl := loopV_some enc f h h0
  rw [x_seq, for_vals hd]
  cases q : l.findSome? f with
  | some x =>
    rw [q] at hl
    dsimp only at hl
    rw [hl]
    exact hs x q
  | none =>
    rw [q] at hl
    obtain ⟨fr', e1, h1⟩ := hl
    rw [e1]
    exact hn q fr' h1
/-- enumerate over what is coded -/
theorem enumC {α : Type} (enc : α → PyData) {r : Dens} {fr : Fr} {st st1 : Store} {l : List α} (h : r fr st = .ok [.d (.tuple (l.map enc))] st1) : dEnum2 r fr st = .ok (.vals ((l.zipIdx.map fun p => PyData.tuple [.int (p.2 : Nat), enc p.1]).map .d)) st1 := by
  rw [enum_tup' h, List.zipIdx_map]
  simp only [List.map_map]
  rfl
theorem enumCL {α : Type} (enc : α → PyData) {r : Dens} {fr : Fr} {st st1 : Store} {l : List α} (h : r fr st = .ok [.d (.list (l.map enc))] st1) : dEnum2 r fr st = .ok (.vals ((l.zipIdx.map fun p => PyData.tuple [.int (p.2 : Nat), enc p.1]).map .d)) st1 := by
  rw [enum_lst' h, List.zipIdx_map]
  simp only [List.map_map]
  rfl
def kindD : PyData → String
  | .none => "NoneType"
  | .bool _ => "bool"
  | .int _ => "int"
  | .str _ => "str"
  | .list _ => "list"
  | .tuple _ => "tuple"
  | .dict _ => "dict"
theorem isi_d (T : String) (d : PyData) (st : Store) : vIsi T (.d d) st = some (.d (.bool (isiB (kindD d) T)), st) := by cases d <;> rfl
end Sr
/-! sorted of data. -/
namespace Sr
open PySem L2
theorem insB_perm {α : Type} (le : α → α → Bool) (a : α) : ∀ l : List α, (insB le a l).Perm (a :: l)
  | [] => List.Perm.refl _
  | b :: l => by
    show (if le a b then a :: b :: l else b :: insB le a l).Perm _
    split
    · exact List.Perm.refl _
    · exact ((insB_perm le a l).cons b).trans (List.Perm.swap a b l)
theorem insSort_perm {α : Type} (le : α → α → Bool) : ∀ l : List α, (insSort le l).Perm l
  | [] => List.Perm.refl _
  | a :: l => (insB_perm le a _).trans ((insSort_perm le l).cons a)
theorem insB_map {α β : Type} {le : α → α → Bool} {le' : β → β → Bool} {f : α → β} (h : ∀ a b, le' (f a) (f b) = le a b) (a : α) : ∀ l : List α, insB le' (f a) (l.map f) = (insB le a l).map f
  | [] => rfl
  | b :: l => by
    show (if le' (f a) (f b) then f a :: f b :: l.map f else f b :: insB le' (f a) (l.map f)) = (if le a b then a :: b :: l else b :: insB le a l).map f
    rw [h, insB_map h a l]
    split <;> rfl
theorem insSort_map {α β : Type} {le : α → α → Bool} {le' : β → β → Bool} {f : α → β} (h : ∀ a b, le' (f a) (f b) = le a b) : ∀ l : List α, insSort le' (l.map f) = (insSort le l).map f
  | [] => rfl
  | a :: l => by
    show insB le' (f a) (insSort le' (l.map f)) = _
    rw [insSort_map h l, insB_map h]
    rfl
theorem insSort_len {α : Type} (le : α → α → Bool) (l : List α) : (insSort le l).length = l.length := (insSort_perm le l).length_eq
theorem insSort_mem {α : Type} {le : α → α → Bool} {l : List α} {x : α} : x ∈ insSort le l ↔ x ∈ l := (insSort_perm le l).mem_iff
/-- of data in order -/
def leD (p q : PyData) : Bool := !PySem.W.dataLt q p
structure Ranked (l : List PyData) : Prop where
  a : alikeL l = true
  t : (l.all isTup1 || l.all noTup) = true
  p : (l.all fun d => d.plain && decide (d.depth ≤ 100)) = true
  z : l.length ≤ 1000000
theorem ranked_ds {l : List PyData} (R : Ranked l) : (kindL l && (l.all fun d => d.plain && decide (d.depth ≤ 100)) && decide (l.length ≤ 1000000)) = true := by
  unfold kindL
  rw [R.a, R.t, R.p, decide_eq_true R.z]; rfl
theorem zip_self {l : List PyData} : (l.map PV.d).zip l = l.map fun x => (PV.d x, x) := by
  induction l with
  | nil => rfl
  | cons a l ih => rw [List.map_cons, List.zip_cons_cons, ih]; rfl
theorem sorted_lst {l : List PyData} (R : Ranked l) (st : Store) : vSorted false [.d (.list l)] st = some (.d (.list (insSort leD l)), st) := by
  show (match frzL (frz 6 st) (l.map PV.d) with
    | some ds => if kindL ds && (ds.all fun d => d.plain && decide (d.depth ≤ 100)) && decide (ds.length ≤ 1000000) then newL false ((insSort leP ((l.map PV.d).zip ds)).map (fun q : PV × PyData => q.1)) st else none
    | none => none) = _
  rw [frzL_data]
  dsimp only
  rw [if_pos (ranked_ds R), zip_self, insSort_map (le := leD) (f := fun x => (PV.d x, x)) (fun _ _ => rfl), List.map_map]
  show newL false ((insSort leD l).map PV.d) st = _
  unfold newL
  rw [if_neg (by decide), datas_map]
theorem sortedC {st : Store} {n : Nat} {l : List PyData} (h : st[n]? = some (.lst (l.map .d))) (R : Ranked l) : vSorted false [.cell n] st = some (.d (.list (insSort leD l)), st) := by
  show (if isList (.cell n) st then match seqItems (.cell n) st with
    | some xs => match frzL (frz 6 st) xs with
      | some ds => if kindL ds && (ds.all fun d => d.plain && decide (d.depth ≤ 100)) && decide (ds.length ≤ 1000000) then newL false ((insSort leP (xs.zip ds)).map (fun q : PV × PyData => q.1)) st else none
      | none => none
    | none => none
    else none) = _
  rw [isListC h, seqC h, if_pos rfl]
  dsimp only
  rw [frzL_data]
  dsimp only
  rw [if_pos (ranked_ds R), zip_self, insSort_map (le := leD) (f := fun x => (PV.d x, x)) (fun _ _ => rfl), List.map_map]
  show newL false ((insSort leD l).map PV.d) st = _
  unfold newL
  rw [if_neg (by decide), datas_map]
theorem all_map {α β : Type} {f : α → β} {p : β → Bool} (h : ∀ a, p (f a) = true) (l : List α) : (l.map f).all p = true := by
  rw [List.all_map]
  exact List.all_eq_true.mpr fun a _ => h a
theorem ranked_ints {l : List Int} (h : l.length ≤ 1000000) : Ranked (l.map PyData.int) :=
  ⟨by
    unfold alikeL
    exact all_map (f := PyData.int) (p := fun d => (l.map PyData.int).all fun e => PySem.W.alike d e) (fun a => all_map (f := PyData.int) (p := fun e => PySem.W.alike (.int a) e) (fun _ => rfl) l) l, by rw [all_map (p := noTup) (fun _ => rfl) l, Bool.or_true], all_map (fun _ => rfl) l, by rw [List.length_map]; exact h⟩
end Sr
/-! Values of all kinds. -/
namespace Sr
open PySem L2
def rowOf : PyData → List PyData
  | .tuple l => l
  | _ => []
def intOf : PyData → Int
  | .int i => i
  | _ => 0
def isTup (d : PyData) : Bool := isiB (kindD d) "tuple"
theorem tup_of {d : PyData} (h : isTup d = true) : ∃ l, d = .tuple l := by
  cases d with
  | tuple l => exact ⟨l, rfl⟩
  | _ => cases h
theorem row_tup {d : PyData} {x : PyData} {l : List PyData} (h : rowOf d = x :: l) : d = .tuple (x :: l) := by
  cases d with
  | tuple l => exact congrArg _ h
  | _ => cases h
@[simp] theorem eq_bool (neg x y : Bool) (st : Store) : vEq neg (.d (.bool x)) (.d (.bool y)) st = some (.d (.bool (if neg then !(x == y) else (x == y))), st) := by
  cases neg <;> cases x <;> cases y <;> rfl
@[simp] theorem neg_int (i : Int) (st : Store) : vNeg (.d (.int i)) st = some (.d (.int (-i)), st) := rfl
theorem listD_tup (l : List PyData) (st : Store) : vListD false [.d (.tuple l)] st = some (.d (.list l), st) := by
  show newL false (l.map PV.d) st = _
  unfold newL
  rw [if_neg (by decide), datas_map]
theorem listD_lst (l : List PyData) (st : Store) : vListD false [.d (.list l)] st = some (.d (.list l), st) := by
  show newL false (l.map PV.d) st = _
  unfold newL
  rw [if_neg (by decide), datas_map]
theorem rev_tup (m : Bool) (l : List PyData) (st : Store) : vRev2 m (.d (.tuple l)) st = some (.d (.tuple l.reverse), st) := by
  show some (mkTup (l.map PV.d).reverse, st) = _
  rw [← List.map_reverse, mkTup_data]
theorem lt_data {a b : PyData} (ha : a.plain = true) (hb : b.plain = true) (hd : min a.depth b.depth ≤ 100) (hk : PySem.W.alike a b = true) (hn : isNoneD a = false) (st : Store) : vLt (.d a) (.d b) st = some (.d (.bool (PySem.W.dataLt a b)), st) := by
  have h : vLt (.d a) (.d b) st = (match cmpD (.d a) (.d b) st with
      | some (d, e) => if PySem.W.alike d e && !isNoneD d then vB2 (PySem.W.dataLt d e) st else none
      | none => none) ∨ ∃ i j, a = .int i ∧ b = .int j := by
    cases a with
    | int i => cases b with
      | int j => exact .inr ⟨i, j, rfl, rfl⟩
      | _ => exact .inl rfl
    | _ => exact .inl rfl
  have hc : cmpD (.d a) (.d b) st = some (a, b) := by
    unfold cmpD
    rw [frz_d, frz_d]
    dsimp only
    rw [if_pos (by rw [ha, hb]; simpa using hd)]
  rcases h with h | ⟨i, j, rfl, rfl⟩
  · rw [h, hc]
    dsimp only
    rw [if_pos (by rw [hk, hn]; rfl)]
    rfl
  · show some (PV.d (.bool (decide (i < j))), st) = _
    have : PySem.W.dataLt (.int i) (.int j) = decide (i < j) := by
      by_cases h : i < j
      · simp [PySem.W.dataLt, PySem.W.keyToks, PyProof.Rows.lexLt, PyProof.Rows.itemOrd, PyProof.Rows.itemLt, h]
      · simp [PySem.W.dataLt, PySem.W.keyToks, PyProof.Rows.lexLt, PyProof.Rows.itemOrd, PyProof.Rows.itemLt, h]
    rw [this]
/-- two rows side by side -/
def zipD (a b : List PyData) : List PyData := (a.zip b).map fun p => .tuple [p.1, p.2]
theorem zip_tup {r : Dens} {fr : Fr} {st st1 : Store} {a b : List PyData} (h : r fr st = .ok [.d (.tuple a), .d (.tuple b)] st1) : dZip r fr st = .ok (.vals ((zipD a b).map .d)) st1 := by
  unfold dZip
  rw [h]
  show Res.ok (Src.vals (zipVals (a.map .d) (b.map .d))) st1 = _
  unfold zipVals zipD
  rw [List.zip_map, List.map_map, List.map_map]
  rfl
theorem zip_lst {r : Dens} {fr : Fr} {st st1 : Store} {a b : List PyData} (h : r fr st = .ok [.d (.list a), .d (.list b)] st1) : dZip r fr st = .ok (.vals ((zipD a b).map .d)) st1 := by
  unfold dZip
  rw [h]
  show Res.ok (Src.vals (zipVals (a.map .d) (b.map .d))) st1 = _
  unfold zipVals zipD
  rw [List.zip_map, List.map_map, List.map_map]
  rfl
end Sr
/-! Rows drawn item by item. -/
namespace Sr
open PySem L2
section
variable {Dk : Nat → Store → Prop}
theorem loopC_drawE {P : PyData → Prop} {t : Tg} {e : Den} {fr0 : Fr} (z : Store) (q : Nat) : ∀ {xs : List PV},
    (∀ v ∈ xs, ∃ fr1, t.put v fr0 = some fr1 ∧ ∀ n D, Dk (n + q) D → ∃ y D', P y ∧ Dk n D' ∧ e fr1 (D ++ z) = .ok (.d y) (D' ++ z)) →
    ∀ n D, Dk (n + q * xs.length) D → ∃ (ys : List PyData) (D' : Store), ys.length = xs.length ∧ (∀ y ∈ ys, P y) ∧ Dk n D' ∧ loopC t dYes e fr0 xs (D ++ z) = .ok (ys.map .d) (D' ++ z)
  | [], _, n, D, hD => ⟨[], D, rfl, fun y hy => (by cases hy), hD, rfl⟩
  | v :: xs, h, n, D, hD => by
    obtain ⟨fr1, e1, h1⟩ := h v List.mem_cons_self
    have e0 : n + q * (v :: xs).length = (n + q * xs.length) + q := by rw [List.length_cons, Nat.mul_succ, Nat.add_assoc]
    rw [e0] at hD
    obtain ⟨y, D1, p1, k1, e2⟩ := h1 _ D hD
    obtain ⟨ys, D2, l2, p2, k2, e3⟩ := loopC_drawE z q (fun w hw => h w (List.mem_cons_of_mem _ hw)) n D1 k1
    refine ⟨y :: ys, D2, by rw [List.length_cons, List.length_cons, l2], fun w hw => ?_, k2, ?_⟩
    · rcases List.mem_cons.mp hw with rfl | hw
      · exact p1
      · exact p2 w hw
    · show (turnC t dYes e fr0 v (D ++ z)).bind (fun y st1 => (loopC t dYes e fr0 xs st1).bind fun ys st2 => .ok (consO y ys) st2) = _
      have ht : turnC t dYes e fr0 v (D ++ z) = .ok (some (.d y)) (D1 ++ z) := by
        unfold turnC
        rw [e1]
        show (noX (e fr1 (D ++ z))).bind _ = _
        rw [e2]
        rfl
      rw [ht, bind_rok, e3, bind_rok]
      rfl
theorem comp_drawE {P : PyData → Prop} {t : Tg} {vs : List Nat} {d : DI} {e : Den} {fr : Fr} (z : Store) (q : Nat) {xs : List PV} (n : Nat) (D : Store) (hd : d fr (D ++ z) = .ok (.vals xs) (D ++ z)) (hz : xs.length ≤ 1000000)
    (h : ∀ v ∈ xs, ∃ fr1, t.put v (wipeF fr vs) = some fr1 ∧ ∀ n D, Dk (n + q) D → ∃ y D', P y ∧ Dk n D' ∧ e fr1 (D ++ z) = .ok (.d y) (D' ++ z)) (hD : Dk (n + q * xs.length) D) :
    ∃ (ys : List PyData) (D' : Store), ys.length = xs.length ∧ (∀ y ∈ ys, P y) ∧ Dk n D' ∧ dComp false t vs d dYes e fr (D ++ z) = .ok (.d (.list ys)) (D' ++ z) := by
  obtain ⟨ys, D', l1, p1, k1, e1⟩ := loopC_drawE z q h n D hD
  refine ⟨ys, D', l1, p1, k1, ?_⟩
  unfold dComp
  rw [hd]
  show ((if sizeOk xs.length = true then loopC t dYes e (wipeF fr vs) xs (D ++ z) else .bad).bind _) = _
  rw [if_pos (show sizeOk xs.length = true from decide_eq_true hz), e1, bind_rok, if_neg (by decide), datas_map]
end
/-- range(n) -/
def rangeV (n : Nat) : List PV := (List.range n).map fun i => PV.d (.int (0 + (i : Nat)))
theorem rangeV_len (n : Nat) : (rangeV n).length = n := by unfold rangeV; rw [List.length_map, List.length_range]
theorem rangeV_int {n : Nat} : ∀ v ∈ rangeV n, ∃ i : Int, v = .d (.int i) := by
  intro v hv
  obtain ⟨i, _, rfl⟩ := List.mem_map.mp hv
  exact ⟨_, rfl⟩
theorem range_ok {r : Dens} {fr : Fr} {st st1 : Store} {n : Nat} (hn : n ≤ 1000000) (h : r fr st = .ok [.d (.int (n : Int))] st1) : dRange1 r fr st = .ok (.vals (rangeV n)) st1 := by
  unfold dRange1
  rw [h]
  have hq : inB (n : Int) = true := by unfold inB; simp; omega
  show (if inB (n : Int) then Res.ok (Src.vals (rangeVals 0 (n : Int).toNat)) st1 else .bad) = _
  rw [if_pos hq, Int.toNat_natCast]
  rfl
theorem take_pre (l : List PyData) (i : Nat) : cutL l none (some (i : Int)) = l.take i := cut_pre l i
theorem drop_suf (l : List PyData) (i : Nat) : cutL l (some ((i : Int) + 1)) none = l.drop (i + 1) := cut_suf l (i + 1)
/-- l[:i] + (x,) + l[i + 1:] -/
def putAt (l : List PyData) (i : Nat) (x : PyData) : List PyData := l.take i ++ [x] ++ l.drop (i + 1)
theorem putAt_mem {l : List PyData} {i : Nat} {x y : PyData} (h : y ∈ putAt l i x) : y = x ∨ y ∈ l := by
  unfold putAt at h
  rcases List.mem_append.mp h with h | h
  · rcases List.mem_append.mp h with h | h
    · exact .inr (List.mem_of_mem_take h)
    · exact .inl (List.mem_singleton.mp h)
  · exact .inr (List.mem_of_mem_drop h)
theorem putAt_len {l : List PyData} {i : Nat} (x : PyData) (h : i < l.length) : (putAt l i x).length = l.length := by
  unfold putAt
  rw [List.length_append, List.length_append, List.length_take, List.length_drop, List.length_singleton]
  omega
theorem add_put1 (l : List PyData) (i : Nat) (x : PyData) (hl : l.length ≤ 900000) (st : Store) : vAdd false (.d (.tuple (l.take i))) (.d (.tuple [x])) st = some (.d (.tuple (l.take i ++ [x])), st) := by
  rw [add_tup, if_pos (by rw [List.length_take, List.length_singleton]; omega)]
theorem add_put2 (l : List PyData) (i : Nat) (x : PyData) (hl : l.length ≤ 900000) (st : Store) : vAdd false (.d (.tuple (l.take i ++ [x]))) (.d (.tuple (l.drop (i + 1)))) st = some (.d (.tuple (putAt l i x)), st) := by
  rw [add_tup, if_pos (by rw [List.length_append, List.length_take, List.length_singleton, List.length_drop]; omega)]
  rfl
end Sr
/-! What can be shown, by a look; answers by a look. -/
namespace Sr
open PySem L2
def syB (c k : Nat) (d : PyData) : Bool := shy d && d.showable && decide (d.depth ≤ k) && decide (d.shown.length ≤ c)
theorem syB_ok {c k : Nat} {d : PyData} (h : syB c k d = true) : Sy c k d := by
  unfold syB at h
  simp only [Bool.and_eq_true, decide_eq_true_eq] at h
  exact ⟨h.1.1.1, h.1.1.2, h.1.2, h.2⟩
theorem Sy.repr {c k : Nat} {d : PyData} (h : Sy c k d) (st : Store) (hc : c ≤ 1000000 := by decide) (hk : k ≤ 100 := by decide) : vRepr [.d d] st = some (.d (.str d.shown), st) := repr_sy h hc hk st
theorem Sy.str {x : Str} (h : (PyData.str x).showable = true) : Sy (PyData.str x).shown.length 0 (.str x) := ⟨rfl, h, Nat.le_refl _, Nat.le_refl _⟩
theorem Sy.non : Sy 5 0 .none := Sm.non.sy
theorem Sy.bool (b : Bool) : Sy 5 0 (.bool b) := (Sm.bool b).sy
mutual
/-- the same data -/
def sameD : PyData → PyData → Bool
  | .none, .none => true
  | .bool a, .bool b => a == b
  | .int a, .int b => decide (a = b)
  | .str a, .str b => decide (a = b)
  | .list a, .list b => sameDs a b
  | .tuple a, .tuple b => sameDs a b
  | .dict a, .dict b => sameDk a b
  | _, _ => false
def sameDs : List PyData → List PyData → Bool
  | [], [] => true
  | a :: l, b :: r => sameD a b && sameDs l r
  | _, _ => false
def sameDk : List (PyData × PyData) → List (PyData × PyData) → Bool
  | [], [] => true
  | (a, c) :: l, (b, d) :: r => sameD a b && sameD c d && sameDk l r
  | _, _ => false
end
mutual
theorem sameD_ok : ∀ (a b : PyData), sameD a b = true → a = b
  | .none, b, h => by cases b <;> first | rfl | (simp [sameD] at h)
  | .bool x, b, h => by cases b <;> first | (simp [sameD] at h; rw [h]; done) | (simp [sameD] at h)
  | .int x, b, h => by cases b <;> first | (simp [sameD] at h; rw [h]; done) | (simp [sameD] at h)
  | .str x, b, h => by cases b <;> first | (simp [sameD] at h; rw [h]; done) | (simp [sameD] at h)
  | .list x, b, h => by
    cases b <;> first | (simp [sameD] at h; done) | skip
    rw [sameD] at h
    rw [sameDs_ok _ _ h]
  | .tuple x, b, h => by
    cases b <;> first | (simp [sameD] at h; done) | skip
    rw [sameD] at h
    rw [sameDs_ok _ _ h]
  | .dict x, b, h => by
    cases b <;> first | (simp [sameD] at h; done) | skip
    rw [sameD] at h
    rw [sameDk_ok _ _ h]
theorem sameDs_ok : ∀ (a b : List PyData), sameDs a b = true → a = b
  | [], [], _ => rfl
  | [], _ :: _, h => by simp [sameDs] at h
  | _ :: _, [], h => by simp [sameDs] at h
  | a :: l, b :: r, h => by
    rw [sameDs, Bool.and_eq_true] at h
    rw [sameD_ok a b h.1, sameDs_ok l r h.2]
theorem sameDk_ok : ∀ (a b : List (PyData × PyData)), sameDk a b = true → a = b
  | [], [], _ => rfl
  | [], _ :: _, h => by simp [sameDk] at h
  | _ :: _, [], h => by simp [sameDk] at h
  | (a, c) :: l, (b, d) :: r, h => by
    rw [sameDk, Bool.and_eq_true, Bool.and_eq_true] at h
    rw [sameD_ok a b h.1.1, sameD_ok c d h.1.2, sameDk_ok l r h.2]
end
/-- the data that a call answers -/
def ansD : Res PV → Option PyData
  | .ok (.d d) [] => some d
  | _ => none
theorem ansD_ok {r : Res PV} {d : PyData} (h : ansD r = some d) : r = .ok (.d d) [] := by
  unfold ansD at h
  split at h
  · cases h; rfl
  · cases h
/-! one statement behind another -/
theorem step_nx {a b : DS} {fr fr1 : Fr} {st st1 : Store} {r : Res PV} (h : a fr st = .nx fr1 st1) (h2 : retF (b fr1 st1) = r) : retF (sSeq a b fr st) = r := by rw [x_seq, h]; exact h2
theorem step_rt {a b : DS} {fr : Fr} {st st1 : Store} {v : PV} {r : Res PV} (h : a fr st = .rt v st1) (h2 : .ok v st1 = r) : retF (sSeq a b fr st) = r := by rw [x_seq, h]; exact h2
theorem step_ex {a b : DS} {fr fr1 : Fr} {st st1 : Store} {e : PX} {r : Res PV} (h : a fr st = .ex e fr1 st1) (h2 : .exc e st1 = r) : retF (sSeq a b fr st) = r := by rw [x_seq, h]; exact h2
theorem seq_nx {a b : DS} {fr fr1 : Fr} {st st1 : Store} {r : RO} (h : a fr st = .nx fr1 st1) (h2 : b fr1 st1 = r) : sSeq a b fr st = r := by rw [x_seq, h]; exact h2
theorem seq_rt {a b : DS} {fr : Fr} {st st1 : Store} {v : PV} {r : RO} (h : a fr st = .rt v st1) (h2 : .rt v st1 = r) : sSeq a b fr st = r := by rw [x_seq, h]; exact h2
theorem seq_ct {a b : DS} {fr fr1 : Fr} {st st1 : Store} {r : RO} (h : a fr st = .ct fr1 st1) (h2 : .ct fr1 st1 = r) : sSeq a b fr st = r := by rw [x_seq, h]; exact h2
/-- a list beside [], whatever lies in it -/
theorem eq_nilA (neg : Bool) (l : List PyData) (st : Store) : vEq neg (.d (.list l)) (.d (.list [])) st = some (.d (.bool (if neg then !l.isEmpty else l.isEmpty)), st) := by
  by_cases h : PyData.plainAll l = true
  · exact eq_nilL neg st h
  · have e : vEqP neg (.d (.list l)) (.d (.list [])) st = none := by
      unfold vEqP cmpD
      rw [frz_d, frz_d]
      dsimp only
      rw [if_neg (by rw [plain_lst]; simp [h])]
    cases l with
    | nil => exact absurd rfl h
    | cons a l =>
      have e2 : vEqL neg (.d (.list (a :: l))) (.d (.list [])) st = some (.d (.bool (if neg then !(a :: l).isEmpty else (a :: l).isEmpty)), st) := by
        show (match seqItems (.d (.list (a :: l))) st, seqItems (.d (.list [])) st with
          | some xs, some ys => if xs.length = ys.length then none else vB2 neg st
          | _, _ => none) = _
        show (if ((a :: l).map PV.d).length = 0 then none else vB2 neg st) = _
        rw [if_neg (by simp)]
        cases neg <;> rfl
      unfold vEq vEqS
      rw [e, e2]
theorem eq_nilB (neg : Bool) (l : List PyData) (st : Store) : vEq neg (.d (.tuple l)) (.d (.tuple [])) st = some (.d (.bool (if neg then !l.isEmpty else l.isEmpty)), st) := by
  by_cases h : PyData.plainAll l = true
  · exact eq_nilT neg st h
  · have e : vEqP neg (.d (.tuple l)) (.d (.tuple [])) st = none := by
      unfold vEqP cmpD
      rw [frz_d, frz_d]
      dsimp only
      rw [if_neg (by rw [plain_tup]; simp [h])]
    cases l with
    | nil => exact absurd rfl h
    | cons a l =>
      have e1 : vEqL neg (.d (.tuple (a :: l))) (.d (.tuple [])) st = none := rfl
      have e2 : vEqT neg (.d (.tuple (a :: l))) (.d (.tuple [])) st = some (.d (.bool (if neg then !(a :: l).isEmpty else (a :: l).isEmpty)), st) := by
        cases neg <;> rfl
      unfold vEq vEqS
      rw [e, e1, e2]
end Sr
namespace Sr
open PySem L2
def top (i : Nat) : Stmt := PySem.Challenge.pw_stillrounds_k06_texts_of_worlds.main.body.getD i (.Pass ⟨0, 0, 0, 0⟩)
def df (i : Nat) (x : Str) (N ps : List Str) : DF := ⟨x, x, defArgs (top i), defBody (top i), defScope (top i), N, ps⟩
def cfg : Cfg where
  defs := [df 6 "world_text" ["world"] ["world"],
    df 7 "read_world" ["value", "roads", "tours"] ["value"],
    df 9 "_law_deck" ["script", "deck", "cell", "whole", "state"] ["script"],
    df 10 "_law_draw" ["deck", "many", "one", "two", "whole"] ["deck", "many"],
    df 11 "_law_pick" ["deck", "items"] ["deck", "items"],
    df 12 "_law_texts" ["found", "roads", "tours"] [],
    df 13 "_law_heard" ["value", "is_named", "slip"] ["value", "is_named"],
    df 14 "_law_spoilt" ["deck", "text", "sign", "at", "way"] ["deck", "text"],
    df 15 "law" ["script", "deck", "table", "text", "turn", "told", "odd", "value", "is_right", "due"] ["script"]]
  gl := [("ROADS", .tuple [.str "slow", .str "at once"]),
    ("TOURS", .tuple [.str "alike", .str "anew"])]
  md := []
  bl := ["abs", "int", "isinstance", "len", "list", "range", "repr", "str"]
  sh := ["_law_deck", "_law_draw", "_law_pick", "_law_spoilt", "_law_texts"]
  cs := [(22, 11), (22, 20), (22, 33), (26, 27), (45, 12), (70, 16)]
  fw := 100
  fuel := 30
  xs := [⟨"StillError", none, ["StillError"]⟩, ⟨"BadText", some "line", ["BadText", "StillError"]⟩]
def cf (n : Nat) (x : Str) : List PV → Store → Res PV := match cfg.tab n x with
  | some I => if cfg.sh.contains x then I.F else isoF I.F
  | none => fun _ _ => .bad
theorem okAll : cfg.defs.all DF.okB = true := by decide +kernel
end Sr
namespace Sr
open PySem L2 PySem.Spec PyProof.Rows
abbrev R : PySem.W.OpenRow := PySem.W.OpenLaw.row PySem.Challenge.rw_stillrounds_k06_texts_of_worlds
def ob (s : PySem.W.SharedT) : AlS := obsS 5 cfg (HandSHeadRun.getT s)
theorem ob_eq (s : PySem.W.SharedT) : ob s = (hookS 5 cfg).obs s.abs := obsS_eq (HandSHeadRun.getT_eq s)
def loose : List Str := "__name__" :: "StillError" :: "BadText" :: "ROADS" :: "TOURS" :: "world_text" :: "read_world" :: "_law_deck" :: "_law_draw" :: "_law_pick" :: "_law_texts" :: "_law_heard" :: "_law_spoilt" :: []
theorem run_t (w : World) : HandSHeadRun.RunEq R (PySem.W.view R.prog [15]) (hookS 5 cfg) ob 8000 loose (w.withFollow "special-get-raises" true) := by intro os; kernel_rfl
theorem run_f (w : World) : HandSHeadRun.RunEq R (PySem.W.view R.prog [15]) (hookS 5 cfg) ob 8000 loose (w.withFollow "special-get-raises" false) := by intro os; kernel_rfl
theorem run_b (w : World) : ∀ b : Bool, HandSHeadRun.RunEq R (PySem.W.view R.prog [15]) (hookS 5 cfg) ob 8000 loose (w.withFollow "special-get-raises" b)
  | true => run_t w
  | false => run_f w
theorem run (w : World) : HandSHeadRun.RunEq R (PySem.W.view R.prog [15]) (hookS 5 cfg) ob 8000 loose w := by
  have h := run_b w (w.params.followText "special-get-raises")
  rwa [World.withFollow_self] at h
end Sr
/-! The deck of the laws k01 to k10. -/
namespace Sr.D1
open Sr PySem L2
/-! dicts by texts, in cells -/
section
variable {st : Store} {n : Nat} {kvs : List (Key × PV)}
theorem idxK (h : st[n]? = some (.dic kvs)) (k : Str) : vIdx (.cell n) (.d (.str k)) st = (valP kvs (.inr k)).map fun v => (v, st) := by
  show vIdx2 (.cell n) (.d (.str k)) st = _
  unfold vIdx2
  have e : seqItems (.cell n) st = none := by
    show (match st[n]? with
      | some (.lst xs) => some xs
      | _ => none) = _
    rw [h]
  rw [e]
  dsimp only
  have e2 : dictVal (.cell n) (.d (.str k)) st = some (valP kvs (.inr k)) := by
    show (match st[n]? with
      | some (.dic kvs) => some (valP kvs (.inr k))
      | some (.dicL kvs) => some (valP kvs (.inr k))
      | _ => none) = _
    rw [h]
  rw [e2]
  cases valP kvs (.inr k) <;> rfl
theorem setK (h : st[n]? = some (.dic kvs)) (hz : kvs.length < 1000000) (k : Str) (v : PV) : vSetC (.cell n) (.d (.str k)) v st = some (st.set n (.dic (putP kvs (.inr k) v))) := by
  show (match st[n]? with
    | some (.lst xs) => _
    | some (.dic kvs) => if kvs.length < 1000000 then some (st.set n (.dic (putP kvs (.inr k) v))) else none
    | _ => none) = _
  rw [h]
  dsimp only
  rw [if_pos hz]
end
def dkD (j : Nat) (x : Int) : PO := .dic [(.inr "deep", .cell j), (.inr "state", .d (.int x))]
theorem d1_deep {st : Store} {j : Nat} {x : Int} (h : st[1]? = some (dkD j x)) : vIdx (.cell 1) (.d (.str "deep")) st = some (.cell j, st) := by rw [idxK h]; rfl
theorem d1_state {st : Store} {j : Nat} {x : Int} (h : st[1]? = some (dkD j x)) : vIdx (.cell 1) (.d (.str "state")) st = some (.d (.int x), st) := by rw [idxK h]; rfl
theorem d1_sdeep {st : Store} {j : Nat} {x : Int} (k : Nat) (h : st[1]? = some (dkD j x)) : vSetC (.cell 1) (.d (.str "deep")) (.cell k) st = some (st.set 1 (dkD k x)) := by
  rw [setK h (by show 2 < 1000000; decide)]
  rfl
theorem d1_sstate {st : Store} {j : Nat} {x : Int} (y : Int) (h : st[1]? = some (dkD j x)) : vSetC (.cell 1) (.d (.str "state")) (.d (.int y)) st = some (st.set 1 (dkD j y)) := by
  rw [setK h (by show 2 < 1000000; decide)]
  rfl
theorem popC {st : Store} {j : Nat} {l : List Int} {y : Int} (h : st[j]? = some (.lst (intL (l ++ [y])))) : vPop0 (.cell j) [] st = some (.d (.int y), st.set j (.lst (intL l))) := by
  show (match st[j]? with
    | some (.lst xs) => match xs[xs.length - 1]? with
      | some y => some (y, st.set j (.lst xs.dropLast))
      | none => none
    | _ => none) = _
  rw [h]
  have e : intL (l ++ [y]) = intL l ++ [.d (.int y)] := by unfold intL; simp
  rw [e]
  have e1 : (intL l ++ [PV.d (.int y)])[(intL l ++ [PV.d (.int y)]).length - 1]? = some (.d (.int y)) := by simp
  dsimp only
  rw [e1]
  dsimp only
  rw [List.dropLast_concat]
theorem pushC {st : Store} {j : Nat} {l : List Int} (y : Int) (h : st[j]? = some (.lst (intL l))) (hz : l.length < 1000000) : vAppend (.cell j) [.d (.int y)] st = some (.d .none, st.set j (.lst (intL (l ++ [y])))) := by
  rw [appC h (by rw [intL_length]; exact hz)]
  unfold intL
  simp
/-- the deck: L cells, the dict in cell 1 -/
def Dk1 (L : Nat) (_n : Nat) (D : Store) : Prop := D.length = L ∧ ∃ l x j, D[1]? = some (dkD j x) ∧ D[j]? = some (.lst (intL l)) ∧ l.length ≤ 100 ∧ 0 ≤ x ∧ x < 2 ^ 62
def S_d1i1 : DS :=
  (sIf (dCmpT (dOp vLt (dVar 1) (dC (.int 2)))) (sSeq (sRet (dC (.int 0)))
  sNext) sNext)
def S_d1draw : DS :=
  (sSeq S_d1i1
  (sSeq (sIf (dCmpT (dOp (vEq true) (dOp vIdx (dVar 0) (dC (.str "deep"))) (dLst dNil))) (sSeq (sSet 4 (dMeth .list vPop0 (dOp vIdx (dVar 0) (dC (.str "deep"))) dNil))
  (sSeq (sIf (dCmpT (dOp (vCmpI fun i j => decide (j ≤ i)) (dVar 4) (dVar 1))) (sSeq (sExpr (dMeth .list vAppend (dOp vIdx (dVar 0) (dC (.str "deep"))) (dCons (dOp vDiv (dVar 4) (dVar 1)) dNil)))
  sNext) sNext)
  (sSeq (sRet (dOp vMod (dB vIntOf (dCons (dVar 4) dNil)) (dVar 1)))
  sNext))) sNext)
  (sSeq (sSet 2 (dOp vMod (dB vIntOf (dCons (dOp (vAdd false) (dOp vMul (dOp vIdx (dVar 0) (dC (.str "state"))) (dC (.int 1181783497276652981))) (dC (.int 88172645463325))) dNil)) (dC (.int 2305843009213693951))))
  (sSeq (sAsg (dVar 2) (gSubC (dVar 0) (dC (.str "state"))))
  (sSeq (sSet 3 (dOp vMod (dB vIntOf (dCons (dOp (vAdd false) (dOp (vAdd false) (dOp vMul (dVar 2) (dVar 2)) (dOp vMul (dC (.int 374761393)) (dVar 2))) (dC (.int 11))) dNil)) (dC (.int 2305843009213693921))))
  (sSeq (sRet (dOp vMod (dB vIntOf (dCons (dOp vDiv (dVar 3) (dC (.int 1048576))) dNil)) (dVar 1)))
  sNext))))))
theorem int_int' (i : Int) (st : Store) : vIntOf [.d (.int i)] st = some (.d (.int i), st) := rfl
theorem getAd {D z : Store} {i : Nat} {o : PO} (h : D[i]? = some o) : (D ++ z)[i]? = some o := by
  rw [List.getElem?_append_left (List.getElem?_eq_some_iff.mp h).1]
  exact h
theorem setAd {D z : Store} {i : Nat} {o u : PO} (h : D[i]? = some o) : (D ++ z).set i u = D.set i u ++ z := List.set_append_left _ _ (List.getElem?_eq_some_iff.mp h).1
theorem getSd {D : Store} {i : Nat} {o u : PO} (h : D[i]? = some o) : (D.set i u)[i]? = some u := List.getElem?_set_self (List.getElem?_eq_some_iff.mp h).1
theorem deck1 (L : Nat) : Deck L 1 (Dk1 L) (bodyF 5 2 S_d1draw) where
  len := fun h => h.1
  mono := fun h => h
  draw := fun {n D} z many m1 m2 ⟨hL, l, x, j, h1, h2, h3, h4, h5⟩ => by
    have ne1 : j ≠ 1 := fun e => by
      rw [e, h1] at h2
      cases h2
    show ∃ (r : Nat) (D' : Store), (r : Int) < many ∧ Dk1 L n D' ∧ retF (S_d1draw [some (.cell 1), some (.d (.int many)), none, none, none] (D ++ z)) = .ok (.d (.int (r : Nat))) (D' ++ z)
    unfold S_d1draw
    by_cases hm : many < 2
    · have e1 : S_d1i1 [some (.cell 1), some (.d (.int many)), none, none, none] (D ++ z) = .rt (.d (.int 0)) (D ++ z) := by
        unfold S_d1i1
        simp [hm]
      refine ⟨0, D, by omega, ⟨hL, l, x, j, h1, h2, h3, h4, h5⟩, ?_⟩
      rw [x_seq, e1]
      rfl
    have e1 : S_d1i1 [some (.cell 1), some (.d (.int many)), none, none, none] (D ++ z) = .nx [some (.cell 1), some (.d (.int many)), none, none, none] (D ++ z) := by
      unfold S_d1i1
      simp [hm]
    rw [x_seq, e1]
    dsimp only
    have pos : (0 : Int) < many := by omega
    have lm : many.natAbs.log2 < 9000 := by
      have := log2_le (n := many.natAbs) (k := 40) (by omega)
      omega
    have g1 := getAd (z := z) h1
    have g2 := getAd (z := z) h2
    have a1 := d1_deep g1
    have a2 := d1_state g1
    have a3 := ne_nil (l := l) g2
    rcases List.eq_nil_or_concat l with rfl | ⟨l0, y, rfl⟩
    · have b1 : x.natAbs.log2 + (1181783497276652981 : Int).natAbs.log2 < 100000000 := by
        have := log2_le (n := x.natAbs) (k := 70) (by omega)
        have := log2_le (n := (1181783497276652981 : Int).natAbs) (k := 70) (by decide)
        omega
      generalize hu : (x * 1181783497276652981 + 88172645463325) % 2305843009213693951 = u
      have hu0 : 0 ≤ u := by rw [← hu]; exact Int.emod_nonneg _ (by decide)
      have hu1 : u < 2305843009213693951 := by rw [← hu]; exact Int.emod_lt_of_pos _ (by decide)
      have b2 : u.natAbs.log2 + u.natAbs.log2 < 100000000 := by
        have := log2_le (n := u.natAbs) (k := 70) (by omega)
        omega
      have b3 : (374761393 : Int).natAbs.log2 + u.natAbs.log2 < 100000000 := by
        have := log2_le (n := u.natAbs) (k := 70) (by omega)
        have := log2_le (n := (374761393 : Int).natAbs) (k := 70) (by decide)
        omega
      generalize hv : (u * u + 374761393 * u + 11) % 2305843009213693921 = v
      have hv0 : 0 ≤ v := by rw [← hv]; exact Int.emod_nonneg _ (by decide)
      have hr0 : 0 ≤ v / 1048576 % many := Int.emod_nonneg _ (by omega)
      have hr1 : v / 1048576 % many < many := Int.emod_lt_of_pos _ pos
      obtain ⟨r, hr⟩ : ∃ r : Nat, (r : Int) = v / 1048576 % many := ⟨(v / 1048576 % many).toNat, by omega⟩
      refine ⟨r, D.set 1 (dkD j u), by omega, ⟨by rw [List.length_set]; exact hL, [], u, j, getSd h1, ?_, by simp, hu0, by omega⟩, ?_⟩
      · rw [List.getElem?_set_ne (Ne.symm ne1)]; exact h2
      have a4 := d1_sstate u g1
      rw [setAd h1] at a4
      simp [a1, a2, a3, a4, hu, hv, ← hr, int_int', mul_int' _ _ _ b1, mul_int' _ _ _ b2, mul_int' _ _ _ b3, mod_int', div_int', pos, show Int.natAbs 1048576 = 1048576 by decide, show Nat.log2 1048576 = 20 by decide]
    · rw [List.concat_eq_append] at *
      have hl : l0.length ≤ 99 := by
        rw [List.length_append, List.length_singleton] at h3
        omega
      have hne : (l0 ++ [y]).isEmpty = false := by cases l0 <;> rfl
      have hr0 : 0 ≤ y % many := Int.emod_nonneg _ (by omega)
      have hr1 : y % many < many := Int.emod_lt_of_pos _ pos
      obtain ⟨r, hr⟩ : ∃ r : Nat, (r : Int) = y % many := ⟨(y % many).toNat, by omega⟩
      have a5 := popC g2
      rw [setAd h2] at a5
      have his : Ty3.is .list (.cell j) (D ++ z) = true := isLC g2
      have k1 : (D.set j (.lst (intL l0)))[1]? = some (dkD j x) := by rw [List.getElem?_set_ne ne1]; exact h1
      have k2 : (D.set j (.lst (intL l0)))[j]? = some (.lst (intL l0)) := getSd h2
      have a6 := d1_deep (getAd (z := z) k1)
      by_cases hy : many ≤ y
      · refine ⟨r, (D.set j (.lst (intL l0))).set j (.lst (intL (l0 ++ [y / many]))), by omega, ⟨by rw [List.length_set, List.length_set]; exact hL, l0 ++ [y / many], x, j, ?_, getSd k2, by simp; omega, h4, h5⟩, ?_⟩
        · rw [List.getElem?_set_ne ne1]; exact k1
        have a7 := pushC (y / many) (getAd (z := z) k2) (by omega)
        rw [setAd k2] at a7
        have his2 : Ty3.is .list (.cell j) (D.set j (.lst (intL l0)) ++ z) = true := isLC (getAd (z := z) k2)
        simp [a1, a3, a5, a6, a7, hne, his, his2, int_int', hy, mod_int', div_int', pos, lm, ← hr]
      · refine ⟨r, D.set j (.lst (intL l0)), by omega, ⟨by rw [List.length_set]; exact hL, l0, x, j, k1, k2, by omega, h4, h5⟩, ?_⟩
        simp [a1, a3, a5, hne, his, int_int', hy, mod_int', div_int', pos, lm, ← hr]
end Sr.D1
/-! The deck of the laws k01 to k10 made. -/
namespace Sr.D1
open Sr PySem L2
def S_d1i (c0 : Int) : DS :=
  (sIf (dCmpT (dOp (vCmpI fun i j => decide (j ≤ i)) (dVar 3) (dOp vPow (dC (.int 10)) (dC (.int 18))))) (sSeq (sAsg (dOp (vAdd true) (dLstC (dCons (dVar 3) dNil)) (dOp vIdx (dVar 1) (dC (.str "deep")))) (gSubC (dVar 1) (dC (.str "deep"))))
  sNext) sNext)
def S_d1b (c0 : Int) : DS :=
  (sSeq (sSet 3 (dB vAbs (dCons (dVar 2) dNil)))
  (sSeq (S_d1i c0)
  (sSeq (sSet 4 (dOp (vAdd false) (dOp vMul (dOp (vAdd false) (dOp (vAdd false) (dOp (vAdd false) (dOp vIdx (dVar 1) (dC (.str "state"))) (dOp vMul (dC (.int 2)) (dVar 3))) (dB vIntOf (dCons (dOp vLt (dVar 2) (dC (.int 0))) dNil))) (dC (.int 1))) (dC (.int 1181783497276652981))) (dC (.int 521288629))))
  (sSeq (sAsg (dOp vMod (dB vIntOf (dCons (dVar 4) dNil)) (dC (.int 2305843009213693951))) (gSubC (dVar 1) (dC (.str "state"))))
  sNext))))
def S_d1deck (c0 : Int) : DS :=
  (sSeq (sSet 1 (dDict true [((dC (.str "deep")), (dLstC dNil)), ((dC (.str "state")), (dOp (vAdd true) (dC (.int c0)) (dB vLen (dCons (dSl (vSl false) (dVar 0) dNoPart (dPart (dC (.int 63)))) dNil))))]))
  (sSeq (sFor (dIt (dSl (vSl false) (dVar 0) dNoPart (dPart (dC (.int 63))))) (gSlot 2) (S_d1b c0))
  (sSeq (sRet (dVar 1))
  sNext)))
theorem abs_int (i : Int) (st : Store) : vAbs [.d (.int i)] st = some (.d (.int (if i < 0 then -i else i)), st) := rfl
theorem pow18 (st : Store) : vPow (.d (.int 10)) (.d (.int 18)) st = some (.d (.int 1000000000000000000), st) := by kernel_rfl
theorem int_bool (b : Bool) (st : Store) : vIntOf [.d (.bool b)] st = some (.d (.int (if b then 1 else 0)), st) := rfl
theorem len_ints (l : List Int) (st : Store) : vLen [.d (.list (l.map .int))] st = some (.d (.int (l.length : Int)), st) := by
  show some (PV.d (.int (((l.map PyData.int).map PV.d).length : Nat)), st) = _
  simp
theorem slice63 (ns : List Int) (h : ns.length ≤ 63) (st : Store) : vSl false (.d (.list (ns.map .int))) none (some (63 : Int)) st = some (.d (.list (ns.map .int)), st) := slice_ints ns h st
theorem catC {st : Store} {k j : Nat} {xs ys : List PV} (h1 : st[k]? = some (.lst xs)) (h2 : st[j]? = some (.lst ys)) (hz : xs.length + ys.length ≤ 1000000) : vAdd true (.cell k) (.cell j) st = some (.cell st.length, st ++ [.lst (xs ++ ys)]) := by
  show (if isList (.cell k) st && isList (.cell j) st then catD true (.cell k) (.cell j) st else none) = _
  rw [isListC h1, isListC h2]
  show catD true (.cell k) (.cell j) st = _
  unfold catD
  rw [seqC h1, seqC h2]
  show (if sizeOk (xs.length + ys.length) then newL true (xs ++ ys) st else none) = _
  rw [if_pos (show sizeOk (xs.length + ys.length) = true from decide_eq_true hz)]
  rfl
def absI (i : Int) : Int := if i < 0 then -i else i
def B1 (m : Nat) (st : Store) : Prop := ∃ l x j, st[1]? = some (dkD j x) ∧ st[j]? = some (.lst (intL l)) ∧ l.length ≤ m ∧ 0 ≤ x ∧ x < 2 ^ 62
theorem d1_turn (c0 : Int) {i : Int} (hi : i.natAbs.log2 ≤ 1048576) {m : Nat} (hm : m ≤ 70) {s : PV} {v2 v3 v4 : Option PV} {st : Store} (h : B1 m st) :
    ∃ v3' v4' st', turnS (gSlot 2) (S_d1b c0) (.d (.int i)) [some s, some (.cell 1), v2, v3, v4] st = .nx [some s, some (.cell 1), some (.d (.int i)), v3', v4'] st' ∧ B1 (m + 1) st' := by
  obtain ⟨l, x, j, h1, h2, h3, h4, h5⟩ := h
  have lt1 : 1 < st.length := (List.getElem?_eq_some_iff.mp h1).1
  have e1 : turnS (gSlot 2) (S_d1b c0) (.d (.int i)) [some s, some (.cell 1), v2, v3, v4] st = S_d1b c0 [some s, some (.cell 1), some (.d (.int i)), v3, v4] st := rfl
  rw [e1]
  -- the great cells
  have step : ∃ st1 l1 j1, S_d1i c0 [some s, some (.cell 1), some (.d (.int i)), some (.d (.int (absI i))), v4] st = .nx [some s, some (.cell 1), some (.d (.int i)), some (.d (.int (absI i))), v4] st1 ∧ st1[1]? = some (dkD j1 x) ∧ st1[j1]? = some (.lst (intL l1)) ∧ l1.length ≤ m + 1 := by
    by_cases hg : 1000000000000000000 ≤ absI i
    · have p1 : (st ++ [PO.lst [.d (.int (absI i))]])[1]? = some (dkD j x) := getAd h1
      have p2 : (st ++ [PO.lst [.d (.int (absI i))]])[st.length]? = some (.lst [.d (.int (absI i))]) := by simp
      have p3 : (st ++ [PO.lst [.d (.int (absI i))]])[j]? = some (.lst (intL l)) := getAd h2
      have a1 := d1_deep p1
      have a2 := catC p2 p3 (by simp [intL_length]; omega)
      have p4 : ((st ++ [PO.lst [.d (.int (absI i))]]) ++ [PO.lst ([.d (.int (absI i))] ++ intL l)])[1]? = some (dkD j x) := getAd p1
      have a3 := d1_sdeep (st ++ [PO.lst [.d (.int (absI i))]]).length p4
      refine ⟨_, absI i :: l, (st ++ [PO.lst [.d (.int (absI i))]]).length, ?_, getSd p4, ?_, by simp; omega⟩
      · unfold S_d1i
        simp [-List.append_assoc, pow18, hg] at a1 a2 a3 ⊢
        rw [a1]
        simp [-List.append_assoc]
        rw [a2]
        simp [-List.append_assoc]
        rw [a3]
        rfl
      · rw [List.getElem?_set_ne (by rw [List.length_append]; show 1 ≠ st.length + 1; omega)]
        rw [List.getElem?_append_right (by simp)]
        simp
        rfl
    · refine ⟨st, l, j, ?_, h1, h2, by omega⟩
      unfold S_d1i
      simp [pow18, hg]
  obtain ⟨st1, l1, j1, e2, q1, q2, q3⟩ := step
  have hab : absI i = (if i < 0 then -i else i) := rfl
  have nab : (absI i).natAbs = i.natAbs := by unfold absI; split <;> omega
  have e3 : sSet 3 (dB vAbs (dCons (dVar 2) dNil)) [some s, some (.cell 1), some (.d (.int i)), v3, v4] st = .nx [some s, some (.cell 1), some (.d (.int i)), some (.d (.int (absI i))), v4] st := rfl
  generalize hw : absI i = w at *
  have hm2 : (2 : Int).natAbs.log2 + w.natAbs.log2 < 100000000 := by
    rw [nab, show (2 : Int).natAbs.log2 = 1 by decide]
    omega
  generalize hy : x + 2 * w + (if i < 0 then 1 else 0) + 1 = y
  have hyb : y.natAbs.log2 + (1181783497276652981 : Int).natAbs.log2 < 100000000 := by
    have wb : w.natAbs < 2 ^ (1048577) := by
      rw [nab]
      by_cases z : i.natAbs = 0
      · rw [z]; exact Nat.two_pow_pos _
      · exact (Nat.log2_lt z).mp (by omega)
    have yb : y.natAbs < 2 ^ 1048580 := by
      have p : (2 : Nat) ^ 1048580 = 8 * 2 ^ 1048577 := by rw [show 1048580 = 3 + 1048577 from rfl, Nat.pow_add]
      have p2 : (2 : Nat) ^ 1048577 ≥ 2 ^ 70 := Nat.pow_le_pow_right (by decide) (by decide)
      have hx : x.natAbs < 2 ^ 62 := by omega
      have : y.natAbs ≤ x.natAbs + 2 * w.natAbs + 2 := by rw [← hy]; split <;> omega
      have p3 : (2 : Nat) ^ 70 = 256 * 2 ^ 62 := by decide
      generalize (2 : Nat) ^ 1048580 = A at *
      generalize (2 : Nat) ^ 1048577 = B at *
      omega
    have := log2_le yb
    have := log2_le (n := (1181783497276652981 : Int).natAbs) (k := 70) (by decide)
    omega
  have a2 := d1_state q1
  generalize hz : (y * 1181783497276652981 + 521288629) % 2305843009213693951 = z
  have z0 : 0 ≤ z := by rw [← hz]; exact Int.emod_nonneg _ (by decide)
  have z1 : z < 2305843009213693951 := by rw [← hz]; exact Int.emod_lt_of_pos _ (by decide)
  have a4 := d1_sstate z q1
  refine ⟨some (.d (.int w)), some (.d (.int (y * 1181783497276652981 + 521288629))), st1.set 1 (dkD j1 z), ?_, l1, z, j1, getSd q1, ?_, q3, z0, by omega⟩
  · unfold S_d1b
    rw [x_seq, e3]
    dsimp only
    rw [x_seq, e2]
    dsimp only
    have e4 : sSet 4 (dOp (vAdd false) (dOp vMul (dOp (vAdd false) (dOp (vAdd false) (dOp (vAdd false) (dOp vIdx (dVar 1) (dC (.str "state"))) (dOp vMul (dC (.int 2)) (dVar 3))) (dB vIntOf (dCons (dOp vLt (dVar 2) (dC (.int 0))) dNil))) (dC (.int 1))) (dC (.int 1181783497276652981))) (dC (.int 521288629)))
        [some s, some (.cell 1), some (.d (.int i)), some (.d (.int w)), v4] st1 = .nx [some s, some (.cell 1), some (.d (.int i)), some (.d (.int w)), some (.d (.int (y * 1181783497276652981 + 521288629)))] st1 := by
      simp [a2, mul_int' _ _ _ hm2, int_bool, hy, mul_int' _ _ _ hyb]
    rw [x_seq, e4]
    dsimp only
    simp [mod_int', hz, a4, int_int']
  · rw [List.getElem?_set_ne (fun e => by rw [← e, q1] at q2; cases q2)]
    exact q2
theorem deckM_ok (c0 : Int) (hc : 0 ≤ c0) (hc2 : c0 < 2 ^ 61) {ns : List Int} (h : ns.length ≤ 63) (hs : ∀ i ∈ ns, i.natAbs.log2 ≤ 1048576) : ∃ L D, Dk1 L 0 D ∧ bodyF 5 1 (S_d1deck c0) [.d (.list (ns.map .int))] [] = .ok (.cell 1) D := by
  have run := loopV_run (g := gSlot 2) (b := S_d1b c0) (P := fun r fr st => ∃ (l : List Int) (v2 v3 v4 : Option PV), r = intL l ∧ l.length ≤ 63 ∧ (∀ i ∈ l, i.natAbs.log2 ≤ 1048576) ∧ fr = [some (.d (.list (ns.map .int))), some (.cell 1), v2, v3, v4] ∧ B1 (63 - l.length) st) (fun v r fr st hp => by
    obtain ⟨l, v2, v3, v4, e1, e2, e3, e4, e5⟩ := hp
    cases l with
    | nil => cases e1
    | cons i l =>
      cases e1
      subst e4
      rw [List.length_cons] at e2 e5
      obtain ⟨w3, w4, st', t1, t2⟩ := d1_turn c0 (e3 i List.mem_cons_self) (m := 63 - (l.length + 1)) (by omega) (s := .d (.list (ns.map .int))) (v2 := v2) (v3 := v3) (v4 := v4) e5
      refine ⟨_, st', .inl t1, l, _, _, _, rfl, by omega, fun j hj => e3 j (List.mem_cons_of_mem _ hj), rfl, ?_⟩
      rwa [show 63 - (l.length + 1) + 1 = 63 - l.length by omega] at t2)
  have b0 : B1 (63 - ns.length) [.lst [], dkD 0 (c0 + ns.length)] := ⟨[], _, 0, rfl, rfl, by simp, by omega, by omega⟩
  obtain ⟨fr', st', r1, l, v2, v3, v4, e1, e2, e3, e4, e5⟩ := run (intL ns) _ _ ⟨ns, none, none, none, rfl, h, hs, rfl, b0⟩
  cases l with
  | cons i l => cases e1
  | nil =>
    subst e4
    obtain ⟨l, x, j, q1, q2, q3, q4, q5⟩ := e5
    refine ⟨st'.length, st', ⟨rfl, l, x, j, q1, q2, by simp at q3; omega, q4, q5⟩, ?_⟩
    show retF (S_d1deck c0 [some (.d (.list (ns.map .int))), none, none, none, none] []) = _
    unfold S_d1deck
    have t1 : sSet 1 (dDict true [((dC (.str "deep")), (dLstC dNil)), ((dC (.str "state")), (dOp (vAdd true) (dC (.int c0)) (dB vLen (dCons (dSl (vSl false) (dVar 0) dNoPart (dPart (dC (.int 63)))) dNil))))]) [some (.d (.list (ns.map .int))), none, none, none, none] [] =
        .nx [some (.d (.list (ns.map .int))), some (.cell 1), none, none, none] [.lst [], dkD 0 (c0 + ns.length)] := by
      have e : dDict true [((dC (.str "deep")), (dLstC dNil)), ((dC (.str "state")), (dOp (vAdd true) (dC (.int c0)) (dB vLen (dCons (dSl (vSl false) (dVar 0) dNoPart (dPart (dC (.int 63)))) dNil))))] [some (.d (.list (ns.map .int))), none, none, none, none] [] = .ok (.cell 1) [.lst [], dkD 0 (c0 + ns.length)] := by
        rw [x_dict, x_pairs]
        simp [x_pairs, slice63 ns h, len_ints]
        rfl
      rw [x_set, e]
      rfl
    rw [x_seq, t1]
    dsimp only
    have t2 : ∀ st, sFor (dIt (dSl (vSl false) (dVar 0) dNoPart (dPart (dC (.int 63))))) (gSlot 2) (S_d1b c0) [some (.d (.list (ns.map .int))), some (.cell 1), none, none, none] st = loopV (gSlot 2) (S_d1b c0) (intL ns) [some (.d (.list (ns.map .int))), some (.cell 1), none, none, none] st := fun st =>
      for_vals (it_ints (by simp [slice63 ns h]))
    rw [x_seq, t2, r1]
    rfl
end Sr.D1
namespace Sr
open PySem L2
def S_law_pick (C : CF) : DS :=
  (sSeq (sRet (dOp vIdx (dVar 1) (dCall (C "_law_draw") (dCons (dVar 0) (dCons (dB vLen (dCons (dVar 1) dNil)) dNil)))))
  sNext)
section
variable {L c : Nat} {Dk : Nat → Store → Prop} {C : CF}
/-- one of some items -/
def SpPick (C : CF) (c : Nat) (Dk : Nat → Store → Prop) : Prop := ∀ (n : Nat) (D z : Store) (l : List PyData), l ≠ [] → l.length < 2 ^ 32 → Dk (n + 1) D → ∃ v D', v ∈ l ∧ Dk n D' ∧ C "_law_pick" [.cell c, .d (.list l)] (D ++ z) = .ok (.d v) (D' ++ z)
theorem pick_ok (K : Deck L c Dk (C "_law_draw")) (n : Nat) (D z : Store) (l : List PyData) (hl : l ≠ []) (hz : l.length < 2 ^ 32) (hD : Dk (n + 1) D) :
    ∃ v D', v ∈ l ∧ Dk n D' ∧ bodyF 2 2 (S_law_pick C) [.cell c, .d (.list l)] (D ++ z) = .ok (.d v) (D' ++ z) := by
  have hp : 0 < l.length := List.length_pos_iff.mpr hl
  obtain ⟨r, D', r1, h1, e1⟩ := K.draw z (l.length : Int) (by omega) (by omega) hD
  have hr : r < l.length := by omega
  refine ⟨l[r], D', List.getElem_mem hr, h1, ?_⟩
  show retF (S_law_pick C [some (.cell c), some (.d (.list l))] (D ++ z)) = _
  unfold S_law_pick
  have i0 : ∀ st, vIdx (.d (.list l)) (.d (.int (r : Int))) st = some (.d l[r], st) := fun st => by
    rw [idx_lst, atI_nat' hr, List.getElem?_eq_getElem hr]; rfl
  simp [e1, i0]
end
end Sr
namespace Sr
open PySem L2
def S_world_text (C : CF) : DS :=
  (sSeq (sRet (dOp (vAdd false) (dOp (vAdd false) (dOp vIdx (dVar 0) (dC (.int 0))) (dC (.str ", "))) (dOp vIdx (dVar 0) (dC (.int 1)))))
  sNext)
def k_ROADS : PyData := .tuple [.str "slow", .str "at once"]
def k_TOURS : PyData := .tuple [.str "alike", .str "anew"]
abbrev S_read_world_i1 (C : CF) : DS :=
  (sIf (dAndT (dTruth (dUn (vIsi "str") (dVar 0))) (dCmpT (dOp (vEq false) (dVar 0) (dCall (C "world_text") (dCons (dTup (dCons (dVar 1) (dCons (dVar 2) dNil))) dNil))))) (sSeq (sRet (dTup (dCons (dVar 1) (dCons (dVar 2) dNil))))
  sNext) sNext)
abbrev S_read_world_b1 (C : CF) : DS :=
  (sSeq (S_read_world_i1 C)
  sNext)
abbrev S_read_world_b2 (C : CF) : DS :=
  (sSeq (sFor (dIt (dC k_TOURS)) (gSlot 2) (S_read_world_b1 C))
  sNext)
def S_read_world (C : CF) : DS :=
  (sSeq (sFor (dIt (dC k_ROADS)) (gSlot 1) (S_read_world_b2 C))
  (sSeq (sRaise1 "BadText" "line" (dC (.int 0)))
  sNext))
abbrev S_law_deck_i1 (C : CF) : DS :=
  (sIf (dCmpT (dOp (vCmpI fun i j => decide (j ≤ i)) (dVar 3) (dOp vPow (dC (.int 10)) (dC (.int 18))))) (sSeq (sAsg (dOp (vAdd true) (dLstC (dCons (dVar 3) dNil)) (dOp vIdx (dVar 1) (dC (.str "deep")))) (gSubC (dVar 1) (dC (.str "deep"))))
  sNext) sNext)
abbrev S_law_deck_b1 (C : CF) : DS :=
  (sSeq (sSet 3 (dB vAbs (dCons (dVar 2) dNil)))
  (sSeq (S_law_deck_i1 C)
  (sSeq (sSet 4 (dOp (vAdd false) (dOp vMul (dOp (vAdd false) (dOp (vAdd false) (dOp (vAdd false) (dOp vIdx (dVar 1) (dC (.str "state"))) (dOp vMul (dC (.int 2)) (dVar 3))) (dB vIntOf (dCons (dOp vLt (dVar 2) (dC (.int 0))) dNil))) (dC (.int 1))) (dC (.int 1181783497276652981))) (dC (.int 521288629))))
  (sSeq (sAsg (dOp vMod (dB vIntOf (dCons (dVar 4) dNil)) (dC (.int 2305843009213693951))) (gSubC (dVar 1) (dC (.str "state"))))
  sNext))))
def S_law_deck (C : CF) : DS :=
  (sSeq (sSet 1 (dDict true [((dC (.str "deep")), (dLstC dNil)), ((dC (.str "state")), (dOp (vAdd true) (dC (.int 1572606)) (dB vLen (dCons (dSl (vSl false) (dVar 0) dNoPart (dPart (dC (.int 63)))) dNil))))]))
  (sSeq (sFor (dIt (dSl (vSl false) (dVar 0) dNoPart (dPart (dC (.int 63))))) (gSlot 2) (S_law_deck_b1 C))
  (sSeq (sRet (dVar 1))
  sNext)))
abbrev S_law_draw_i1 (C : CF) : DS :=
  (sIf (dCmpT (dOp vLt (dVar 1) (dC (.int 2)))) (sSeq (sRet (dC (.int 0)))
  sNext) sNext)
abbrev S_law_draw_i2 (C : CF) : DS :=
  (sIf (dCmpT (dOp (vCmpI fun i j => decide (j ≤ i)) (dVar 4) (dVar 1))) (sSeq (sExpr (dMeth .list vAppend (dOp vIdx (dVar 0) (dC (.str "deep"))) (dCons (dOp vDiv (dVar 4) (dVar 1)) dNil)))
  sNext) sNext)
abbrev S_law_draw_i3 (C : CF) : DS :=
  (sIf (dCmpT (dOp (vEq true) (dOp vIdx (dVar 0) (dC (.str "deep"))) (dLst dNil))) (sSeq (sSet 4 (dMeth .list vPop0 (dOp vIdx (dVar 0) (dC (.str "deep"))) dNil))
  (sSeq (S_law_draw_i2 C)
  (sSeq (sRet (dOp vMod (dB vIntOf (dCons (dVar 4) dNil)) (dVar 1)))
  sNext))) sNext)
def S_law_draw (C : CF) : DS :=
  (sSeq (S_law_draw_i1 C)
  (sSeq (S_law_draw_i3 C)
  (sSeq (sSet 2 (dOp vMod (dB vIntOf (dCons (dOp (vAdd false) (dOp vMul (dOp vIdx (dVar 0) (dC (.str "state"))) (dC (.int 1181783497276652981))) (dC (.int 88172645463325))) dNil)) (dC (.int 2305843009213693951))))
  (sSeq (sAsg (dVar 2) (gSubC (dVar 0) (dC (.str "state"))))
  (sSeq (sSet 3 (dOp vMod (dB vIntOf (dCons (dOp (vAdd false) (dOp (vAdd false) (dOp vMul (dVar 2) (dVar 2)) (dOp vMul (dC (.int 374761393)) (dVar 2))) (dC (.int 11))) dNil)) (dC (.int 2305843009213693921))))
  (sSeq (sRet (dOp vMod (dB vIntOf (dCons (dOp vDiv (dVar 3) (dC (.int 1048576))) dNil)) (dVar 1)))
  sNext))))))
abbrev S_law_texts_b1 (C : CF) : DS :=
  (sSeq (sAsg (dTup (dCons (dVar 1) (dCons (dVar 2) dNil))) (gSubC (dVar 0) (dOp (vAdd false) (dOp (vAdd false) (dVar 1) (dC (.str ", "))) (dVar 2))))
  sNext)
abbrev S_law_texts_b2 (C : CF) : DS :=
  (sSeq (sFor (dIt (dTup (dCons (dC (.str "alike")) (dCons (dC (.str "anew")) dNil)))) (gSlot 2) (S_law_texts_b1 C))
  sNext)
def S_law_texts (C : CF) : DS :=
  (sSeq (sSet 0 (dDict0 true))
  (sSeq (sFor (dIt (dTup (dCons (dC (.str "slow")) (dCons (dC (.str "at once")) dNil)))) (gSlot 1) (S_law_texts_b2 C))
  (sSeq (sRet (dVar 0))
  sNext)))
def k_xt : List XT := [⟨"StillError", none, ["StillError"]⟩, ⟨"BadText", some "line", ["BadText", "StillError"]⟩]
def S_law_heard (C : CF) : DS :=
  (sSeq (sTryX k_xt "BadText" (some 2) (fun e fr => (xsLst (xsCons (some (.d (.str "text"))) (xsCons (xiF k_xt "line" e) (xsCons (xiIs k_xt "StillError" e) (some [])))))) (sSeq (sRet (dLst (dCons (dC (.str "told")) (dCons (dIf (dTruth (dVar 1)) (dCallK (C "read_world") dNil (dCons (dVar 0) dNil) [0]) (dCall (C "read_world") (dCons (dVar 0) dNil))) dNil))))
  sNext))
  sNext)
abbrev S_law_spoilt_i1 (C : CF) : DS :=
  (sIf (dCmpT (dOp (vEq false) (dVar 4) (dC (.int 0)))) (sSeq (sRet (dOp (vAdd false) (dSl (vSl false) (dVar 1) dNoPart (dPart (dVar 3))) (dSl (vSl false) (dVar 1) (dPart (dOp (vAdd false) (dVar 3) (dC (.int 1)))) dNoPart)))
  sNext) sNext)
abbrev S_law_spoilt_i2 (C : CF) : DS :=
  (sIf (dCmpT (dOp (vEq false) (dVar 4) (dC (.int 1)))) (sSeq (sRet (dOp (vAdd false) (dOp (vAdd false) (dSl (vSl false) (dVar 1) dNoPart (dPart (dVar 3))) (dVar 2)) (dSl (vSl false) (dVar 1) (dPart (dVar 3)) dNoPart)))
  sNext) sNext)
abbrev S_law_spoilt_i3 (C : CF) : DS :=
  (sIf (dCmpT (dOp (vEq false) (dVar 4) (dC (.int 2)))) (sSeq (sRet (dOp (vAdd false) (dOp (vAdd false) (dSl (vSl false) (dVar 1) dNoPart (dPart (dVar 3))) (dVar 2)) (dSl (vSl false) (dVar 1) (dPart (dOp (vAdd false) (dVar 3) (dC (.int 1)))) dNoPart)))
  sNext) sNext)
abbrev S_law_spoilt_i4 (C : CF) : DS :=
  (sIf (dCmpT (dOp (vEq false) (dVar 4) (dC (.int 3)))) (sSeq (sRet (dOp (vAdd false) (dOp (vAdd false) (dSl (vSl false) (dVar 1) dNoPart (dPart (dVar 3))) (dUn (vRev2 false) (dSl (vSl false) (dVar 1) (dPart (dVar 3)) (dPart (dOp (vAdd false) (dVar 3) (dC (.int 2))))))) (dSl (vSl false) (dVar 1) (dPart (dOp (vAdd false) (dVar 3) (dC (.int 2)))) dNoPart)))
  sNext) sNext)
def S_law_spoilt (C : CF) : DS :=
  (sSeq (sPar [3, 4] (dCons (dCall (C "_law_draw") (dCons (dVar 0) (dCons (dOp (vAdd false) (dB vLen (dCons (dVar 1) dNil)) (dC (.int 1))) dNil))) (dCons (dCall (C "_law_draw") (dCons (dVar 0) (dCons (dC (.int 5)) dNil))) dNil)))
  (sSeq (sSet 2 (dCall (C "_law_pick") (dCons (dVar 0) (dCons (dLst (dCons (dC (.str " ")) (dCons (dC (.str ",")) (dCons (dC (.str ", ")) (dCons (dC (.str "a")) (dCons (dC (.str "s")) (dCons (dC (.str "e")) (dCons (dC (.str "\n")) (dCons (dC (.str "-")) (dCons (dC (.str "A")) (dCons (dC (.str "slow")) (dCons (dC (.str "anew")) dNil)))))))))))) dNil))))
  (sSeq (S_law_spoilt_i1 C)
  (sSeq (S_law_spoilt_i2 C)
  (sSeq (S_law_spoilt_i3 C)
  (sSeq (S_law_spoilt_i4 C)
  (sSeq (sRet (dMeth .str vJoin (dC (.str ", ")) (dCons (dUn (vRev2 false) (dMeth .str (vSplit false) (dVar 1) (dCons (dC (.str ", ")) dNil))) dNil)))
  sNext)))))))
abbrev S_law_i1 (C : CF) : DS :=
  (sIf (dCmpT (dOp (vEq true) (dB vRepr (dCons (dVar 5) dNil)) (dB vRepr (dCons (dLst (dCons (dVar 3) (dCons (dVar 3) (dCons (dOp vIdx (dVar 2) (dVar 3)) (dCons (dOp vIdx (dVar 2) (dVar 3)) dNil))))) dNil)))) (sSeq (sRet (dC (.bool false)))
  sNext) sNext)
abbrev S_law_b1 (C : CF) : DS :=
  (sSeq (sSet 5 (dLst (dCons (dCall (C "world_text") (dCons (dOp vIdx (dVar 2) (dVar 3)) dNil)) (dCons (dCallK (C "world_text") dNil (dCons (dOp vIdx (dVar 2) (dVar 3)) dNil) [0]) (dCons (dCall (C "read_world") (dCons (dVar 3) dNil)) (dCons (dCallK (C "read_world") dNil (dCons (dVar 3) dNil) [0]) dNil))))))
  (sSeq (S_law_i1 C)
  sNext))
abbrev S_law_i2 (C : CF) : DS :=
  (sIf (dCmpT (dOp (vEq false) (dCall (C "_law_draw") (dCons (dVar 1) (dCons (dC (.int 5)) dNil))) (dC (.int 0)))) (sSeq (sSet 7 (dCall (C "_law_pick") (dCons (dVar 1) (dCons (dB (vListD false) (dCons (dVar 2) dNil)) dNil))))
  sNext) sNext)
abbrev S_law_i3 (C : CF) : DS :=
  (sIf (dOrT (dCmpT (dOp (vEq true) (dB vRepr (dCons (dCall (C "_law_heard") (dCons (dVar 7) (dCons (dOp (vEq false) (dOp vMod (dVar 4) (dC (.int 5))) (dC (.int 2))) dNil))) dNil)) (dB vRepr (dCons (dVar 9) dNil)))) (dCmpT (dOp (vEq true) (dB vRepr (dCons (dCall (C "_law_heard") (dCons (dVar 7) (dCons (dC (.bool false)) dNil))) dNil)) (dB vRepr (dCons (dVar 9) dNil))))) (sSeq (sRet (dC (.bool false)))
  sNext) sNext)
abbrev S_law_b2 (C : CF) : DS :=
  (sSeq (sSet 3 (dCall (C "_law_pick") (dCons (dVar 1) (dCons (dB (vListD false) (dCons (dVar 2) dNil)) dNil))))
  (sSeq (sSet 6 (dLst (dCons (dC .none) (dCons (dC (.int 0)) (dCons (dC (.bool true)) (dCons (dLst dNil) (dCons (dDict0 false) (dCons (dOp vIdx (dVar 2) (dVar 3)) (dCons (dTup (dCons (dVar 3) dNil)) (dCons (dC (.str "")) (dCons (dC (.str "slow")) (dCons (dC (.str "slow,alike")) (dCons (dC (.str "slow, alike, anew")) (dCons (dOp vMul (dC (.str " ")) (dC (.int 4000))) dNil))))))))))))))
  (sSeq (sSet 7 (dIf (dCmpT (dOp (vCmpI fun i j => decide (j < i)) (dCall (C "_law_draw") (dCons (dVar 1) (dCons (dC (.int 3)) dNil))) (dC (.int 0)))) (dCall (C "_law_spoilt") (dCons (dVar 1) (dCons (dVar 3) dNil))) (dCall (C "_law_pick") (dCons (dVar 1) (dCons (dVar 6) dNil)))))
  (sSeq (S_law_i2 C)
  (sSeq (sSet 8 (dAnd (dUn (vIsi "str") (dVar 7)) (dOp (vIn false) (dVar 7) (dVar 2))))
  (sSeq (sSet 9 (dIf (dTruth (dVar 8)) (dLst (dCons (dC (.str "told")) (dCons (dOp vIdx (dVar 2) (dVar 7)) dNil))) (dLst (dCons (dC (.str "text")) (dCons (dC (.int 0)) (dCons (dC (.bool true)) dNil))))))
  (sSeq (S_law_i3 C)
  sNext)))))))
def S_law (C : CF) : DS :=
  (sSeq (sSet 1 (dCall (C "_law_deck") (dCons (dVar 0) dNil)))
  (sSeq (sSet 2 (dCall (C "_law_texts") dNil))
  (sSeq (sLock 2 (sFor (dKeysL (dVar 2)) (gSlot 3) (S_law_b1 C)))
  (sSeq (sFor (dRange1 (dCons (dC (.int 24)) dNil)) (gSlot 4) (S_law_b2 C))
  (sSeq (sRet (dC (.bool true)))
  sNext)))))
theorem E_world_text (m : Nat) : cf (m + 2) "world_text" = isoF (bodyF 1 1 (S_world_text (cf (m + 1)))) := by kernel_rfl
theorem E_read_world (m : Nat) : cf (m + 2) "read_world" = isoF (bodyF 3 1 (S_read_world (cf (m + 1)))) := by kernel_rfl
theorem E_law_deck (m : Nat) : cf (m + 2) "_law_deck" = (bodyF 5 1 (S_law_deck (cf (m + 1)))) := by kernel_rfl
theorem E_law_draw (m : Nat) : cf (m + 2) "_law_draw" = (bodyF 5 2 (S_law_draw (cf (m + 1)))) := by kernel_rfl
theorem E_law_pick (m : Nat) : cf (m + 2) "_law_pick" = (bodyF 2 2 (S_law_pick (cf (m + 1)))) := by kernel_rfl
theorem E_law_texts (m : Nat) : cf (m + 2) "_law_texts" = (bodyF 3 0 (S_law_texts (cf (m + 1)))) := by kernel_rfl
theorem E_law_heard (m : Nat) : cf (m + 2) "_law_heard" = isoF (bodyF 3 2 (S_law_heard (cf (m + 1)))) := by kernel_rfl
theorem E_law_spoilt (m : Nat) : cf (m + 2) "_law_spoilt" = (bodyF 5 2 (S_law_spoilt (cf (m + 1)))) := by kernel_rfl
theorem E_law (m : Nat) : cf (m + 2) "law" = isoF (bodyF 10 1 (S_law (cf (m + 1)))) := by kernel_rfl
end Sr
namespace Sr
open D1 PySem L2
theorem draw_eq (m : Nat) : cf (m + 2) "_law_draw" = bodyF 5 2 S_d1draw := by rw [E_law_draw]; rfl
theorem deck_eq (m : Nat) : cf (m + 2) "_law_deck" = bodyF 5 1 (S_d1deck 1572606) := by rw [E_law_deck]; rfl
theorem deckF (L m : Nat) : Deck L 1 (Dk1 L) (cf (m + 2) "_law_draw") := by rw [draw_eq]; exact deck1 L
theorem sp_pick (L m : Nat) : SpPick (cf (m + 3)) 1 (Dk1 L) := fun n D z l hl hz hD => by
  rw [E_law_pick (m + 1)]
  exact pick_ok (deckF L m) n D z l hl hz hD
def tx : Nat → Str
  | 0 => "slow, alike"
  | 1 => "slow, anew"
  | 2 => "at once, alike"
  | _ => "at once, anew"
def wd : Nat → PyData
  | 0 => .tuple [.str "slow", .str "alike"]
  | 1 => .tuple [.str "slow", .str "anew"]
  | 2 => .tuple [.str "at once", .str "alike"]
  | _ => .tuple [.str "at once", .str "anew"]
theorem text_ok (k : Nat) : ∀ (j : Nat) (st : Store), j < 4 → cf (k + 2) "world_text" [.d (wd j)] st = .ok (.d (.str (tx j))) st := by
  intro j st hj
  rw [E_world_text k]
  match j, hj with
  | 0, _ => exact iso_of (st' := []) rfl (by kernel_rfl)
  | 1, _ => exact iso_of (st' := []) rfl (by kernel_rfl)
  | 2, _ => exact iso_of (st' := []) rfl (by kernel_rfl)
  | 3, _ => exact iso_of (st' := []) rfl (by kernel_rfl)
  | n + 4, h => exact absurd h (by omega)
def isS : PyData → Bool
  | .str _ => true
  | _ => false
def isTx (v : PyData) (j : Nat) : Bool := match v with
  | .str s => decide (s = tx j)
  | _ => false
/-- a value whose kind can be asked -/
def Kd (v : PyData) : Prop := ∀ st, vIsi "str" (.d v) st = some (.d (.bool (isS v)), st)
section
variable {v : PyData} (hv : Kd v) (k : Nat)
include hv in
theorem i1_ok {r t : Str} {j : Nat} (hj : j < 4) (e : wd j = .tuple [.str r, .str t]) : S_read_world_i1 (cf (k + 2)) [some (.d v), some (.d (.str r)), some (.d (.str t))] [] =
    if isTx v j then .rt (.d (wd j)) [] else .nx [some (.d v), some (.d (.str r)), some (.d (.str t))] [] := by
  have t1 : dTruth (dUn (vIsi "str") (dVar 0)) [some (.d v), some (.d (.str r)), some (.d (.str t))] [] = .ok (isS v) [] := by
    rw [x_truth, x_dUn, var_zero, bind_rok, hv]
    rfl
  have tp : dTup (dCons (dVar 1) (dCons (dVar 2) dNil)) [some (.d v), some (.d (.str r)), some (.d (.str t))] [] = .ok (.d (wd j)) [] := by rw [e]; rfl
  have t2 : dCall (cf (k + 2) "world_text") (dCons (dTup (dCons (dVar 1) (dCons (dVar 2) dNil))) dNil) [some (.d v), some (.d (.str r)), some (.d (.str t))] [] = .ok (.d (.str (tx j))) [] := by
    rw [x_call, x_cons, tp, bind_rok, x_nil, bind_rok, bind_rok, text_ok k j [] hj]
  unfold S_read_world_i1
  rw [x_if, x_andT, t1, bind_rok]
  cases v with
  | str s =>
    show ofR _ (dCmpT (dOp (vEq false) (dVar 0) (dCall (cf (k + 2) "world_text") (dCons (dTup (dCons (dVar 1) (dCons (dVar 2) dNil))) dNil))) _ []) _ = _
    rw [x_cmpT, x_dOp, var_zero, bind_rok, t2, bind_rok, eq_str]
    show ofR _ (Res.ok (decide (s = tx j)) []) _ = if decide (s = tx j) = true then _ else _
    cases decide (s = tx j) with
    | false => rfl
    | true =>
      show sSeq (sRet (dTup (dCons (dVar 1) (dCons (dVar 2) dNil)))) sNext [some (.d (.str s)), some (.d (.str r)), some (.d (.str t))] [] = _
      rw [x_seq, x_ret, tp]
      rfl
  | _ => rfl
include hv in
theorem b2_ok {r : Str} {x2 : Option PV} {i j : Nat} (hi : i < 4) (hj : j < 4) (e1 : wd i = .tuple [.str r, .str "alike"]) (e2 : wd j = .tuple [.str r, .str "anew"]) : S_read_world_b2 (cf (k + 2)) [some (.d v), some (.d (.str r)), x2] [] =
    if isTx v i then .rt (.d (wd i)) [] else if isTx v j then .rt (.d (wd j)) [] else .nx [some (.d v), some (.d (.str r)), some (.d (.str "anew"))] [] := by
  have w : dIt (dC k_TOURS) [some (.d v), some (.d (.str r)), x2] [] = .ok (.vals [.d (.str "alike"), .d (.str "anew")]) [] := rfl
  unfold S_read_world_b2
  rw [x_seq, for_vals w]
  have a1 : turnS (gSlot 2) (S_read_world_b1 (cf (k + 2))) (.d (.str "alike")) [some (.d v), some (.d (.str r)), x2] [] = if isTx v i then .rt (.d (wd i)) [] else .nx [some (.d v), some (.d (.str r)), some (.d (.str "alike"))] [] := by
    show sSeq (S_read_world_i1 (cf (k + 2))) sNext [some (.d v), some (.d (.str r)), some (.d (.str "alike"))] [] = _
    rw [x_seq, i1_ok hv k hi e1]
    cases isTx v i <;> rfl
  have a2 : ∀ x2, turnS (gSlot 2) (S_read_world_b1 (cf (k + 2))) (.d (.str "anew")) [some (.d v), some (.d (.str r)), x2] [] = if isTx v j then .rt (.d (wd j)) [] else .nx [some (.d v), some (.d (.str r)), some (.d (.str "anew"))] [] := fun x2 => by
    show sSeq (S_read_world_i1 (cf (k + 2))) sNext [some (.d v), some (.d (.str r)), some (.d (.str "anew"))] [] = _
    rw [x_seq, i1_ok hv k hj e2]
    cases isTx v j <;> rfl
  show (match behind (turnS (gSlot 2) (S_read_world_b1 (cf (k + 2))) (.d (.str "alike")) [some (.d v), some (.d (.str r)), x2] []) (loopV (gSlot 2) (S_read_world_b1 (cf (k + 2))) [.d (.str "anew")]) with | .nx fr1 st1 => _ | r => r) = _
  rw [a1]
  cases isTx v i with
  | true => rfl
  | false =>
    rw [if_neg Bool.false_ne_true, if_neg Bool.false_ne_true]
    show (match behind (turnS (gSlot 2) (S_read_world_b1 (cf (k + 2))) (.d (.str "anew")) [some (.d v), some (.d (.str r)), some (.d (.str "alike"))] []) (loopV (gSlot 2) (S_read_world_b1 (cf (k + 2))) []) with | .nx fr1 st1 => _ | r => r) = _
    rw [a2]
    cases isTx v j <;> rfl
def fnd (v : PyData) : Option PyData := if isTx v 0 then some (wd 0) else if isTx v 1 then some (wd 1) else if isTx v 2 then some (wd 2) else if isTx v 3 then some (wd 3) else none
include hv in
theorem read_ok (st : Store) : cf (k + 3) "read_world" [.d v] st = match fnd v with
    | some w => .ok (.d w) st
    | none => .exc ⟨"BadText", [("line", .d (.int 0))]⟩ st := by
  rw [E_read_world (k + 1)]
  have w : dIt (dC k_ROADS) [some (.d v), none, none] [] = .ok (.vals [.d (.str "slow"), .d (.str "at once")]) [] := rfl
  have a1 : turnS (gSlot 1) (S_read_world_b2 (cf (k + 2))) (.d (.str "slow")) [some (.d v), none, none] [] = if isTx v 0 then .rt (.d (wd 0)) [] else if isTx v 1 then .rt (.d (wd 1)) [] else .nx [some (.d v), some (.d (.str "slow")), some (.d (.str "anew"))] [] := b2_ok hv k (by decide) (by decide) rfl rfl
  have a2 : ∀ x1 x2, turnS (gSlot 1) (S_read_world_b2 (cf (k + 2))) (.d (.str "at once")) [some (.d v), x1, x2] [] = if isTx v 2 then .rt (.d (wd 2)) [] else if isTx v 3 then .rt (.d (wd 3)) [] else .nx [some (.d v), some (.d (.str "at once")), some (.d (.str "anew"))] [] := fun x1 x2 => b2_ok hv k (by decide) (by decide) rfl rfl
  have main : ∃ r, retF (S_read_world (cf (k + 2)) [some (.d v), none, none] []) = r ∧ r = match fnd v with
    | some w => .ok (.d w) []
    | none => .exc ⟨"BadText", [("line", .d (.int 0))]⟩ [] := by
    refine ⟨_, rfl, ?_⟩
    unfold S_read_world fnd
    rw [x_seq, for_vals w]
    show retF (match behind (turnS (gSlot 1) (S_read_world_b2 (cf (k + 2))) (.d (.str "slow")) [some (.d v), none, none] []) (loopV (gSlot 1) (S_read_world_b2 (cf (k + 2))) [.d (.str "at once")]) with | .nx fr1 st1 => _ | r => r) = _
    rw [a1]
    cases isTx v 0 with
    | true => rfl
    | false =>
      rw [if_neg Bool.false_ne_true, if_neg Bool.false_ne_true]
      cases isTx v 1 with
      | true => rfl
      | false =>
        rw [if_neg Bool.false_ne_true, if_neg Bool.false_ne_true]
        show retF (match behind (turnS (gSlot 1) (S_read_world_b2 (cf (k + 2))) (.d (.str "at once")) [some (.d v), some (.d (.str "slow")), some (.d (.str "anew"))] []) (loopV (gSlot 1) (S_read_world_b2 (cf (k + 2))) []) with | .nx fr1 st1 => _ | r => r) = _
        rw [a2]
        cases isTx v 2 <;> cases isTx v 3 <;> rfl
  obtain ⟨r, h1, h2⟩ := main
  cases hf : fnd v with
  | some w =>
    rw [hf] at h2
    subst h2
    exact iso_of (st' := []) rfl h1
  | none =>
    rw [hf] at h2
    subst h2
    exact iso_exc (st' := []) rfl h1 rfl
def dueD (v : PyData) : PyData := match fnd v with
  | some w => .list [.str "told", w]
  | none => .list [.str "text", .int 0, .bool true]
include hv in
theorem heard_ok (n : Bool) (st : Store) : cf (k + 4) "_law_heard" [.d v, .d (.bool n)] st = .ok (.d (dueD v)) st := by
  rw [E_law_heard (k + 2)]
  refine iso_of (st' := []) rfl ?_
  show retF (S_law_heard (cf (k + 3)) [some (.d v), some (.d (.bool n)), none] []) = _
  have t1 : dTruth (dVar 1) [some (.d v), some (.d (.bool n)), none] [] = .ok n [] := rfl
  have rd := read_ok hv k []
  have e : dIf (dTruth (dVar 1)) (dCallK (cf (k + 3) "read_world") dNil (dCons (dVar 0) dNil) [0]) (dCall (cf (k + 3) "read_world") (dCons (dVar 0) dNil)) [some (.d v), some (.d (.bool n)), none] [] = match fnd v with
    | some w => .ok (.d w) []
    | none => .exc ⟨"BadText", [("line", .d (.int 0))]⟩ [] := by
    rw [x_ifE, t1, bind_rok, ← rd]
    cases n <;> rfl
  unfold S_law_heard sTryX dueD
  rw [x_seq, x_seq, x_ret, x_lst, x_cons, x_dC, bind_rok, x_cons, e]
  cases fnd v with
  | some w => rfl
  | none => rfl
end
end Sr
namespace Sr
open D1 PySem L2
theorem cut_str (x : Str) (h : x.length ≤ 1000) (lo hi : Option Int) (st : Store) : vSl false (.d (.str x)) lo hi st = some (.d (.str (cutS x lo hi)), st) := if_pos (decide_eq_true (show x.length ≤ 1000000 by omega))
theorem add_str (a b : Str) (h : a.length + b.length ≤ 10000) (st : Store) : vAdd false (.d (.str a)) (.d (.str b)) st = some (.d (.str (a ++ b)), st) := if_pos (decide_eq_true (show a.length + b.length ≤ 1000000 by omega))
theorem rev_str (x : Str) (h : x.length ≤ 1000) (st : Store) : vRev2 false (.d (.str x)) st = some (.d (.str (revS x)), st) := if_pos (decide_eq_true (show x.length ≤ 1000000 by omega))
theorem rev_len (x : Str) : (revS x).length = x.length := by
  show (revS x).cps.size = x.cps.size
  simp [revS]
abbrev pfr (x sg : Str) (at_ way : Nat) : Fr := [some (.cell 1), some (.d (.str x)), some (.d (.str sg)), some (.d (.int (at_ : Int))), some (.d (.int (way : Int)))]
section
variable {x sg : Str} {a w : Nat} (hx : x.length ≤ 1000) (hs : sg.length ≤ 1000) (C : CF) (st : Store)
theorem way_is (k : Int) : dCmpT (dOp (vEq false) (dVar 4) (dC (.int k))) (pfr x sg a w) st = .ok (decide ((w : Int) = k)) st := by simp
include hx in
theorem head_ok : dSl (vSl false) (dVar 1) dNoPart (dPart (dVar 3)) (pfr x sg a w) st = .ok (.d (.str (cutS x none (some (a : Int))))) st := by
  show lift (vSl false (.d (.str x)) none (some (a : Int)) st) = _
  rw [cut_str x hx]
  rfl
include hx in
theorem tail_ok (k : Int) : dSl (vSl false) (dVar 1) (dPart (dOp (vAdd false) (dVar 3) (dC (.int k)))) dNoPart (pfr x sg a w) st = .ok (.d (.str (cutS x (some ((a : Int) + k)) none))) st := by
  show lift (vSl false (.d (.str x)) (some ((a : Int) + k)) none st) = _
  rw [cut_str x hx]
  rfl
include hx in
theorem tail0_ok : dSl (vSl false) (dVar 1) (dPart (dVar 3)) dNoPart (pfr x sg a w) st = .ok (.d (.str (cutS x (some (a : Int)) none))) st := by
  show lift (vSl false (.d (.str x)) (some (a : Int)) none st) = _
  rw [cut_str x hx]
  rfl
include hx hs in
/-- ways 0 to 3 -/
theorem ways_ok (hw : w < 4) (rest : DS) : ∃ s : Str, retF (sSeq (S_law_spoilt_i1 C) (sSeq (S_law_spoilt_i2 C) (sSeq (S_law_spoilt_i3 C) (sSeq (S_law_spoilt_i4 C) rest))) (pfr x sg a w) st) = .ok (.d (.str s)) st := by
  have l1 := fun lo hi => cutS_length x lo hi
  have vs : dVar 2 (pfr x sg a w) st = .ok (.d (.str sg)) st := rfl
  have skip : ∀ (k : Int) (s : DS), (w : Int) ≠ k → sIf (dCmpT (dOp (vEq false) (dVar 4) (dC (.int k)))) s sNext (pfr x sg a w) st = .nx (pfr x sg a w) st := fun k s h => by
    rw [x_if, way_is st k, decide_eq_false h]
    rfl
  have hit : ∀ (k : Int) (s : DS), (w : Int) = k → sIf (dCmpT (dOp (vEq false) (dVar 4) (dC (.int k)))) s sNext (pfr x sg a w) st = s (pfr x sg a w) st := fun k s h => by
    rw [x_if, way_is st k, decide_eq_true h]
    rfl
  rcases (show w = 0 ∨ w = 1 ∨ w = 2 ∨ w = 3 by omega) with rfl | rfl | rfl | rfl
  · refine ⟨cutS x none (some (a : Int)) ++ cutS x (some ((a : Int) + 1)) none, ?_⟩
    have h1 := l1 none (some (a : Int))
    have h2 := l1 (some ((a : Int) + 1)) none
    unfold S_law_spoilt_i1
    rw [x_seq, hit 0 _ rfl, x_seq, x_ret, x_dOp, head_ok hx, bind_rok, tail_ok hx, bind_rok, add_str _ _ (by omega)]
    rfl
  · refine ⟨(cutS x none (some (a : Int)) ++ sg) ++ cutS x (some (a : Int)) none, ?_⟩
    have h1 := l1 none (some (a : Int))
    have h2 := l1 (some (a : Int)) none
    have h3 : (cutS x none (some (a : Int)) ++ sg).length = (cutS x none (some (a : Int))).length + sg.length := PySem.strLen_append _ _
    unfold S_law_spoilt_i1 S_law_spoilt_i2
    rw [x_seq, skip 0 _ (by decide)]
    show retF (sSeq _ _ (pfr x sg a 1) st) = _
    rw [x_seq, hit 1 _ rfl, x_seq, x_ret, x_dOp, x_dOp, head_ok hx, bind_rok, vs, bind_rok, add_str _ _ (by omega), lift_some, bind_rok, tail0_ok hx, bind_rok, add_str _ _ (by omega)]
    rfl
  · refine ⟨(cutS x none (some (a : Int)) ++ sg) ++ cutS x (some ((a : Int) + 1)) none, ?_⟩
    have h1 := l1 none (some (a : Int))
    have h2 := l1 (some ((a : Int) + 1)) none
    have h3 : (cutS x none (some (a : Int)) ++ sg).length = (cutS x none (some (a : Int))).length + sg.length := PySem.strLen_append _ _
    unfold S_law_spoilt_i1 S_law_spoilt_i2 S_law_spoilt_i3
    rw [x_seq, skip 0 _ (by decide)]
    show retF (sSeq _ _ (pfr x sg a 2) st) = _
    rw [x_seq, skip 1 _ (by decide)]
    show retF (sSeq _ _ (pfr x sg a 2) st) = _
    rw [x_seq, hit 2 _ rfl, x_seq, x_ret, x_dOp, x_dOp, head_ok hx, bind_rok, vs, bind_rok, add_str _ _ (by omega), lift_some, bind_rok, tail_ok hx, bind_rok, add_str _ _ (by omega)]
    rfl
  · refine ⟨(cutS x none (some (a : Int)) ++ revS (cutS x (some (a : Int)) (some ((a : Int) + 2)))) ++ cutS x (some ((a : Int) + 2)) none, ?_⟩
    have h1 := l1 none (some (a : Int))
    have h2 := l1 (some ((a : Int) + 2)) none
    have h4 := l1 (some (a : Int)) (some ((a : Int) + 2))
    have h5 := rev_len (cutS x (some (a : Int)) (some ((a : Int) + 2)))
    have h3 : (cutS x none (some (a : Int)) ++ revS (cutS x (some (a : Int)) (some ((a : Int) + 2)))).length = (cutS x none (some (a : Int))).length + (revS (cutS x (some (a : Int)) (some ((a : Int) + 2)))).length := PySem.strLen_append _ _
    have rv : dUn (vRev2 false) (dSl (vSl false) (dVar 1) (dPart (dVar 3)) (dPart (dOp (vAdd false) (dVar 3) (dC (.int 2))))) (pfr x sg a 3) st = .ok (.d (.str (revS (cutS x (some (a : Int)) (some ((a : Int) + 2)))))) st := by
      have e : dSl (vSl false) (dVar 1) (dPart (dVar 3)) (dPart (dOp (vAdd false) (dVar 3) (dC (.int 2)))) (pfr x sg a 3) st = .ok (.d (.str (cutS x (some (a : Int)) (some ((a : Int) + 2))))) st := by
        show lift (vSl false (.d (.str x)) (some (a : Int)) (some ((a : Int) + 2)) st) = _
        rw [cut_str x hx]
        rfl
      rw [x_dUn, e, bind_rok, rev_str _ (by omega)]
      rfl
    unfold S_law_spoilt_i1 S_law_spoilt_i2 S_law_spoilt_i3 S_law_spoilt_i4
    rw [x_seq, skip 0 _ (by decide)]
    show retF (sSeq _ _ (pfr x sg a 3) st) = _
    rw [x_seq, skip 1 _ (by decide)]
    show retF (sSeq _ _ (pfr x sg a 3) st) = _
    rw [x_seq, skip 2 _ (by decide)]
    show retF (sSeq _ _ (pfr x sg a 3) st) = _
    rw [x_seq, hit 3 _ rfl, x_seq, x_ret, x_dOp, x_dOp, head_ok hx, bind_rok, rv, bind_rok, add_str _ _ (by omega), lift_some, bind_rok, tail_ok hx, bind_rok, add_str _ _ (by omega)]
    rfl
end
def SG : List Str := [" ", ",", ", ", "a", "s", "e", "\n", "-", "A", "slow", "anew"]
theorem sg_len : ∀ s ∈ SG, s.length ≤ 1000 := by
  have h : (SG.all fun s => decide (s.length ≤ 1000)) = true := by decide +kernel
  exact fun s hs => of_decide_eq_true (List.all_eq_true.mp h s hs)
theorem tx_len : ∀ j, j < 4 → (tx j).length ≤ 100
  | 0, _ => by decide +kernel
  | 1, _ => by decide +kernel
  | 2, _ => by decide +kernel
  | 3, _ => by decide +kernel
  | n + 4, h => absurd h (by omega)
theorem way4 (C : CF) (sg : Str) (a : Nat) (st : Store) : ∀ j, j < 4 → ∃ s : Str, retF (sSeq (S_law_spoilt_i1 C) (sSeq (S_law_spoilt_i2 C) (sSeq (S_law_spoilt_i3 C) (sSeq (S_law_spoilt_i4 C) (sSeq (sRet (dMeth .str vJoin (dC (.str ", ")) (dCons (dUn (vRev2 false) (dMeth .str (vSplit false) (dVar 1) (dCons (dC (.str ", ")) dNil))) dNil))) sNext)))) (pfr (tx j) sg a 4) st) = .ok (.d (.str s)) st
  | 0, _ => ⟨"alike, slow", by kernel_rfl⟩
  | 1, _ => ⟨"anew, slow", by kernel_rfl⟩
  | 2, _ => ⟨"alike, at once", by kernel_rfl⟩
  | 3, _ => ⟨"anew, at once", by kernel_rfl⟩
  | n + 4, h => absurd h (by omega)
theorem spoilt_ok (L k : Nat) {j : Nat} (hj : j < 4) (D z : Store) (hD : Dk1 L 0 D) : ∃ (s : Str) (D' : Store), Dk1 L 0 D' ∧ cf (k + 4) "_law_spoilt" [.cell 1, .d (.str (tx j))] (D ++ z) = .ok (.d (.str s)) (D' ++ z) := by
  have lt := tx_len j hj
  obtain ⟨a, D1, ha, k1, e1⟩ := (deckF L (k + 1)).draw (n := 0) z (((tx j).length : Int) + 1) (by omega) (by omega) hD
  obtain ⟨w, D2, hw, k2, e2⟩ := (deckF L (k + 1)).draw (n := 0) z 5 (by omega) (by omega) k1
  obtain ⟨v, D3, hv, k3, e3⟩ := sp_pick L k 0 D2 z (SG.map .str) (by decide) (by decide) k2
  obtain ⟨sg, hsg, rfl⟩ := List.mem_map.mp hv
  rw [E_law_spoilt (k + 2)]
  have s1 : sPar [3, 4] (dCons (dCall (cf (k + 3) "_law_draw") (dCons (dVar 0) (dCons (dOp (vAdd false) (dB vLen (dCons (dVar 1) dNil)) (dC (.int 1))) dNil))) (dCons (dCall (cf (k + 3) "_law_draw") (dCons (dVar 0) (dCons (dC (.int 5)) dNil))) dNil)) [some (.cell 1), some (.d (.str (tx j))), none, none, none] (D ++ z) = .nx [some (.cell 1), some (.d (.str (tx j))), none, some (.d (.int (a : Int))), some (.d (.int (w : Int)))] (D2 ++ z) := by
    have ln : dB vLen (dCons (dVar 1) dNil) [some (.cell 1), some (.d (.str (tx j))), none, none, none] (D ++ z) = .ok (.d (.int ((tx j).length : Int))) (D ++ z) := by
      show lift (vLen [.d (.str (tx j))] (D ++ z)) = _
      match j, hj with
      | 0, _ => kernel_rfl
      | 1, _ => kernel_rfl
      | 2, _ => kernel_rfl
      | 3, _ => kernel_rfl
      | n + 4, h => exact absurd h (by omega)
    have ad : ∀ st, vAdd false (.d (.int ((tx j).length : Int))) (.d (.int 1)) st = some (.d (.int (((tx j).length : Int) + 1)), st) := fun _ => rfl
    have a2 : dCall (cf (k + 3) "_law_draw") (dCons (dVar 0) (dCons (dC (.int 5)) dNil)) [some (.cell 1), some (.d (.str (tx j))), none, none, none] (D1 ++ z) = .ok (.d (.int (w : Int))) (D2 ++ z) := e2
    rw [x_spar, x_cons, x_call, x_cons, var_zero, bind_rok, x_cons, x_dOp, ln, bind_rok, x_dC, bind_rok, ad, lift_some, bind_rok, x_nil, bind_rok, bind_rok, bind_rok, e1, bind_rok, x_cons, a2, bind_rok, x_nil]
    rfl
  have s2 : ∀ rest : DS, sSeq (sSet 2 (dCall (cf (k + 3) "_law_pick") (dCons (dVar 0) (dCons (dLst (dCons (dC (.str " ")) (dCons (dC (.str ",")) (dCons (dC (.str ", ")) (dCons (dC (.str "a")) (dCons (dC (.str "s")) (dCons (dC (.str "e")) (dCons (dC (.str "\n")) (dCons (dC (.str "-")) (dCons (dC (.str "A")) (dCons (dC (.str "slow")) (dCons (dC (.str "anew")) dNil)))))))))))) dNil)))) rest [some (.cell 1), some (.d (.str (tx j))), none, some (.d (.int (a : Int))), some (.d (.int (w : Int)))] (D2 ++ z) = rest (pfr (tx j) sg a w) (D3 ++ z) := fun rest => by
    have l : dCons (dVar 0) (dCons (dLst (dCons (dC (.str " ")) (dCons (dC (.str ",")) (dCons (dC (.str ", ")) (dCons (dC (.str "a")) (dCons (dC (.str "s")) (dCons (dC (.str "e")) (dCons (dC (.str "\n")) (dCons (dC (.str "-")) (dCons (dC (.str "A")) (dCons (dC (.str "slow")) (dCons (dC (.str "anew")) dNil)))))))))))) dNil) [some (.cell 1), some (.d (.str (tx j))), none, some (.d (.int (a : Int))), some (.d (.int (w : Int)))] (D2 ++ z) = .ok [.cell 1, .d (.list (SG.map .str))] (D2 ++ z) := rfl
    rw [x_seq, x_set, x_call, l, bind_rok, e3]
    rfl
  have fin : ∃ s : Str, retF (S_law_spoilt (cf (k + 3)) [some (.cell 1), some (.d (.str (tx j))), none, none, none] (D ++ z)) = .ok (.d (.str s)) (D3 ++ z) := by
    unfold S_law_spoilt
    rw [x_seq, s1]
    show ∃ s : Str, retF (sSeq _ _ _ (D2 ++ z)) = _
    rw [s2]
    by_cases w4 : w = 4
    · subst w4
      exact way4 _ sg a _ j hj
    · exact ways_ok (by omega) (sg_len sg hsg) _ _ (by omega) _
  obtain ⟨s, e⟩ := fin
  exact ⟨s, D3, k3, e⟩
end Sr
namespace Sr
open D1 PySem L2
abbrev ent (j : Nat) : Key × PV := (.inr (tx j), .d (wd j))
def T4 : List (Key × PV) := [ent 0, ent 1, ent 2, ent 3]
def TB : Nat → PO
  | 0 => .dic []
  | 1 => .dic [ent 0]
  | 2 => .dic [ent 0, ent 1]
  | 3 => .dic [ent 0, ent 1, ent 2]
  | _ => .dic T4
theorem set_tab {st : Store} {n : Nat} : ∀ j : Nat, j < 4 → st[n]? = some (TB j) → vSetC (.cell n) (.d (.str (tx j))) (.d (wd j)) st = some (st.set n (TB (j + 1)))
  | 0, _, h => by rw [setK h (by decide)]; kernel_rfl
  | 1, _, h => by rw [setK h (by decide)]; kernel_rfl
  | 2, _, h => by rw [setK h (by decide)]; kernel_rfl
  | 3, _, h => by rw [setK h (by decide)]; kernel_rfl
  | n + 4, h, _ => absurd h (by omega)
section
variable {L : Nat} {D : Store} (hD : D.length = L)
include hD in
theorem tb_get (o : PO) : (D ++ [o])[L]? = some o := by
  have := la_get (z := []) hD o
  exact this
include hD in
theorem tb_set (o o' : PO) : (D ++ [o]).set L o' = D ++ [o'] := by
  have := la_set (z := []) hD o o'
  exact this
include hD in
theorem one_set {C : CF} {r t : Str} {j : Nat} (hj : j < 4) (e1 : wd j = .tuple [.str r, .str t]) (e2 : ∀ st, (dOp (vAdd false) (dOp (vAdd false) (dVar 1) (dC (.str ", "))) (dVar 2)) [some (.cell L), some (.d (.str r)), some (.d (.str t))] st = .ok (.d (.str (tx j))) st) (x2 : Option PV) :
    turnS (gSlot 2) (S_law_texts_b1 C) (.d (.str t)) [some (.cell L), some (.d (.str r)), x2] (D ++ [TB j]) = .nx [some (.cell L), some (.d (.str r)), some (.d (.str t))] (D ++ [TB (j + 1)]) := by
  show S_law_texts_b1 C [some (.cell L), some (.d (.str r)), some (.d (.str t))] (D ++ [TB j]) = _
  have tp : dTup (dCons (dVar 1) (dCons (dVar 2) dNil)) [some (.cell L), some (.d (.str r)), some (.d (.str t))] (D ++ [TB j]) = .ok (.d (wd j)) (D ++ [TB j]) := by rw [e1]; rfl
  have g : gSubC (dVar 0) (dOp (vAdd false) (dOp (vAdd false) (dVar 1) (dC (.str ", "))) (dVar 2)) (.d (wd j)) [some (.cell L), some (.d (.str r)), some (.d (.str t))] (D ++ [TB j]) = some ([some (.cell L), some (.d (.str r)), some (.d (.str t))], D ++ [TB (j + 1)]) := by
    have s := set_tab j hj (tb_get hD (TB j))
    rw [tb_set hD] at s
    rw [x_gsub, var_zero]
    dsimp only
    rw [e2]
    dsimp only
    rw [s]
    rfl
  unfold S_law_texts_b1
  rw [x_seq, x_asg, tp, ofR_ok, g]
  rfl
include hD in
theorem two_set {C : CF} {r : Str} {i : Nat} (hi : i + 1 < 4) (e1 : wd i = .tuple [.str r, .str "alike"]) (e2 : wd (i + 1) = .tuple [.str r, .str "anew"])
    (f1 : ∀ st, (dOp (vAdd false) (dOp (vAdd false) (dVar 1) (dC (.str ", "))) (dVar 2)) [some (.cell L), some (.d (.str r)), some (.d (.str "alike"))] st = .ok (.d (.str (tx i))) st)
    (f2 : ∀ st, (dOp (vAdd false) (dOp (vAdd false) (dVar 1) (dC (.str ", "))) (dVar 2)) [some (.cell L), some (.d (.str r)), some (.d (.str "anew"))] st = .ok (.d (.str (tx (i + 1)))) st) (x1 x2 : Option PV) :
    turnS (gSlot 1) (S_law_texts_b2 C) (.d (.str r)) [some (.cell L), x1, x2] (D ++ [TB i]) = .nx [some (.cell L), some (.d (.str r)), some (.d (.str "anew"))] (D ++ [TB (i + 2)]) := by
  show S_law_texts_b2 C [some (.cell L), some (.d (.str r)), x2] (D ++ [TB i]) = _
  have w : dIt (dTup (dCons (dC (.str "alike")) (dCons (dC (.str "anew")) dNil))) [some (.cell L), some (.d (.str r)), x2] (D ++ [TB i]) = .ok (.vals [.d (.str "alike"), .d (.str "anew")]) (D ++ [TB i]) := rfl
  unfold S_law_texts_b2
  rw [x_seq, for_vals w]
  show (match behind (turnS (gSlot 2) (S_law_texts_b1 C) (.d (.str "alike")) [some (.cell L), some (.d (.str r)), x2] (D ++ [TB i])) (loopV (gSlot 2) (S_law_texts_b1 C) [.d (.str "anew")]) with | .nx fr1 st1 => _ | r => r) = _
  rw [one_set hD (by omega) e1 f1]
  show (match behind (turnS (gSlot 2) (S_law_texts_b1 C) (.d (.str "anew")) [some (.cell L), some (.d (.str r)), some (.d (.str "alike"))] (D ++ [TB (i + 1)])) (loopV (gSlot 2) (S_law_texts_b1 C) []) with | .nx fr1 st1 => _ | r => r) = _
  rw [one_set hD hi e2 f2]
  rfl
include hD in
theorem texts_ok (k : Nat) : cf (k + 2) "_law_texts" [] D = .ok (.cell L) (D ++ [.dic T4]) := by
  rw [E_law_texts k]
  show retF (S_law_texts (cf (k + 1)) [none, none, none] D) = _
  have s1 : sSet 0 (dDict0 true) [none, none, none] D = .nx [some (.cell L), none, none] (D ++ [TB 0]) := by
    have e : dDict0 true [none, none, none] D = .ok (.cell D.length) (D ++ [.dic []]) := rfl
    rw [x_set, e, hD]
    rfl
  have w : dIt (dTup (dCons (dC (.str "slow")) (dCons (dC (.str "at once")) dNil))) [some (.cell L), none, none] (D ++ [TB 0]) = .ok (.vals [.d (.str "slow"), .d (.str "at once")]) (D ++ [TB 0]) := rfl
  unfold S_law_texts
  rw [x_seq, s1]
  show retF (sSeq _ _ _ (D ++ [TB 0])) = _
  rw [x_seq, for_vals w]
  show retF (match behind (turnS (gSlot 1) (S_law_texts_b2 (cf (k + 1))) (.d (.str "slow")) [some (.cell L), none, none] (D ++ [TB 0])) (loopV (gSlot 1) (S_law_texts_b2 (cf (k + 1))) [.d (.str "at once")]) with | .nx fr1 st1 => _ | r => r) = _
  rw [two_set hD (i := 0) (by decide) rfl rfl (fun st => by kernel_rfl) (fun st => by kernel_rfl)]
  show retF (match behind (turnS (gSlot 1) (S_law_texts_b2 (cf (k + 1))) (.d (.str "at once")) [some (.cell L), some (.d (.str "slow")), some (.d (.str "anew"))] (D ++ [TB 2])) (loopV (gSlot 1) (S_law_texts_b2 (cf (k + 1))) []) with | .nx fr1 st1 => _ | r => r) = _
  rw [two_set hD (i := 2) (by decide) rfl rfl (fun st => by kernel_rfl) (fun st => by kernel_rfl)]
  rfl
end
/-! the table read -/
theorem val_tab (s : Str) : valP T4 (.inr s) = (fnd (.str s)).map .d := by
  by_cases h0 : s = tx 0
  · subst h0; kernel_rfl
  by_cases h1 : s = tx 1
  · subst h1; kernel_rfl
  by_cases h2 : s = tx 2
  · subst h2; kernel_rfl
  by_cases h3 : s = tx 3
  · subst h3; kernel_rfl
  have e : T4.find? (fun kv => decide (kv.1 = (.inr s : Key))) = none := by
    refine List.find?_eq_none.mpr fun kv hkv => ?_
    have : kv = ent 0 ∨ kv = ent 1 ∨ kv = ent 2 ∨ kv = ent 3 := by simpa [T4] using hkv
    rcases this with rfl | rfl | rfl | rfl
    · exact fun z => h0 (Sum.inr.inj (of_decide_eq_true z)).symm
    · exact fun z => h1 (Sum.inr.inj (of_decide_eq_true z)).symm
    · exact fun z => h2 (Sum.inr.inj (of_decide_eq_true z)).symm
    · exact fun z => h3 (Sum.inr.inj (of_decide_eq_true z)).symm
  unfold valP
  rw [e]
  unfold fnd isTx
  dsimp only
  rw [if_neg fun z => h0 (of_decide_eq_true z), if_neg fun z => h1 (of_decide_eq_true z), if_neg fun z => h2 (of_decide_eq_true z), if_neg fun z => h3 (of_decide_eq_true z)]
  rfl
theorem dval {st : Store} {n : Nat} (h : st[n]? = some (.dic T4) ∨ st[n]? = some (.dicL T4)) (s : Str) : dictVal (.cell n) (.d (.str s)) st = some ((fnd (.str s)).map .d) := by
  show (match st[n]? with
    | some (.dic kvs) => some (valP kvs (.inr s))
    | some (.dicL kvs) => some (valP kvs (.inr s))
    | _ => none) = _
  rcases h with h | h
  · rw [h]; show some (valP T4 (.inr s)) = _; rw [val_tab]
  · rw [h]; show some (valP T4 (.inr s)) = _; rw [val_tab]
theorem idx_tab {st : Store} {n : Nat} (h : st[n]? = some (.dic T4) ∨ st[n]? = some (.dicL T4)) {s : Str} {w : PyData} (hf : fnd (.str s) = some w) : vIdx (.cell n) (.d (.str s)) st = some (.d w, st) := by
  show vIdx2 (.cell n) (.d (.str s)) st = _
  unfold vIdx2
  have e : seqItems (.cell n) st = none := by
    show (match st[n]? with
      | some (.lst xs) => some xs
      | _ => none) = _
    rcases h with h | h <;> rw [h]
  rw [e]
  dsimp only
  rw [dval h, hf]
  rfl
theorem in_tab {st : Store} {n : Nat} (h : st[n]? = some (.dic T4) ∨ st[n]? = some (.dicL T4)) (s : Str) : vIn false (.d (.str s)) (.cell n) st = some (.d (.bool (fnd (.str s)).isSome), st) := by
  show (match dictVal (.cell n) (.d (.str s)) st with
    | some o => vB2 (xor false o.isSome) st
    | none => _) = _
  rw [dval h]
  show vB2 (xor false ((fnd (.str s)).map PV.d).isSome) st = _
  cases fnd (.str s) <;> rfl
theorem list_tab {st : Store} {n : Nat} (h : st[n]? = some (.dic T4)) : vListD false [.cell n] st = some (.d (.list ([tx 0, tx 1, tx 2, tx 3].map .str)), st) := by
  unfold vListD
  dsimp only
  simp only [seqItems, h]
  rfl
theorem kd (v : PyData) : Kd v := by
  intro st
  cases v <;> rfl
theorem fnd_tx : ∀ j, j < 4 → fnd (.str (tx j)) = some (wd j)
  | 0, _ => by kernel_rfl
  | 1, _ => by kernel_rfl
  | 2, _ => by kernel_rfl
  | 3, _ => by kernel_rfl
  | n + 4, h => absurd h (by omega)
end Sr
namespace Sr
open D1 PySem L2
def TXL : List PyData := [tx 0, tx 1, tx 2, tx 3].map .str
theorem due_sy (v : PyData) : Sy 1000 5 (dueD v) := by
  unfold dueD fnd
  split
  · rename_i w h
    have : w = wd 0 ∨ w = wd 1 ∨ w = wd 2 ∨ w = wd 3 := by
      split at h
      · exact .inl (Option.some.inj h).symm
      · split at h
        · exact .inr (.inl (Option.some.inj h).symm)
        · split at h
          · exact .inr (.inr (.inl (Option.some.inj h).symm))
          · split at h
            · exact .inr (.inr (.inr (Option.some.inj h).symm))
            · cases h
    rcases this with rfl | rfl | rfl | rfl
    · exact syB_ok (by decide +kernel)
    · exact syB_ok (by decide +kernel)
    · exact syB_ok (by decide +kernel)
    · exact syB_ok (by decide +kernel)
  · exact syB_ok (by decide +kernel)
theorem due_repr (v : PyData) (st : Store) : vRepr [.d (dueD v)] st = some (.d (.str (dueD v).shown), st) := (due_sy v).repr st
def toldD (j : Nat) : PyData := .list [.str (tx j), .str (tx j), wd j, wd j]
theorem told_repr : ∀ (j : Nat) (st : Store), j < 4 → vRepr [.d (toldD j)] st = some (.d (.str (toldD j).shown), st)
  | 0, st, _ => (syB_ok (c := 1000) (k := 5) (by decide +kernel)).repr st
  | 1, st, _ => (syB_ok (c := 1000) (k := 5) (by decide +kernel)).repr st
  | 2, st, _ => (syB_ok (c := 1000) (k := 5) (by decide +kernel)).repr st
  | 3, st, _ => (syB_ok (c := 1000) (k := 5) (by decide +kernel)).repr st
  | n + 4, _, h => absurd h (by omega)
section
variable {L : Nat} {x0 : Option PV}
abbrev hfr (x0 : Option PV) (L : Nat) (x3 x4 x5 x6 x7 x8 x9 : Option PV) : Fr := [x0, some (.cell 1), some (.cell L), x3, x4, x5, x6, x7, x8, x9]
/-- the first loop -/
theorem told_turn {st : Store} (h : st[L]? = some (.dicL T4)) {j : Nat} (hj : j < 4) (x3 x4 x5 x6 x7 x8 x9 : Option PV) : turnS (gSlot 3) (S_law_b1 (cf 9)) (.d (.str (tx j))) (hfr x0 L x3 x4 x5 x6 x7 x8 x9) st = .nx (hfr x0 L (some (.d (.str (tx j)))) x4 (some (.d (toldD j))) x6 x7 x8 x9) st := by
  show S_law_b1 (cf 9) (hfr x0 L (some (.d (.str (tx j)))) x4 x5 x6 x7 x8 x9) st = _
  have ix : ∀ x5, dOp vIdx (dVar 2) (dVar 3) (hfr x0 L (some (.d (.str (tx j)))) x4 x5 x6 x7 x8 x9) st = .ok (.d (wd j)) st := fun x5 => by
    show lift (vIdx (.cell L) (.d (.str (tx j))) st) = _
    rw [idx_tab (.inr h) (fnd_tx j hj)]
    rfl
  have v3 : ∀ x5, dVar 3 (hfr x0 L (some (.d (.str (tx j)))) x4 x5 x6 x7 x8 x9) st = .ok (.d (.str (tx j))) st := fun _ => rfl
  have rd : cf 9 "read_world" [.d (.str (tx j))] st = .ok (.d (wd j)) st := by rw [read_ok (kd _) 6, fnd_tx j hj]
  have o1 : ∀ v : PV, ([] : List PV) ++ inOrder [v] [0] = [v] := fun _ => rfl
  have l : dLst (dCons (dCall (cf 9 "world_text") (dCons (dOp vIdx (dVar 2) (dVar 3)) dNil)) (dCons (dCallK (cf 9 "world_text") dNil (dCons (dOp vIdx (dVar 2) (dVar 3)) dNil) [0]) (dCons (dCall (cf 9 "read_world") (dCons (dVar 3) dNil)) (dCons (dCallK (cf 9 "read_world") dNil (dCons (dVar 3) dNil) [0]) dNil)))) (hfr x0 L (some (.d (.str (tx j)))) x4 x5 x6 x7 x8 x9) st = .ok (.d (toldD j)) st := by
    rw [x_lst, x_cons, x_call, x_cons, ix, bind_rok, x_nil, bind_rok, bind_rok, text_ok 7 j st hj, bind_rok, x_cons, x_callK, x_nil, bind_rok, x_cons, ix, bind_rok, x_nil, bind_rok, bind_rok, o1, text_ok 7 j st hj, bind_rok, x_cons, x_call, x_cons, v3, bind_rok, x_nil, bind_rok, bind_rok, rd, bind_rok, x_cons, x_callK, x_nil, bind_rok, x_cons, v3, bind_rok, x_nil, bind_rok, bind_rok, o1, rd, bind_rok, x_nil]
    rfl
  have l2 : dLst (dCons (dVar 3) (dCons (dVar 3) (dCons (dOp vIdx (dVar 2) (dVar 3)) (dCons (dOp vIdx (dVar 2) (dVar 3)) dNil)))) (hfr x0 L (some (.d (.str (tx j)))) x4 (some (.d (toldD j))) x6 x7 x8 x9) st = .ok (.d (toldD j)) st := by
    rw [x_lst, x_cons, v3, bind_rok, x_cons, v3, bind_rok, x_cons, ix, bind_rok, x_cons, ix, bind_rok, x_nil]
    rfl
  have v5 : dVar 5 (hfr x0 L (some (.d (.str (tx j)))) x4 (some (.d (toldD j))) x6 x7 x8 x9) st = .ok (.d (toldD j)) st := rfl
  unfold S_law_b1 S_law_i1
  rw [x_seq, x_set, l]
  show sSeq _ _ (hfr x0 L (some (.d (.str (tx j)))) x4 (some (.d (toldD j))) x6 x7 x8 x9) st = _
  rw [x_seq, x_if, x_cmpT, x_dOp, x_dB, x_cons, v5, bind_rok, x_nil, bind_rok, bind_rok, told_repr j st hj, lift_some, bind_rok, x_dB, x_cons, l2, bind_rok, x_nil, bind_rok, bind_rok, told_repr j st hj, lift_some, bind_rok, eq_str]
  simp
theorem told_all {st : Store} (h : st[L]? = some (.dic T4)) : ∃ x3 x5, sLock 2 (sFor (dKeysL (dVar 2)) (gSlot 3) (S_law_b1 (cf 9))) (hfr x0 L none none none none none none none) st = .nx (hfr x0 L x3 none x5 none none none none) st := by
  have hl : L < st.length := (List.getElem?_eq_some_iff.mp h).1
  have h2 : (st.set L (.dicL T4))[L]? = some (.dicL T4) := List.getElem?_set_self hl
  refine ⟨some (.d (.str (tx 3))), some (.d (toldD 3)), ?_⟩
  have w : dKeysL (dVar 2) (hfr x0 L none none none none none none none) (st.set L (.dicL T4)) = .ok (.vals [.d (.str (tx 0)), .d (.str (tx 1)), .d (.str (tx 2)), .d (.str (tx 3))]) (st.set L (.dicL T4)) := by
    show (match (st.set L (.dicL T4))[L]? with
      | some (.dicL kvs) => Res.ok (Src.vals (kvs.map fun p : Key × PV => PV.d (keyD p.1))) (st.set L (.dicL T4))
      | _ => .bad) = _
    rw [h2]
    rfl
  have run : sFor (dKeysL (dVar 2)) (gSlot 3) (S_law_b1 (cf 9)) (hfr x0 L none none none none none none none) (st.set L (.dicL T4)) = .nx (hfr x0 L (some (.d (.str (tx 3)))) none (some (.d (toldD 3))) none none none none) (st.set L (.dicL T4)) := by
    rw [for_vals w]
    show behind (turnS (gSlot 3) (S_law_b1 (cf 9)) (.d (.str (tx 0))) (hfr x0 L none none none none none none none) (st.set L (.dicL T4))) _ = _
    rw [told_turn h2 (by decide)]
    show behind (turnS (gSlot 3) (S_law_b1 (cf 9)) (.d (.str (tx 1))) (hfr x0 L _ none _ none none none none) (st.set L (.dicL T4))) _ = _
    rw [told_turn h2 (by decide)]
    show behind (turnS (gSlot 3) (S_law_b1 (cf 9)) (.d (.str (tx 2))) (hfr x0 L _ none _ none none none none) (st.set L (.dicL T4))) _ = _
    rw [told_turn h2 (by decide)]
    show behind (turnS (gSlot 3) (S_law_b1 (cf 9)) (.d (.str (tx 3))) (hfr x0 L _ none _ none none none none) (st.set L (.dicL T4))) _ = _
    rw [told_turn h2 (by decide)]
    rfl
  unfold sLock
  show (match st[L]? with
    | some (.dic kvs) => unl L (sFor (dKeysL (dVar 2)) (gSlot 3) (S_law_b1 (cf 9)) (hfr x0 L none none none none none none none) (st.set L (.dicL kvs)))
    | _ => .bad) = _
  rw [h]
  show unl L (sFor (dKeysL (dVar 2)) (gSlot 3) (S_law_b1 (cf 9)) (hfr x0 L none none none none none none none) (st.set L (.dicL T4))) = _
  rw [run]
  have u : unlS L (st.set L (.dicL T4)) = some ((st.set L (.dicL T4)).set L (.dic T4)) := by
    unfold unlS
    rw [h2]
  show (match unlS L (st.set L (.dicL T4)) with
    | some st' => RO.nx (hfr x0 L (some (.d (.str (tx 3)))) none (some (.d (toldD 3))) none none none none) st'
    | none => .bad) = _
  rw [u, List.set_set]
  dsimp only
  congr 1
  refine List.ext_getElem? fun i => ?_
  by_cases hi : L = i
  · subst hi
    rw [List.getElem?_set_self hl, h]
  · rw [List.getElem?_set_ne hi]
end
theorem mem_tx {v : PyData} (h : v ∈ TXL) : ∃ j, j < 4 ∧ v = .str (tx j) := by
  have : v = .str (tx 0) ∨ v = .str (tx 1) ∨ v = .str (tx 2) ∨ v = .str (tx 3) := by simpa [TXL] using h
  rcases this with h | h | h | h
  · exact ⟨0, by decide, h⟩
  · exact ⟨1, by decide, h⟩
  · exact ⟨2, by decide, h⟩
  · exact ⟨3, by decide, h⟩
section
variable {L : Nat} {x0 : Option PV}
theorem pick_tab {D : Store} (hD : Dk1 L 0 D) (x3 x4 x5 x6 x7 x8 x9 : Option PV) : ∃ (j : Nat) (D' : Store), j < 4 ∧ Dk1 L 0 D' ∧ dCall (cf 9 "_law_pick") (dCons (dVar 1) (dCons (dB (vListD false) (dCons (dVar 2) dNil)) dNil)) (hfr x0 L x3 x4 x5 x6 x7 x8 x9) (D ++ [.dic T4]) = .ok (.d (.str (tx j))) (D' ++ [.dic T4]) := by
  obtain ⟨v, D', hv, k, e⟩ := sp_pick L 6 0 D [.dic T4] TXL (by decide) (by decide) hD
  obtain ⟨j, hj, rfl⟩ := mem_tx hv
  refine ⟨j, D', hj, k, ?_⟩
  have ll : vListD false [.cell L] (D ++ [.dic T4]) = some (.d (.list TXL), D ++ [.dic T4]) := list_tab (tb_get hD.1 (.dic T4))
  have l : dB (vListD false) (dCons (dVar 2) dNil) (hfr x0 L x3 x4 x5 x6 x7 x8 x9) (D ++ [.dic T4]) = .ok (.d (.list TXL)) (D ++ [.dic T4]) := by
    show lift (vListD false [.cell L] (D ++ [.dic T4])) = _
    rw [ll]
    rfl
  have v1 : dVar 1 (hfr x0 L x3 x4 x5 x6 x7 x8 x9) (D ++ [.dic T4]) = .ok (.cell 1) (D ++ [.dic T4]) := rfl
  rw [x_call, x_cons, v1, bind_rok, x_cons, l, bind_rok, x_nil, bind_rok, bind_rok, bind_rok]
  exact e
theorem mul_str (a : Str) (ha : a.length ≤ 100) (k : Nat) (hk : k ≤ 5000) (st : Store) : vMul (.d (.str a)) (.d (.int (k : Int))) st = some (.d (.str (PySem.Txt.mul a k)), st) := by
  have e : vMulT (.d (.str a)) (.d (.int (k : Int))) st = some (.d (.str (PySem.Txt.mul a k)), st) := by
    show (if decide (a.length ≤ 100) && decide (0 ≤ (k : Int)) && decide ((k : Int) ≤ 5000) then some (PV.d (.str (PySem.Txt.mul a k)), st) else none) = _
    rw [if_pos (by simp; omega)]
  have e2 : vMul2P false (.d (.str a)) (.d (.int (k : Int))) st = vMulT (.d (.str a)) (.d (.int (k : Int))) st := rfl
  unfold vMul vMul2
  rw [e2, e]
theorem sp4 : ∃ s : PyData, ∀ st, vMul (.d (.str " ")) (.d (.int 4000)) st = some (.d s, st) := ⟨.str (PySem.Txt.mul " " 4000), fun st => mul_str " " (by decide +kernel) 4000 (by decide) st⟩
theorem odd_ok {D : Store} (hD : D.length = L) {j : Nat} (hj : j < 4) (x4 x5 x6 x7 x8 x9 : Option PV) : ∃ l : List PyData, l ≠ [] ∧ l.length < 2 ^ 32 ∧ dLst (dCons (dC .none) (dCons (dC (.int 0)) (dCons (dC (.bool true)) (dCons (dLst dNil) (dCons (dDict0 false) (dCons (dOp vIdx (dVar 2) (dVar 3)) (dCons (dTup (dCons (dVar 3) dNil)) (dCons (dC (.str "")) (dCons (dC (.str "slow")) (dCons (dC (.str "slow,alike")) (dCons (dC (.str "slow, alike, anew")) (dCons (dOp vMul (dC (.str " ")) (dC (.int 4000))) dNil)))))))))))) (hfr x0 L (some (.d (.str (tx j)))) x4 x5 x6 x7 x8 x9) (D ++ [.dic T4]) = .ok (.d (.list l)) (D ++ [.dic T4]) := by
  have ix : dOp vIdx (dVar 2) (dVar 3) (hfr x0 L (some (.d (.str (tx j)))) x4 x5 x6 x7 x8 x9) (D ++ [.dic T4]) = .ok (.d (wd j)) (D ++ [.dic T4]) := by
    show lift (vIdx (.cell L) (.d (.str (tx j))) (D ++ [.dic T4])) = _
    rw [idx_tab (.inl (tb_get hD (.dic T4))) (fnd_tx j hj)]
    rfl
  obtain ⟨s, hs⟩ := sp4
  have m : dOp vMul (dC (.str " ")) (dC (.int 4000)) (hfr x0 L (some (.d (.str (tx j)))) x4 x5 x6 x7 x8 x9) (D ++ [.dic T4]) = .ok (.d s) (D ++ [.dic T4]) := by
    rw [x_dOp, x_dC, bind_rok, x_dC, bind_rok, hs]
    rfl
  have tp : dTup (dCons (dVar 3) dNil) (hfr x0 L (some (.d (.str (tx j)))) x4 x5 x6 x7 x8 x9) (D ++ [.dic T4]) = .ok (.d (.tuple [.str (tx j)])) (D ++ [.dic T4]) := rfl
  have d0 : ∀ fr st, dDict0 false fr st = .ok (.d (.dict [])) st := fun _ _ => rfl
  have l0 : ∀ fr st, dLst dNil fr st = .ok (.d (.list [])) st := fun _ _ => rfl
  refine ⟨[.none, .int 0, .bool true, .list [], .dict [], wd j, .tuple [.str (tx j)], .str "", .str "slow", .str "slow,alike", .str "slow, alike, anew", s], by simp, by simp, ?_⟩
  rw [x_lst, x_cons, x_dC, bind_rok, x_cons, x_dC, bind_rok, x_cons, x_dC, bind_rok, x_cons, l0, bind_rok, x_cons, d0, bind_rok, x_cons, ix, bind_rok, x_cons, tp, bind_rok, x_cons, x_dC, bind_rok, x_cons, x_dC, bind_rok, x_cons, x_dC, bind_rok, x_cons, x_dC, bind_rok, x_cons, m, bind_rok, x_nil]
  rfl
/-- what stands between two turns -/
def Pt (L : Nat) (fr : Fr) (st : Store) : Prop := ∃ x0 x3 x4 x5 x6 x7 x8 x9 D, Dk1 L 0 D ∧ fr = hfr x0 L x3 x4 x5 x6 x7 x8 x9 ∧ st = D ++ [.dic T4]
theorem turn_one {i : Int} {fr0 : Fr} {st : Store} (h : Pt L fr0 st) : ∃ fr' st', turnS (gSlot 4) (S_law_b2 (cf 9)) (.d (.int i)) fr0 st = .nx fr' st' ∧ Pt L fr' st' := by
  obtain ⟨x0, x3, x4, x5, x6, x7, x8, x9, D, hD, rfl, rfl⟩ := h
  obtain ⟨j, D1, hj, k1, e1⟩ := pick_tab hD (x0 := x0) x3 (some (.d (.int i))) x5 x6 x7 x8 x9
  obtain ⟨l, l1, l2, e2⟩ := odd_ok (x0 := x0) k1.1 hj (some (.d (.int i))) x5 x6 x7 x8 x9
  -- the value
  obtain ⟨v, D2, k2, e3⟩ : ∃ (v : PyData) (D2 : Store), Dk1 L 0 D2 ∧ ∀ x7, sSet 7 (dIf (dCmpT (dOp (vCmpI fun i j => decide (j < i)) (dCall (cf 9 "_law_draw") (dCons (dVar 1) (dCons (dC (.int 3)) dNil))) (dC (.int 0)))) (dCall (cf 9 "_law_spoilt") (dCons (dVar 1) (dCons (dVar 3) dNil))) (dCall (cf 9 "_law_pick") (dCons (dVar 1) (dCons (dVar 6) dNil)))) (hfr x0 L (some (.d (.str (tx j)))) (some (.d (.int i))) x5 (some (.d (.list l))) x7 x8 x9) (D1 ++ [.dic T4]) = .nx (hfr x0 L (some (.d (.str (tx j)))) (some (.d (.int i))) x5 (some (.d (.list l))) (some (.d v)) x8 x9) (D2 ++ [.dic T4]) := by
    obtain ⟨r, Da, hr, ka, ea⟩ := (deckF L 7).draw (n := 0) [.dic T4] 3 (by omega) (by omega) k1
    have c : ∀ x7, dCmpT (dOp (vCmpI fun i j => decide (j < i)) (dCall (cf 9 "_law_draw") (dCons (dVar 1) (dCons (dC (.int 3)) dNil))) (dC (.int 0))) (hfr x0 L (some (.d (.str (tx j)))) (some (.d (.int i))) x5 (some (.d (.list l))) x7 x8 x9) (D1 ++ [.dic T4]) = .ok (decide ((0 : Int) < (r : Int))) (Da ++ [.dic T4]) := fun x7 => by
      have a : dCall (cf 9 "_law_draw") (dCons (dVar 1) (dCons (dC (.int 3)) dNil)) (hfr x0 L (some (.d (.str (tx j)))) (some (.d (.int i))) x5 (some (.d (.list l))) x7 x8 x9) (D1 ++ [.dic T4]) = .ok (.d (.int (r : Int))) (Da ++ [.dic T4]) := ea
      rw [x_cmpT, x_dOp, a, bind_rok, x_dC, bind_rok]
      rfl
    by_cases h0 : (0 : Int) < (r : Int)
    · obtain ⟨s, Db, kb, eb⟩ := spoilt_ok L 5 hj Da [.dic T4] ka
      refine ⟨.str s, Db, kb, fun x7 => ?_⟩
      have b : dCall (cf 9 "_law_spoilt") (dCons (dVar 1) (dCons (dVar 3) dNil)) (hfr x0 L (some (.d (.str (tx j)))) (some (.d (.int i))) x5 (some (.d (.list l))) x7 x8 x9) (Da ++ [.dic T4]) = .ok (.d (.str s)) (Db ++ [.dic T4]) := eb
      rw [x_set, x_ifE, c, bind_rok, if_pos (decide_eq_true h0), b]
      rfl
    · obtain ⟨v, Db, hv, kb, eb⟩ := sp_pick L 6 0 Da [.dic T4] l l1 l2 ka
      refine ⟨v, Db, kb, fun x7 => ?_⟩
      have b : dCall (cf 9 "_law_pick") (dCons (dVar 1) (dCons (dVar 6) dNil)) (hfr x0 L (some (.d (.str (tx j)))) (some (.d (.int i))) x5 (some (.d (.list l))) x7 x8 x9) (Da ++ [.dic T4]) = .ok (.d v) (Db ++ [.dic T4]) := eb
      rw [x_set, x_ifE, c, bind_rok, decide_eq_false h0, if_neg (by decide), b]
      rfl
  obtain ⟨v, D3, k3, e4⟩ : ∃ (v' : PyData) (D3 : Store), Dk1 L 0 D3 ∧ S_law_i2 (cf 9) (hfr x0 L (some (.d (.str (tx j)))) (some (.d (.int i))) x5 (some (.d (.list l))) (some (.d v)) x8 x9) (D2 ++ [.dic T4]) = .nx (hfr x0 L (some (.d (.str (tx j)))) (some (.d (.int i))) x5 (some (.d (.list l))) (some (.d v')) x8 x9) (D3 ++ [.dic T4]) := by
    obtain ⟨r, Da, hr, ka, ea⟩ := (deckF L 7).draw (n := 0) [.dic T4] 5 (by omega) (by omega) k2
    have c : dCmpT (dOp (vEq false) (dCall (cf 9 "_law_draw") (dCons (dVar 1) (dCons (dC (.int 5)) dNil))) (dC (.int 0))) (hfr x0 L (some (.d (.str (tx j)))) (some (.d (.int i))) x5 (some (.d (.list l))) (some (.d v)) x8 x9) (D2 ++ [.dic T4]) = .ok (decide ((r : Int) = 0)) (Da ++ [.dic T4]) := by
      have a : dCall (cf 9 "_law_draw") (dCons (dVar 1) (dCons (dC (.int 5)) dNil)) (hfr x0 L (some (.d (.str (tx j)))) (some (.d (.int i))) x5 (some (.d (.list l))) (some (.d v)) x8 x9) (D2 ++ [.dic T4]) = .ok (.d (.int (r : Int))) (Da ++ [.dic T4]) := ea
      rw [x_cmpT, x_dOp, a, bind_rok, x_dC, bind_rok, eq_int]
      rfl
    by_cases h0 : (r : Int) = 0
    · obtain ⟨j', Db, hj', kb, eb⟩ := pick_tab ka (x0 := x0) (some (.d (.str (tx j)))) (some (.d (.int i))) x5 (some (.d (.list l))) (some (.d v)) x8 x9
      refine ⟨.str (tx j'), Db, kb, ?_⟩
      unfold S_law_i2
      rw [x_if, c, decide_eq_true h0]
      show sSeq _ _ (hfr x0 L (some (.d (.str (tx j)))) (some (.d (.int i))) x5 (some (.d (.list l))) (some (.d v)) x8 x9) (Da ++ [.dic T4]) = _
      rw [x_seq, x_set, eb]
      rfl
    · refine ⟨v, Da, ka, ?_⟩
      unfold S_law_i2
      rw [x_if, c, decide_eq_false h0]
      rfl
  have tab := tb_get k3.1 (.dic T4)
  -- is it right
  have e5 : ∀ x8, sSet 8 (dAnd (dUn (vIsi "str") (dVar 7)) (dOp (vIn false) (dVar 7) (dVar 2))) (hfr x0 L (some (.d (.str (tx j)))) (some (.d (.int i))) x5 (some (.d (.list l))) (some (.d v)) x8 x9) (D3 ++ [.dic T4]) = .nx (hfr x0 L (some (.d (.str (tx j)))) (some (.d (.int i))) x5 (some (.d (.list l))) (some (.d v)) (some (.d (.bool (fnd v).isSome))) x9) (D3 ++ [.dic T4]) := fun x8 => by
    have v7 : dVar 7 (hfr x0 L (some (.d (.str (tx j)))) (some (.d (.int i))) x5 (some (.d (.list l))) (some (.d v)) x8 x9) (D3 ++ [.dic T4]) = .ok (.d v) (D3 ++ [.dic T4]) := rfl
    have v2 : dVar 2 (hfr x0 L (some (.d (.str (tx j)))) (some (.d (.int i))) x5 (some (.d (.list l))) (some (.d v)) x8 x9) (D3 ++ [.dic T4]) = .ok (.cell L) (D3 ++ [.dic T4]) := rfl
    rw [x_set, x_and, x_dUn, v7, bind_rok, kd v, lift_some, bind_rok]
    cases v with
    | str s =>
      show ofR _ (dOp (vIn false) (dVar 7) (dVar 2) (hfr x0 L (some (.d (.str (tx j)))) (some (.d (.int i))) x5 (some (.d (.list l))) (some (.d (.str s))) x8 x9) (D3 ++ [.dic T4])) _ = _
      rw [x_dOp, v7, bind_rok, v2, bind_rok, in_tab (.inl tab)]
      rfl
    | _ => rfl
  have e6 : ∀ x9, sSet 9 (dIf (dTruth (dVar 8)) (dLst (dCons (dC (.str "told")) (dCons (dOp vIdx (dVar 2) (dVar 7)) dNil))) (dLst (dCons (dC (.str "text")) (dCons (dC (.int 0)) (dCons (dC (.bool true)) dNil))))) (hfr x0 L (some (.d (.str (tx j)))) (some (.d (.int i))) x5 (some (.d (.list l))) (some (.d v)) (some (.d (.bool (fnd v).isSome))) x9) (D3 ++ [.dic T4]) = .nx (hfr x0 L (some (.d (.str (tx j)))) (some (.d (.int i))) x5 (some (.d (.list l))) (some (.d v)) (some (.d (.bool (fnd v).isSome))) (some (.d (dueD v)))) (D3 ++ [.dic T4]) := fun x9 => by
    have t8 : dTruth (dVar 8) (hfr x0 L (some (.d (.str (tx j)))) (some (.d (.int i))) x5 (some (.d (.list l))) (some (.d v)) (some (.d (.bool (fnd v).isSome))) x9) (D3 ++ [.dic T4]) = .ok (fnd v).isSome (D3 ++ [.dic T4]) := rfl
    rw [x_set, x_ifE, t8, bind_rok]
    unfold dueD
    cases hf : fnd v with
    | none => rfl
    | some w =>
      cases v with
      | str s =>
        have ix : dOp vIdx (dVar 2) (dVar 7) (hfr x0 L (some (.d (.str (tx j)))) (some (.d (.int i))) x5 (some (.d (.list l))) (some (.d (.str s))) (some (.d (.bool (some w).isSome))) x9) (D3 ++ [.dic T4]) = .ok (.d w) (D3 ++ [.dic T4]) := by
          show lift (vIdx (.cell L) (.d (.str s)) (D3 ++ [.dic T4])) = _
          rw [idx_tab (.inl tab) hf]
          rfl
        show ofR _ (dLst (dCons (dC (.str "told")) (dCons (dOp vIdx (dVar 2) (dVar 7)) dNil)) (hfr x0 L (some (.d (.str (tx j)))) (some (.d (.int i))) x5 (some (.d (.list l))) (some (.d (.str s))) (some (.d (.bool (some w).isSome))) x9) (D3 ++ [.dic T4])) _ = _
        rw [x_lst, x_cons, x_dC, bind_rok, x_cons, ix, bind_rok, x_nil]
        rfl
      | _ => cases hf
  have e7 : ∀ x8, S_law_i3 (cf 9) (hfr x0 L (some (.d (.str (tx j)))) (some (.d (.int i))) x5 (some (.d (.list l))) (some (.d v)) x8 (some (.d (dueD v)))) (D3 ++ [.dic T4]) = .nx (hfr x0 L (some (.d (.str (tx j)))) (some (.d (.int i))) x5 (some (.d (.list l))) (some (.d v)) x8 (some (.d (dueD v)))) (D3 ++ [.dic T4]) := fun x8 => by
    have v9 : dB vRepr (dCons (dVar 9) dNil) (hfr x0 L (some (.d (.str (tx j)))) (some (.d (.int i))) x5 (some (.d (.list l))) (some (.d v)) x8 (some (.d (dueD v)))) (D3 ++ [.dic T4]) = .ok (.d (.str (dueD v).shown)) (D3 ++ [.dic T4]) := by
      show lift (vRepr [.d (dueD v)] (D3 ++ [.dic T4])) = _
      rw [due_repr]
      rfl
    have c : ∀ (d : Den) (n : Bool), d (hfr x0 L (some (.d (.str (tx j)))) (some (.d (.int i))) x5 (some (.d (.list l))) (some (.d v)) x8 (some (.d (dueD v)))) (D3 ++ [.dic T4]) = .ok (.d (.bool n)) (D3 ++ [.dic T4]) →
        dCmpT (dOp (vEq true) (dB vRepr (dCons (dCall (cf 9 "_law_heard") (dCons (dVar 7) (dCons d dNil))) dNil)) (dB vRepr (dCons (dVar 9) dNil))) (hfr x0 L (some (.d (.str (tx j)))) (some (.d (.int i))) x5 (some (.d (.list l))) (some (.d v)) x8 (some (.d (dueD v)))) (D3 ++ [.dic T4]) = .ok false (D3 ++ [.dic T4]) := fun d n hd => by
      have v7 : dVar 7 (hfr x0 L (some (.d (.str (tx j)))) (some (.d (.int i))) x5 (some (.d (.list l))) (some (.d v)) x8 (some (.d (dueD v)))) (D3 ++ [.dic T4]) = .ok (.d v) (D3 ++ [.dic T4]) := rfl
      rw [x_cmpT, x_dOp, x_dB, x_cons, x_call, x_cons, v7, bind_rok, x_cons, hd, bind_rok, x_nil, bind_rok, bind_rok, bind_rok, heard_ok (kd v) 5, bind_rok, x_nil, bind_rok, bind_rok, due_repr, lift_some, bind_rok, v9, bind_rok, eq_str]
      simp
    have m : (dOp (vEq false) (dOp vMod (dVar 4) (dC (.int 5))) (dC (.int 2))) (hfr x0 L (some (.d (.str (tx j)))) (some (.d (.int i))) x5 (some (.d (.list l))) (some (.d v)) x8 (some (.d (dueD v)))) (D3 ++ [.dic T4]) = .ok (.d (.bool (decide (i % 5 = 2)))) (D3 ++ [.dic T4]) := by
      simp [mod_int']
    unfold S_law_i3
    rw [x_if, x_orT, c _ _ m, bind_rok]
    show ofR _ (dCmpT _ _ (D3 ++ [.dic T4])) _ = _
    rw [c (dC (.bool false)) false rfl]
    rfl
  refine ⟨hfr x0 L (some (.d (.str (tx j)))) (some (.d (.int i))) x5 (some (.d (.list l))) (some (.d v)) (some (.d (.bool (fnd v).isSome))) (some (.d (dueD v))), D3 ++ [.dic T4], ?_, x0, _, _, _, _, _, _, _, D3, k3, rfl, rfl⟩
  show S_law_b2 (cf 9) (hfr x0 L x3 (some (.d (.int i))) x5 x6 x7 x8 x9) (D ++ [.dic T4]) = _
  unfold S_law_b2
  rw [x_seq, x_set, e1]
  show sSeq _ _ (hfr x0 L (some (.d (.str (tx j)))) (some (.d (.int i))) x5 x6 x7 x8 x9) (D1 ++ [.dic T4]) = _
  rw [x_seq, x_set, e2]
  show sSeq _ _ (hfr x0 L (some (.d (.str (tx j)))) (some (.d (.int i))) x5 (some (.d (.list l))) x7 x8 x9) (D1 ++ [.dic T4]) = _
  rw [x_seq, e3]
  show sSeq _ _ _ (D2 ++ [.dic T4]) = _
  rw [x_seq, e4]
  show sSeq _ _ _ (D3 ++ [.dic T4]) = _
  rw [x_seq, e5]
  show sSeq _ _ _ (D3 ++ [.dic T4]) = _
  rw [x_seq, e6]
  show sSeq _ _ _ (D3 ++ [.dic T4]) = _
  rw [x_seq, e7]
  rfl
end
theorem turns (L : Nat) : ∀ (xs : List Nat) {fr : Fr} {st : Store}, Pt L fr st → ∃ fr' st', loopV (gSlot 4) (S_law_b2 (cf 9)) (xs.map fun i : Nat => PV.d (.int (0 + (i : Int)))) fr st = .nx fr' st'
  | [], fr, st, _ => ⟨fr, st, rfl⟩
  | i :: xs, fr, st, h => by
    obtain ⟨fr1, st1, e, h1⟩ := turn_one (i := 0 + (i : Int)) h
    obtain ⟨fr2, st2, e2⟩ := turns L xs h1
    refine ⟨fr2, st2, ?_⟩
    show behind (turnS (gSlot 4) (S_law_b2 (cf 9)) (.d (.int (0 + (i : Int)))) fr st) (loopV (gSlot 4) (S_law_b2 (cf 9)) (xs.map fun i : Nat => PV.d (.int (0 + (i : Int))))) = _
    rw [e]
    exact e2
theorem run_law (ns : List Int) : cfg.run 10 "law" ns = bodyF 10 1 (S_law (cf 9)) [.d (.list (ns.map .int))] [] := by kernel_rfl
theorem plain (ns : List Int) (h : ns.length ≤ 63) (hs : ∀ i ∈ ns, i.natAbs.log2 ≤ 1048576) : ∃ st, cfg.run 10 "law" ns = .ok (.d (.bool true)) st := by
  obtain ⟨L, D, hD, e0⟩ := deckM_ok 1572606 (by decide) (by decide) h hs
  rw [← deck_eq 7] at e0
  rw [run_law]
  have s1 : sSet 1 (dCall (cf 9 "_law_deck") (dCons (dVar 0) dNil)) [some (.d (.list (ns.map .int))), none, none, none, none, none, none, none, none, none] [] = .nx [some (.d (.list (ns.map .int))), some (.cell 1), none, none, none, none, none, none, none, none] D := by
    rw [x_set, x_call]
    show ofR _ (cf 9 "_law_deck" [.d (.list (ns.map .int))] []) _ = _
    rw [e0]
    rfl
  have s2 : sSet 2 (dCall (cf 9 "_law_texts") dNil) [some (.d (.list (ns.map .int))), some (.cell 1), none, none, none, none, none, none, none, none] D = .nx (hfr (some (.d (.list (ns.map .int)))) L none none none none none none none) (D ++ [.dic T4]) := by
    rw [x_set, x_call, x_nil, bind_rok, texts_ok hD.1 7]
    rfl
  obtain ⟨x3, x5, e3⟩ := told_all (x0 := some (.d (.list (ns.map .int)))) (tb_get hD.1 (.dic T4))
  obtain ⟨fr', st', e⟩ := turns L (List.range 24) (fr := hfr (some (.d (.list (ns.map .int)))) L x3 none x5 none none none none) (st := D ++ [.dic T4]) ⟨_, _, _, _, _, _, _, _, D, hD, rfl, rfl⟩
  refine ⟨st', ?_⟩
  show retF (S_law (cf 9) [some (.d (.list (ns.map .int))), none, none, none, none, none, none, none, none, none] []) = _
  unfold S_law
  rw [x_seq, s1]
  show retF (sSeq _ _ _ D) = _
  rw [x_seq, s2]
  show retF (sSeq _ _ _ (D ++ [.dic T4])) = _
  rw [x_seq, e3]
  show retF (sSeq (sFor (dRange1 (dCons (dC (.int 24)) dNil)) (gSlot 4) (S_law_b2 (cf 9))) _ (hfr (some (.d (.list (ns.map .int)))) L x3 none x5 none none none none) (D ++ [.dic T4])) = _
  have ef : ∀ fr st, sFor (dRange1 (dCons (dC (.int 24)) dNil)) (gSlot 4) (S_law_b2 (cf 9)) fr st = loopV (gSlot 4) (S_law_b2 (cf 9)) ((List.range 24).map fun i : Nat => PV.d (.int (0 + (i : Int)))) fr st := fun fr st => rfl
  rw [x_seq, ef, e]
  rfl
end Sr
open PySem PySem.W PySem.Calls PyProof.Rows
theorem PySem.Challenge.cw_stillrounds_k06_texts_of_worlds_holds : PySem.Challenge.rw_stillrounds_k06_texts_of_worlds.Holds := by
  w_on; o_law
  refine HandSHeadRun.head_any (r := Sr.R) (q := view Sr.R.prog [15]) (H := Sr.hookS 5 Sr.cfg) (ob := Sr.ob) (M := 8000) (loose := Sr.loose) (d := HandSHeadRun.topDef Sr.R.prog 15) (kwd := []) Sr.ob_eq
    (by kernel_rfl) (fun s => by kernel_rfl) Sr.run (by kernel_rfl) (by kernel_rfl) (by kernel_rfl) (by rfl) (by first | assumption | decide +kernel) (by decide +kernel) ⟨rfl, rfl, rfl, rfl, rfl, by decide +kernel⟩ ?hw ?hc
  case hw => w_witness2
  case hc =>
    have e : (HandSHeadRun.topDef Sr.R.prog 15).name = ("law" : PySem.Str) := by kernel_rfl
    exact Sr.walk_S (l := PySem.Challenge.rw_stillrounds_k06_texts_of_worlds) (n := 63) (k := 10) (x := "script") rfl (by decide) (by kernel_rfl) ⟨rfl, by decide, by decide⟩ Sr.okAll (by decide +kernel) (by rw [e]; decide +kernel) (fun ns hl hs => by rw [e]; exact Sr.plain ns hl hs)
