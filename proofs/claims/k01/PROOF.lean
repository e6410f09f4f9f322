import PyProof.Rows.All
import PySem.Challenge.RW_calmlists_k01_limits_and_errors
import Wide.All
import OpenK.AllK
import Wide.FinOn
import HandS.ForMost
import HandS.ForExc
import HandS.Lambda
import HandS.TupAny
import HandS.TupMul
import HandS.WideBits
import HandS.Zip
import HandS.ExcInit
import KE.GoesZip
import KE.GoesMore
import HandS.CallSlots
import HandS.Defaults
import HandS.Property
import HandS.IsInst
import KE.DataEq
import HandS.Text
import HandS.Strs
import HandS.RaiseMore
import HandS.Small
import HandS.WordsDict
import PyProof.CollectStr
import PyProof.ListStr
import HandS.More
import HandS.SetFor
import PyProof.ReprRoads
import PyProof.CallFns
import HandS.Style
import HandS.Ends
import HandS.HeadEnd
import HandS.HeadHook1
import HandS.HeadHook2
import HandS.Head0
import HandS.Head1
import HandS.Head2
import KE.KStateDown
import PyProof.ReprLen
import PyProof.Rows.StrRev
import PyProof.SliceStr2
import PyProof.SetRoads
import HandS.HeadHook3
import PyProof.StrWalks
import HandS.NoneIn
import HandS.Replace
import HandS.EndBits
import PyProof.StrLawsFirst
import PyProof.InstSpecial
import HandS.List
import PyProof.TupleOps
import PyProof.WalksMore
import HandS.EndTab
import HandS.Nested
import HandS.Keys
import HandS.Iter
import KE.SortKeyHeap
import PyProof.TupleOfSeq
import KE.KDictSum
import KE.KNestM
import HandS.Conv
import PyProof.ListRange
import KE.KRevSl
import KE.KIndexOf
import HandS.DictComp
import HandS.FltList
import HandS.SortInts
import HandS.Codes
import PyProof.Rows.StrSplitAre
import HandS.Sort
import PyProof.EqKinds
import KE.KEqDict
import PyProof.InstNe
import HandS.NamedTupSort
import HandS.ClsMeth
import HandS.HeadNt
import HandS.ExcField
import HandS.HotCalls
import HandS.ExcIs
import KE.KExcIs
import KE.KExcInit
import KE.KTryMore
import PyProof.ListMulRoad
import PyProof.FactsAll.tuple_2
import HandS.Star
import PyProof.Rows.SortShellAny
import KE.DataFind
import KE.KSortTupG
import HandS.TupSets
import HandS.ExcOwn
import KE.GoesEnum
import KE.KDictZip
import KE.KItemsList
import HandS.MapObj
import PyProof.NeKinds
import HandS.Records
import HandS.ExcValue
section
set_option Elab.async false
set_option linter.all false
set_option maxRecDepth 100000
set_option maxHeartbeats 4000000

namespace L2
open PySem PySem.Spec PyProof.Rows
section
end
section
end
end L2
namespace DL
open PyProof.Rows hiding St
open PySem PySem.Spec L2
end DL
namespace DL
open PyProof.Rows hiding St
open PySem PySem.Spec L2

inductive Dt where
  | non
  | bl (b : Bool)
  | int (i : Int)
  | str (x : List Nat)
  | tup (xs : List Dt)
  | lst (xs : List Dt)
  | scr (xs : List Dt)
  | dct (kvs : List (Key × Dt))
  | ins (C : Addr) (fs : List (Str × Dt))

/-- a text that no value has -/
@[irreducible]
noncomputable def badL : List Nat := List.replicate (sizeLine + 1) 0
/-- an object of one's own, that may change -/
inductive MO where
  | lst (ds : List Dt)
  | dK (kvs : List (Key × Dt))
  | dT (kvs : List (List Key × Dt))
  | ins (C : Addr) (fs : List (Str × Dt))
  /-- a dict that is walked: it is read alone -/
  | lk (u : HO) (kvs : List (Key × Dt))

inductive Sl where
  | no
  | dat (d : Dt)
  /-- b: it is a parameter's, lent by the caller -/
  | own (b : Bool) (p : Addr) (o : MO)
  /-- the exception in hand: where it stands and as what, its class, its dict, its attributes -/
  | exc (q : Addr × Obj) (C : Addr) (d : Option Addr) (fs : List (Str × Dt))
abbrev En := List Sl

/-- a tuple known to have no dict -/
def TupN (K : PySem.W.Frag) (F : Hp) (a : Addr) (vs : List V) : Prop := (∃ o, F a = some (.frz o (.tup vs)) ∧ o.dict = none) ∨
  ∃ (o : Obj) (its : Array Value) (n : Nat), K.lookup a = some o ∧ o.cls = .type "tuple" ∧ o.dict = none ∧ o.data = .seq its n ∧ its.size ≤ sizeLine ∧ Vals vs its.toList
theorem TupN.mono {K : PySem.W.Frag} {H H' : Hp} {a : Addr} {xs : List V} (h : TupN K H a xs) (e : Same H H') : TupN K H' a xs := by
  rcases h with ⟨o, h, d⟩ | h
  · exact .inl ⟨o, e _ _ h, d⟩
  · exact .inr h
theorem TupN.sq {K : PySem.W.Frag} {H : Hp} {a : Addr} {xs : List V} (h : TupN K H a xs) : SqT K H a xs := by
  rcases h with ⟨o, h, _⟩ | ⟨o, its, n, h1, h2, _, h3, h4, h5⟩
  · exact .inl (.inr ⟨o, h⟩)
  · exact .inr ⟨o, its, n, h1, h2, h3, h4, h5⟩
/-- the dict of an exception, if it has one -/
def ExD (F : Hp) : Option Addr → List (Str × V) → Prop
  | none, us => us = []
  | some dx, us => F dx = some (exd dx us)
/-- what is known of an address: nothing, or that there is an exception of a class -/
def XInf (F : Hp) (p : Addr) (vs : List (Str × V)) : Prop := vs = [] ∨ ∃ (C : Addr) (d : Option Addr) (us : List (Str × V)), vs = (("1" : Str), V.int (C : Nat)) :: us ∧ F p = some (exo p C d) ∧ ExD F d us
theorem XInf.mono {F F' : Hp} (s : ∀ a o, F a = some o → F' a = some o) {p : Addr} {vs : List (Str × V)} : XInf F p vs → XInf F' p vs
  | .inl e => .inl e
  | .inr ⟨C, d, us, e, h, x⟩ => .inr ⟨C, d, us, e, s _ _ h, by
    cases d with
    | none => exact x
    | some dx => exact s _ _ x⟩
mutual
inductive Rep (K : PySem.W.Frag) (F : Hp) : V → Dt → Prop
  | non : Rep K F .non .non
  | bl (b : Bool) : Rep K F (.bl b) (.bl b)
  | int (i : Int) : Rep K F (.int i) (.int i)
  | str (l : List Nat) (h : l.length ≤ sizeLine) : Rep K F (.str ⟨l.toArray⟩) (.str l)
  | tup {a : Addr} {vs : List V} {ds : List Dt} (h : TupN K F a vs) (r : Reps K F vs ds) : Rep K F (.ref a) (.tup ds)
  | lst {a : Addr} {vs : List V} {ds : List Dt} (h : F a = some (.lst vs)) (r : Reps K F vs ds) : Rep K F (.ref a) (.lst ds)
  | scr {a : Addr} {vs : List V} {ds : List Dt} (h : SqL K F a vs) (r : Reps K F vs ds) : Rep K F (.ref a) (.scr ds)
  | dct {a : Addr} {kvs : List (Key × V)} {ds : List (Key × Dt)} (h : F a = some (.dK kvs)) (r : RepK K F kvs ds) : Rep K F (.ref a) (.dct ds)
  | ins {a C dx : Addr} {fs : List (Str × V)} {ds : List (Str × Dt)} (h : F a = some (.ins C dx fs)) (r : RepF K F fs ds) : Rep K F (.ref a) (.ins C ds)
  | adr {p : Addr} {vs : List (Str × V)} {ds : List (Str × Dt)} (h : PySem.W.clsIn K p = none) (x : XInf F p vs) (r : RepF K F vs ds) : Rep K F (.ref p) (.ins p (("0", .str badL) :: ds))
inductive Reps (K : PySem.W.Frag) (F : Hp) : List V → List Dt → Prop
  | nil : Reps K F [] []
  | cons {v : V} {d : Dt} {vs : List V} {ds : List Dt} (h : Rep K F v d) (t : Reps K F vs ds) : Reps K F (v :: vs) (d :: ds)
inductive RepK (K : PySem.W.Frag) (F : Hp) : List (Key × V) → List (Key × Dt) → Prop
  | nil : RepK K F [] []
  | cons {k : Key} {v : V} {d : Dt} {vs : List (Key × V)} {ds : List (Key × Dt)} (h : Rep K F v d) (t : RepK K F vs ds) : RepK K F ((k, v) :: vs) ((k, d) :: ds)
inductive RepF (K : PySem.W.Frag) (F : Hp) : List (Str × V) → List (Str × Dt) → Prop
  | nil : RepF K F [] []
  | cons {k : Str} {v : V} {d : Dt} {vs : List (Str × V)} {ds : List (Str × Dt)} (h : Rep K F v d) (t : RepF K F vs ds) : RepF K F ((k, v) :: vs) ((k, d) :: ds)
end
inductive RepT (K : PySem.W.Frag) (F : Hp) : List (List Key × V) → List (List Key × Dt) → Prop
  | nil : RepT K F [] []
  | cons {k : List Key} {v : V} {d : Dt} {vs : List (List Key × V)} {ds : List (List Key × Dt)} (h : Rep K F v d) (t : RepT K F vs ds) : RepT K F ((k, v) :: vs) ((k, d) :: ds)

theorem sameT {K : PySem.W.Frag} {H H' : Hp} {a : Addr} {xs : List V} (e : Same H H') (h : TupN K H a xs) : SqT K H' a xs := (h.mono e).sq

section
variable {K : PySem.W.Frag} {F F' : Hp}
mutual
theorem Rep.mono (s : Same F F') : ∀ {v : V} {d : Dt}, Rep K F v d → Rep K F' v d
  | _, _, .non => .non
  | _, _, .bl b => .bl b
  | _, _, .int i => .int i
  | _, _, .str l h => .str l h
  | _, _, .tup h r => .tup (h.mono s) (Reps.mono s r)
  | _, _, .lst h r => .lst (s _ _ h) (Reps.mono s r)
  | _, _, .scr h r => .scr (s.seq h) (Reps.mono s r)
  | _, _, .dct h r => .dct (s _ _ h) (RepK.mono s r)
  | _, _, .ins h r => .ins (s _ _ h) (RepF.mono s r)
  | _, _, .adr h x r => .adr h (x.mono s) (RepF.mono s r)
theorem Reps.mono (s : Same F F') : ∀ {vs : List V} {ds : List Dt}, Reps K F vs ds → Reps K F' vs ds
  | _, _, .nil => .nil
  | _, _, .cons h t => .cons (Rep.mono s h) (Reps.mono s t)
theorem RepK.mono (s : Same F F') : ∀ {vs : List (Key × V)} {ds : List (Key × Dt)}, RepK K F vs ds → RepK K F' vs ds
  | _, _, .nil => .nil
  | _, _, .cons h t => .cons (Rep.mono s h) (RepK.mono s t)
theorem RepF.mono (s : Same F F') : ∀ {vs : List (Str × V)} {ds : List (Str × Dt)}, RepF K F vs ds → RepF K F' vs ds
  | _, _, .nil => .nil
  | _, _, .cons h t => .cons (Rep.mono s h) (RepF.mono s t)
end
theorem RepT.mono (s : Same F F') {vs : List (List Key × V)} {ds : List (List Key × Dt)} (h : RepT K F vs ds) : RepT K F' vs ds := by
  induction h with
  | nil => exact .nil
  | cons h t ih => exact .cons (h.mono s) ih

theorem Reps.length {vs : List V} {ds : List Dt} (r : Reps K F vs ds) : vs.length = ds.length := by
  induction ds generalizing vs with
  | nil => cases r; rfl
  | cons d ds ih => cases r with | cons h t => exact congrArg (· + 1) (ih t)
theorem Reps.set {v : V} {d : Dt} (q : Rep K F v d) {vs : List V} {ds : List Dt} (i : Nat) (r : Reps K F vs ds) : Reps K F (vs.set i v) (ds.set i d) := by
  induction ds generalizing vs i with
  | nil => cases r; exact .nil
  | cons x ds ih =>
    cases r with
    | cons h t =>
      cases i with
      | zero => exact .cons q t
      | succ i => exact .cons h (ih i t)
theorem RepF.lookup {vs : List (Str × V)} {ds : List (Str × Dt)} {f : Str} {d : Dt} (r : RepF K F vs ds) (e : ds.lookup f = some d) : ∃ v, vs.lookup f = some v ∧ Rep K F v d := by
  induction ds generalizing vs with
  | nil => simp at e
  | cons x ds ih =>
    cases r with
    | cons h t =>
      rename_i k v vs d'
      rw [List.lookup_cons] at e
      rw [List.lookup_cons]
      cases q : (f == k) with
      | true =>
        rw [q] at e
        obtain rfl := Option.some.inj e
        exact ⟨_, rfl, h⟩
      | false =>
        rw [q] at e
        exact ih t e
theorem RepF.none {vs : List (Str × V)} {ds : List (Str × Dt)} {f : Str} (r : RepF K F vs ds) (e : ds.lookup f = none) : vs.lookup f = none := by
  induction ds generalizing vs with
  | nil => cases r; rfl
  | cons x ds ih =>
    cases r with
    | cons h t =>
      rename_i k v vs d'
      rw [List.lookup_cons] at e
      rw [List.lookup_cons]
      cases q : (f == k) with
      | true =>
        rw [q] at e
        cases e
      | false =>
        rw [q] at e
        exact ih t e
def putD (f : Str) (v : Dt) : List (Str × Dt) → List (Str × Dt)
  | [] => [(f, v)]
  | (g, x) :: r => if g = f then (g, v) :: r else (g, x) :: putD f v r
theorem RepF.put {f : Str} {v : V} {d : Dt} (h : Rep K F v d) {vs : List (Str × V)} {ds : List (Str × Dt)} (r : RepF K F vs ds) : RepF K F (putF f v vs) (putD f d ds) := by
  induction ds generalizing vs with
  | nil => cases r; exact .cons h .nil
  | cons x ds ih =>
    cases r with
    | cons q t =>
      rename_i k _ _ _
      show RepF K F (if k = f then _ else _) (if k = f then _ else _)
      by_cases e : k = f
      · rw [if_pos e, if_pos e]
        exact .cons h t
      · rw [if_neg e, if_neg e]
        exact .cons q (ih t)
theorem RepF.length {vs : List (Str × V)} {ds : List (Str × Dt)} (r : RepF K F vs ds) : vs.length = ds.length := by
  induction ds generalizing vs with
  | nil => cases r; rfl
  | cons d ds ih => cases r with | cons h t => exact congrArg (· + 1) (ih t)
theorem RepK.length {vs : List (Key × V)} {ds : List (Key × Dt)} (r : RepK K F vs ds) : vs.length = ds.length := by
  induction ds generalizing vs with
  | nil => cases r; rfl
  | cons d ds ih => cases r with | cons h t => exact congrArg (· + 1) (ih t)
end

inductive RepO (K : PySem.W.Frag) (F : Hp) : HO → MO → Prop
  | lst {vs : List V} {ds : List Dt} (r : Reps K F vs ds) : RepO K F (.lst vs) (.lst ds)
  | dK {vs : List (Key × V)} {ds : List (Key × Dt)} (r : RepK K F vs ds) : RepO K F (.dK vs) (.dK ds)
  | dT {vs : List (List Key × V)} {ds : List (List Key × Dt)} (r : RepT K F vs ds) : RepO K F (.dT vs) (.dT ds)
  | ins {C dx : Addr} {vs : List (Str × V)} {ds : List (Str × Dt)} (r : RepF K F vs ds) : RepO K F (.ins C dx vs) (.ins C ds)
  | lk {o : Obj} {vs : List (Key × V)} {ds : List (Key × Dt)} (r : RepK K F vs ds) : RepO K F (.frz o (.dK vs)) (.lk (.frz o (.dK vs)) ds)
theorem RepO.mono {K : PySem.W.Frag} {F F' : Hp} (s : Same F F') {ho : HO} {o : MO} (h : RepO K F ho o) : RepO K F' ho o := by
  cases h with
  | lst r => exact .lst (r.mono s)
  | dK r => exact .dK (r.mono s)
  | dT r => exact .dT (r.mono s)
  | ins r => exact .ins (r.mono s)
  | lk r => exact .lk (r.mono s)
def MO.toD : MO → Option Dt
  | .lst ds => some (.lst ds)
  | .dK kd => some (.dct kd)
  | .ins C fs => some (.ins C fs)
  | .dT _ => none
  | .lk _ _ => none

structure Fm where
  F0 : Hp
  H0 : Hp
  B : List Addr
  /-- what nobody touches -/
  P : Hp
  /-- the tables of code objects, with the name of what is made there -/
  T : List (Addr × Str)

/-- a frame without pins -/
structure Fm0 where
  F0 : Hp
  H0 : Hp
  B : List Addr
abbrev Fm.of (Z : Fm0) (T : List (Addr × Str)) : Fm := ⟨Z.F0, Z.H0, Z.B, fun _ => none, T⟩
/-- the attributes in an exception's dict -/
def XdAt (K : PySem.W.Frag) (F : Hp) : Option Addr → List (Str × Dt) → Prop
  | some a, fs => ∃ us, F a = some (.xd us) ∧ RepF K F us fs
  | none, fs => fs = []
theorem XdAt.mono {K : PySem.W.Frag} {F F1 : Hp} (s : Same F F1) : ∀ {d : Option Addr} {fs : List (Str × Dt)}, XdAt K F d fs → XdAt K F1 d fs
  | some _, _, ⟨us, h, r⟩ => ⟨us, s _ _ h, r.mono s⟩
  | none, _, h => h
/-- the object of the exception is of its class and has its dict -/
def ExAt (q : Addr × Obj) (C : Addr) (d : Option Addr) : Prop := Zc (.ref C) d q.2 ∧ ∃ vs, q.2.data = .fields vs
def RepS (K : PySem.W.Frag) (F H : Hp) (ov : Option V) : Sl → Prop
  | .no => True
  | .dat d => ∃ v, ov = some v ∧ Rep K F v d
  | .own _ p o => ov = some (.ref p) ∧ F p = none ∧ ∃ ho, H p = some ho ∧ RepO K F ho o
  | .exc q C d fs => ov = some (.ref q.1) ∧ ExAt q C d ∧ XdAt K F d fs

structure DI (K : PySem.W.Frag) (Z : Fm) (F H : Hp) (σ : St) (ρ : En) : Prop where
  f0 : Same Z.F0 F
  fh : Same F H
  fnew : ∀ a o, F a = some o → (∃ o', Z.F0 a = some o') ∨ Z.H0 a = none
  keep : ∀ a o, Z.H0 a = some o → a ∈ Z.B ∨ H a = some o
  bor : ∀ b ∈ Z.B, ∃ o, H b = some o
  len : σ.length = ρ.length
  sl : ∀ (i : Nat) s, ρ[i]? = some s → ∃ ov, σ[i]? = some ov ∧ RepS K F H ov s
  ownB : ∀ (i : Nat) b p o, ρ[i]? = some (.own b p o) → (b = true ∧ p ∈ Z.B) ∨ (b = false ∧ p ∉ Z.B ∧ Z.H0 p = none)
  dis : ∀ (i j : Nat) b c p o q o', ρ[i]? = some (.own b p o) → ρ[j]? = some (.own c q o') → i ≠ j → p ≠ q
  pin : ∀ a u, Z.P a = some u → H a = some u ∧ F a = none ∧ a ∉ Z.B ∧ Z.H0 a = none
  ownP : ∀ (i : Nat) b p o, ρ[i]? = some (.own b p o) → Z.P p = none
  tab : LamX.Tabs Z.T H
  tabB : ∀ t ∈ Z.T, t.1 ∈ Z.B
  tabF : ∀ t ∈ Z.T, F t.1 = none

structure NewAt (K : PySem.W.Frag) (Z : Fm) (F H : Hp) (ρ : En) (p : Addr) (o : MO) : Prop where
  fr : F p = none
  at_ : ∃ ho, H p = some ho ∧ RepO K F ho o
  h0 : Z.H0 p = none
  nb : p ∉ Z.B
  np : Z.P p = none
  ne : ∀ (i : Nat) b q o', ρ[i]? = some (.own b q o') → q ≠ p

section
variable {K : PySem.W.Frag} {Z : Fm} {F H : Hp} {σ : St} {ρ : En} {p : Addr} {ho ho' : HO} {o o' : MO}
theorem RepS.up {F F' H' : Hp} {ov : Option V} {s : Sl} (sf : Same F F') (sh : ∀ q ho, (∃ b o, s = .own b q o) → F q = none → H q = some ho → F' q = none ∧ H' q = some ho) (h : RepS K F H ov s) : RepS K F' H' ov s := by
  cases s with
  | no => trivial
  | dat d =>
    obtain ⟨v, e, r⟩ := h
    exact ⟨v, e, r.mono sf⟩
  | own b q o =>
    obtain ⟨e, f, ho, hh, r⟩ := h
    obtain ⟨f', h'⟩ := sh q ho ⟨b, o, rfl⟩ f hh
    exact ⟨e, f', ho, h', r.mono sf⟩
  | exc q C d fs =>
    obtain ⟨e, z, x⟩ := h
    exact ⟨e, z, x.mono sf⟩
theorem get_set {α : Type} {l : List α} {i j : Nat} {x y : α} (h : (l.set i x)[j]? = some y) : (i = j ∧ i < l.length ∧ y = x) ∨ (i ≠ j ∧ l[j]? = some y) := by
  rw [List.getElem?_set] at h
  by_cases e : i = j
  · subst e
    rw [if_pos rfl] at h
    by_cases hl : i < l.length
    · rw [if_pos hl] at h
      exact .inl ⟨rfl, hl, (Option.some.inj h).symm⟩
    · rw [if_neg hl] at h
      cases h
  · rw [if_neg e] at h
    exact .inr ⟨e, h⟩
end
end DL

namespace DL
open PyProof.Rows hiding St
open PySem PySem.Spec L2

/-- an own error in the air: its class, its attributes -/
structure Xn where
  C : Addr
  fs : List (Str × Dt)
abbrev XP := Xn → En → Prop
abbrev DT := En → (Dt → En → Prop) → XP → Prop
abbrev DO := En → (MO → En → Prop) → XP → Prop
/-- an argument: data, or the slot of an object that is lent -/
inductive Ag where
  | d (x : Dt)
  | b (i : Nat)
abbrev DA := En → (List Ag → En → Prop) → XP → Prop
inductive Rv where
  | d (x : Dt)
  | o (x : MO)
  /-- nothing, and a new own object at q -/
  | g (q : Addr) (x : MO)

def XnAt (K : PySem.W.Frag) (F : Hp) (d : Option Addr) (x : Xn) : Prop := XdAt K F d x.fs
def PX (K : PySem.W.Frag) (Z : Fm) (W : WX) (F : Hp) (σ : St) (U : XP) : Prop :=
  ∀ x ρ' F' H' d, DI K Z F' H' σ ρ' → Same F F' → XnAt K F' d x → U x ρ' → W (.ref x.C) d σ H'
theorem PX.mono {K : PySem.W.Frag} {Z : Fm} {W : WX} {F F1 : Hp} {σ : St} {U : XP} (u : PX K Z W F σ U) (s : Same F F1) : PX K Z W F1 σ U := fun x ρ' F' H' d I s' => u x ρ' F' H' d I (s.trans s')
/-- what is wanted of a value -/
def Rt (K : PySem.W.Frag) (Z : Fm) (F : Hp) (σ : St) (R : Dt → En → Prop) (Q : VK) : Prop := ∀ d ρ' v F' H', DI K Z F' H' σ ρ' → Same F F' → Rep K F' v d → R d ρ' → Q v H'
def tE (K : PySem.W.Frag) (Z : Fm) (W : WX) (m : DT) : TE := fun σ H Q => ∃ F ρ R U, DI K Z F H σ ρ ∧ m ρ R U ∧ Rt K Z F σ R Q ∧ PX K Z W F σ U
def AgRep (K : PySem.W.Frag) (F : Hp) (σ : St) (v : V) : Ag → Prop
  | .d x => Rep K F v x
  | .b i => σ[i]? = some (some v)
theorem AgRep.mono {K : PySem.W.Frag} {F F1 : Hp} {σ : St} {v : V} (s : Same F F1) : ∀ {a : Ag}, AgRep K F σ v a → AgRep K F1 σ v a
  | .d _, h => Rep.mono s h
  | .b _, h => h
def DE (X : Cx) (Z : Fm) (W : WX) (e : Expr) (m : DT) : Prop := PE X e (tE X.K Z W m)
section
end
end DL

namespace DL
open PyProof.Rows hiding St
open PySem PySem.Spec L2

structure DEn where
  nx : En → Prop
  rt : Rv → En → Prop
  bk : En → Prop
  ct : En → Prop
  ex : XP
abbrev DSt := DEn → En → Prop
def RvAt (K : PySem.W.Frag) (Z : Fm) (F H : Hp) (ρ : En) (v : V) : Rv → Prop
  | .d d => Rep K F v d
  | .o o => ∃ p, v = .ref p ∧ NewAt K Z F H ρ p o
  | .g q o => v = .non ∧ PySem.W.clsIn K q = none ∧ NewAt K Z F H ρ q o
structure ER (K : PySem.W.Frag) (Z : Fm) (W : WX) (F : Hp) (D : DEn) (D' : Ends) : Prop where
  nx : ∀ ρ' σ' F' H', DI K Z F' H' σ' ρ' → Same F F' → D.nx ρ' → D'.nx σ' H'
  rt : ∀ rv ρ' v σ' F' H', DI K Z F' H' σ' ρ' → Same F F' → RvAt K Z F' H' ρ' v rv → D.rt rv ρ' → D'.rt v H'
  bk : ∀ ρ' σ' F' H', DI K Z F' H' σ' ρ' → Same F F' → D.bk ρ' → D'.bk σ' H'
  ct : ∀ ρ' σ' F' H', DI K Z F' H' σ' ρ' → Same F F' → D.ct ρ' → D'.ct σ' H'
  ex : ∀ σ, PX K Z W F σ D.ex
theorem ER.mono {K : PySem.W.Frag} {Z : Fm} {W : WX} {F F1 : Hp} {D : DEn} {D' : Ends} (r : ER K Z W F D D') (s : Same F F1) : ER K Z W F1 D D' where
  nx := fun ρ' σ' F' H' I s' => r.nx ρ' σ' F' H' I (s.trans s')
  rt := fun rv ρ' v σ' F' H' I s' => r.rt rv ρ' v σ' F' H' I (s.trans s')
  bk := fun ρ' σ' F' H' I s' => r.bk ρ' σ' F' H' I (s.trans s')
  ct := fun ρ' σ' F' H' I s' => r.ct ρ' σ' F' H' I (s.trans s')
  ex := fun σ => (r.ex σ).mono s
def tS (K : PySem.W.Frag) (Z : Fm) (W : WX) (m : DSt) : TS := fun D' σ H => ∃ F ρ D, DI K Z F H σ ρ ∧ m D ρ ∧ ER K Z W F D D'
def DSs (X : Cx) (Z : Fm) (W : WX) (st : List Stmt) (m : DSt) : Prop := PSs X st (tS X.K Z W m)
section
end

section
end
end DL

namespace DL
open PyProof.Rows hiding St
open PySem PySem.Spec L2

section
end

section
end
end DL

namespace DL
open PyProof.Rows hiding St
open PySem PySem.Spec L2

abbrev SpD := List Sl → (Rv → List MO → Prop) → (Xn → List MO → Prop) → Prop
def RepA (K : PySem.W.Frag) (F H : Hp) (v : V) : Sl → Prop
  | .no => True
  | .dat d => Rep K F v d
  | .own _ p o => v = .ref p ∧ F p = none ∧ ∃ ho, H p = some ho ∧ RepO K F ho o
  | .exc q C d fs => v = .ref q.1 ∧ ExAt q C d ∧ XdAt K F d fs
def owns : List Sl → List Addr
  | [] => []
  | .own _ p _ :: r => p :: owns r
  | _ :: r => owns r
structure Aft (T : List (Addr × Str)) (K : PySem.W.Frag) (F H : Hp) (B : List Addr) (F' H' : Hp) : Prop where
  f0 : Same F F'
  fh : Same F' H'
  fnew : ∀ a o, F' a = some o → (∃ o', F a = some o') ∨ H a = none
  keep : ∀ a o, H a = some o → a ∈ B ∨ (∃ t ∈ T, t.1 = a) ∨ H' a = some o
  tab : LamX.Tabs T H'
  tabF : ∀ t ∈ T, F' t.1 = none
def Outs (K : PySem.W.Frag) (F' H' : Hp) : List Addr → List MO → Prop := Paired fun p o => F' p = none ∧ ∃ ho, H' p = some ho ∧ RepO K F' ho o
def RvOut (K : PySem.W.Frag) (H F' H' : Hp) (v : V) : Rv → Prop
  | .d d => Rep K F' v d
  | .o o => ∃ p, v = .ref p ∧ F' p = none ∧ H p = none ∧ ∃ ho, H' p = some ho ∧ RepO K F' ho o
  | .g q o => v = .non ∧ PySem.W.clsIn K q = none ∧ F' q = none ∧ H q = none ∧ ∃ ho, H' q = some ho ∧ RepO K F' ho o
def spOf (T : List (Addr × Str)) (K : PySem.W.Frag) (s : SpD) : Sp := fun vs H Q E => ∃ (F : Hp) (args : List Sl), Same F H ∧ Paired (RepA K F H) vs args ∧ (owns args).Nodup ∧ (LamX.Tabs T H ∧ ∀ t ∈ T, F t.1 = none) ∧
  s args (fun rv outs => ∀ v F' H', Aft T K F H (owns args) F' H' → Outs K F' H' (owns args) outs → RvOut K H F' H' v rv → Q v H')
    (fun x outs => ∀ d F' H', Aft T K F H (owns args) F' H' → Outs K F' H' (owns args) outs → XnAt K F' d x → E (.ref x.C) d H')

structure FnG (P : Program) (w : World) (K : PySem.W.Frag) (mg : Str → Option Value) (base : Heap) (k : Nat) (f : Addr) (fd : FuncData) (ps : List Str) (sp : Sp) : Prop where
  len : ∀ vs H Q E, sp vs H Q E → vs.length = ps.length
  run : ∀ (A : Around) (outer : List Env) (s : Shared) (H : Hp) (args : Args) (us : List Value) (vs : List V) (Q : VK) (E : XK), Room k A → A.guards = some [] → Env0 P w K mg base A outer s H → BindsTo s fd args (ps.zip us) → Vals vs us → sp vs H Q E →
    codeAny (model P w) A (.call (.ref f) args) (CR (L2.CX P w) outer P w H s Q E) s
theorem FnG.mono {P : Program} {w : World} {K : PySem.W.Frag} {mg : Str → Option Value} {base : Heap} {j k : Nat} {f : Addr} {fd : FuncData} {ps : List Str} {sp : Sp} (F : FnG P w K mg base j f fd ps sp) (h : j ≤ k) :
    FnG P w K mg base k f fd ps sp := ⟨F.len, fun A outer s H args us vs Q E hr => F.run A outer s H args us vs Q E (hr.mono h)⟩
section
end

def lent : List Ag → List Nat
  | [] => []
  | .b i :: r => i :: lent r
  | .d _ :: r => lent r
def argsOf (ρ : En) : List Ag → Option (List Sl)
  | [] => some []
  | .d x :: r => (match argsOf ρ r with
    | some l => some (.dat x :: l)
    | none => none)
  | .b i :: r => (match ρ[i]? with
    | some (.own b p o) => (match (lent r).contains i with
      | true => none
      | false => (match argsOf ρ r with
        | some l => some (.own b p o :: l)
        | none => none))
    | _ => none)
def putMO (i : Nat) (o : MO) (ρ : En) : En := match ρ[i]? with
  | some (.own b p _) => ρ.set i (.own b p o)
  | _ => ρ
def putOuts : List Ag → List MO → En → En
  | .b i :: r, o :: os, ρ => putOuts r os (putMO i o ρ)
  | .d _ :: r, os, ρ => putOuts r os ρ
  | _, _, ρ => ρ
def Rv.toD : Rv → Option Dt
  | .d x => some x
  | .o x => x.toD
  | .g _ _ => none
section
variable {K : PySem.W.Frag} {Z : Fm} {F H F' H' : Hp} {σ : St} {ρ : En}
theorem argsOf_congr {ρ ρ' : En} : ∀ {as : List Ag}, (∀ j ∈ lent as, ρ[j]? = ρ'[j]?) → argsOf ρ as = argsOf ρ' as
  | [], _ => rfl
  | .d x :: r, h => by
    show (match argsOf ρ r with | some l => _ | none => _) = _
    rw [argsOf_congr (as := r) h]
    rfl
  | .b i :: r, h => by
    show (match ρ[i]? with | some (.own b p o) => _ | _ => none) = _
    rw [h i List.mem_cons_self, argsOf_congr (as := r) fun j hj => h j (List.mem_cons_of_mem _ hj)]
    rfl
theorem putMO_get {i j : Nat} {o : MO} {s : Sl} (h : (putMO i o ρ)[j]? = some s) : (j = i ∧ ∃ b p o0, ρ[i]? = some (.own b p o0) ∧ s = .own b p o) ∨ ρ[j]? = some s := by
  unfold putMO at h
  split at h
  · rename_i b p o0 e
    rcases get_set h with ⟨rfl, _, rfl⟩ | ⟨_, h⟩
    · exact .inl ⟨rfl, b, p, o0, e, rfl⟩
    · exact .inr h
  · exact .inr h
theorem putMO_len {i : Nat} {o : MO} : (putMO i o ρ).length = ρ.length := by
  unfold putMO
  split
  · exact List.length_set
  · rfl
/-- behind the call, with the lent objects not yet written in -/
structure DJ (K : PySem.W.Frag) (Z : Fm) (F H : Hp) (σ : St) (ρ : En) (L : List Nat) : Prop where
  f0 : Same Z.F0 F
  fh : Same F H
  fnew : ∀ a o, F a = some o → (∃ o', Z.F0 a = some o') ∨ Z.H0 a = none
  keep : ∀ a o, Z.H0 a = some o → a ∈ Z.B ∨ H a = some o
  bor : ∀ b ∈ Z.B, ∃ o, H b = some o
  len : σ.length = ρ.length
  sl : ∀ (i : Nat) s, ρ[i]? = some s → ∃ ov, σ[i]? = some ov ∧ (RepS K F H ov s ∨ (i ∈ L ∧ ∃ b p o, s = .own b p o ∧ ov = some (.ref p)))
  ownB : ∀ (i : Nat) b p o, ρ[i]? = some (.own b p o) → (b = true ∧ p ∈ Z.B) ∨ (b = false ∧ p ∉ Z.B ∧ Z.H0 p = none)
  dis : ∀ (i j : Nat) b c p o q o', ρ[i]? = some (.own b p o) → ρ[j]? = some (.own c q o') → i ≠ j → p ≠ q
  pin : ∀ a u, Z.P a = some u → H a = some u ∧ F a = none ∧ a ∉ Z.B ∧ Z.H0 a = none
  ownP : ∀ (i : Nat) b p o, ρ[i]? = some (.own b p o) → Z.P p = none
  tab : LamX.Tabs Z.T H
  tabB : ∀ t ∈ Z.T, t.1 ∈ Z.B
  tabF : ∀ t ∈ Z.T, F t.1 = none
theorem DJ.put (J : DJ K Z F H σ ρ L) {i : Nat} {L' : List Nat} {b : Bool} {p : Addr} {o0 o : MO} (hL : ∀ j ∈ L, j = i ∨ j ∈ L') (e : ρ[i]? = some (.own b p o0)) (hf : F p = none) (hh : ∃ ho, H p = some ho ∧ RepO K F ho o) : DJ K Z F H σ (putMO i o ρ) L' where
  f0 := J.f0
  fh := J.fh
  fnew := J.fnew
  keep := J.keep
  bor := J.bor
  len := by rw [putMO_len]; exact J.len
  sl := fun j s h => by
    rcases putMO_get h with ⟨rfl, b', p', o', e', rfl⟩ | h'
    · rw [e] at e'
      injection e' with e'
      injection e' with e1 e2 e3
      subst e1
      subst e2
      obtain ⟨ov, e4, r⟩ := J.sl j _ e
      refine ⟨ov, e4, .inl ?_⟩
      have : ov = some (.ref p) := by
        rcases r with r | ⟨_, b2, p2, o2, e5, e6⟩
        · exact r.1
        · injection e5 with e7 e8 e9
          rw [e8]
          exact e6
      exact ⟨this, hf, hh⟩
    · obtain ⟨ov, e4, r⟩ := J.sl j _ h'
      refine ⟨ov, e4, ?_⟩
      rcases r with r | ⟨hj, b2, p2, o2, e5, e6⟩
      · exact .inl r
      · rcases hL j hj with z | z
        · subst z
          -- the slot is i: it was written
          rw [h'] at e
          obtain rfl := Option.some.inj e
          have hlt : j < ρ.length := (List.getElem?_eq_some_iff.mp h').1
          unfold putMO at h
          rw [h'] at h
          have h : (ρ.set j (.own b p o))[j]? = some (.own b p o0) := h
          rw [List.getElem?_set, if_pos rfl, if_pos hlt] at h
          injection h with h
          injection h with h1 h2 h3
          subst h3
          injection e5 with e7 e8 e9
          exact .inl ⟨by rw [e8]; exact e6, hf, hh⟩
        · exact .inr ⟨z, b2, p2, o2, e5, e6⟩
  ownB := fun j c q oo z => by
    rcases putMO_get z with ⟨rfl, b', p', o', e', z⟩ | z
    · injection z with z1 z2 z3
      subst z1
      subst z2
      exact J.ownB j _ _ _ e'
    · exact J.ownB j c q oo z
  dis := fun j k b1 b2 q oo q' oo' z z' n => by
    rcases putMO_get z with ⟨ej, b', p', o', e', y⟩ | x
    · injection y with z1 z2 z3
      subst z2
      rcases putMO_get z' with ⟨y', _⟩ | x'
      · exact absurd (ej.trans y'.symm) n
      · exact J.dis i k _ _ _ _ _ _ e' x' fun w => n (ej.trans w)
    · rcases putMO_get z' with ⟨ek, b'', p'', o'', e'', y'⟩ | x'
      · injection y' with z1 z2 z3
        subst z2
        exact J.dis j i _ _ _ _ _ _ x e'' fun w => n (w.trans ek.symm)
      · exact J.dis j k _ _ _ _ _ _ x x' n
  pin := J.pin
  ownP := fun j c q oo z => by
    rcases putMO_get z with ⟨rfl, b', p', o', e', z⟩ | z
    · injection z with z1 z2 z3
      subst z2
      exact J.ownP j _ _ _ e'
    · exact J.ownP j c q oo z
  tab := J.tab
  tabB := J.tabB
  tabF := J.tabF
theorem DJ.all {ρ : En} : ∀ {as : List Ag} {args : List Sl} {outs : List MO} {ρ : En}, DJ K Z F H σ ρ (lent as) → argsOf ρ as = some args → Outs K F H (owns args) outs → DI K Z F H σ (putOuts as outs ρ)
  | [], args, outs, ρ, J, e, r => by
    have : putOuts [] outs ρ = ρ := by cases outs <;> rfl
    rw [this]
    exact { f0 := J.f0, fh := J.fh, fnew := J.fnew, keep := J.keep, bor := J.bor, len := J.len, ownB := J.ownB, dis := J.dis, pin := J.pin, ownP := J.ownP, tab := J.tab, tabB := J.tabB, tabF := J.tabF,
            sl := fun i s h => by
              obtain ⟨ov, e1, r⟩ := J.sl i s h
              rcases r with r | ⟨z, _⟩
              · exact ⟨ov, e1, r⟩
              · cases z }
  | .d x :: as, args, outs, ρ, J, e, r => by
    have e' : (match argsOf ρ as with | some l => some (Sl.dat x :: l) | none => none) = some _ := e
    split at e'
    · rename_i l el
      obtain rfl := Option.some.inj e'
      exact DJ.all (ρ := ρ) (as := as) J el r
    · cases e'
  | .b i :: as, args, outs, ρ, J, e, r => by
    unfold argsOf at e
    split at e
    · rename_i b p o eo
      split at e
      · cases e
      · rename_i nc
        split at e
        · rename_i l el
          obtain rfl := Option.some.inj e
          have r' : Outs K F H (p :: owns l) outs := r
          cases r' with
          | cons h t =>
            rename_i o1 outs
            have J2 := J.put (i := i) (L' := lent as) (fun j hj => List.mem_cons.mp hj) eo h.1 h.2
            have nm : i ∉ lent as := fun hm => by
              rw [List.contains_iff_mem.mpr hm] at nc
              cases nc
            have ec : argsOf (putMO i o1 ρ) as = some l := by
              rw [← el]
              refine argsOf_congr fun j hj => ?_
              unfold putMO
              rw [eo]
              show (ρ.set i _)[j]? = ρ[j]?
              rw [List.getElem?_set, if_neg fun z => nm (by rw [z]; exact hj)]
            exact DJ.all (ρ := ρ) (as := as) J2 ec t
        · cases e
    · cases e
end

section
variable {X : Cx} {Z : Fm} {W : WX} {pos : Pos} {e : Expr} {es : List Expr} {kws : List Keyword} {ma mb : DA} {ks : List Str}
abbrev mkP : List Value → Args := fun us => ⟨us, []⟩
end

/-- what holds of a promise: it may be weakened at its ends -/
def Mono (s : SpD) : Prop := ∀ args Q Q' U U', (∀ r o, Q r o → Q' r o) → (∀ r o, U r o → U' r o) → s args Q U → s args Q' U'
/-- how an exception of a callee reaches this code's wish -/
abbrev Pass (X : Cx) (W : WX) : Prop := ∀ σ, PassesAt (L2.CX X.prog X.w) X σ (fun cls d H' => W cls d σ H')
/-- a def of the text that keeps a promise: by its name's value -/
structure Fd (T : List (Addr × Str)) (P : Program) (w : World) (K : PySem.W.Frag) (mg : Str → Option Value) (base : Heap) (k : Nat) (f : Addr) (ps : List Str) (fd : FuncData) (s : SpD) : Prop where
  ok : FnG P w K mg base k f fd ps (spOf T K s)
  mono : Mono s
  kp : PySem.W.keepIn K (.ref f) = true
/-- how given values reach the parameters -/
def BindK (K : PySem.W.Frag) (fd : FuncData) (ps : List Str) (un : List Value → Args) : Prop := ∀ (s : Shared) (us : List Value), K.In s.heap → us.length = ps.length → BindsTo s fd (un us) (ps.zip us)
section
end

def lend : Sl → Sl
  | .own _ p o => .own true p o
  | s => s
def entry (n : Nat) (args : List Sl) : En := args.map lend ++ List.replicate (n - args.length) .no
/-- the lent objects as they are at the end -/
def outW : List Sl → En → (List MO → Prop) → Prop
  | .own _ p _ :: as, .own _ q o :: ρ, k => p = q ∧ outW as ρ (fun r => k (o :: r))
  | .dat _ :: as, _ :: ρ, k => outW as ρ k
  | .no :: as, _ :: ρ, k => outW as ρ k
  | .exc _ _ _ _ :: as, _ :: ρ, k => outW as ρ k
  | [], _, k => k []
  | _, _, _ => False
def ends (args : List Sl) (Q : Rv → List MO → Prop) (U : Xn → List MO → Prop) : DEn where
  nx := fun ρ => outW args ρ (fun outs => Q (.d .non) outs)
  rt := fun rv ρ => outW args ρ (fun outs => Q rv outs)
  bk := fun _ => False
  ct := fun _ => False
  ex := fun x ρ => outW args ρ (fun outs => U x outs)
section
variable {P : Program} {w : World} {K : PySem.W.Frag} {mg : Str → Option Value} {base : Heap} {T : List (Addr × Str)}
theorem Fd.le {j k : Nat} {f : Addr} {fd : FuncData} {ps : List Str} {s : SpD} (D : Fd T P w K mg base j f ps fd s) (h : j ≤ k) : Fd T P w K mg base k f ps fd s := ⟨D.ok.mono h, D.mono, D.kp⟩
end
end DL

namespace DL
open PyProof.Rows hiding St
open PySem PySem.Spec L2

section
end
section
end

mutual
def toPy : Dt → PyData
  | .non => .none
  | .bl b => .bool b
  | .int i => .int i
  | .str x => .str ⟨x.toArray⟩
  | .lst xs => .list (toPys xs)
  | .tup xs => .tuple (toPys xs)
  | _ => .none
def toPys : List Dt → List PyData
  | [] => []
  | x :: xs => toPy x :: toPys xs
end
/-- plain data, at most so deep -/
def Sh : Nat → Dt → Prop
  | _, .non => True
  | _, .bl _ => True
  | _, .int _ => True
  | _, .str _ => True
  | n + 1, .tup xs => ∀ x ∈ xs, Sh n x
  | n + 1, .lst xs => ∀ x ∈ xs, Sh n x
  | _, _ => False
theorem Dp.of {K : PySem.W.Frag} {F H : Hp} (s : Same F H) : ∀ (n : Nat) {v : V} {d : Dt}, Rep K F v d → Sh n d → L2.Dp K H v (toPy d) := by
  intro n
  induction n with
  | zero =>
    intro v d r h
    cases r with
    | non => rw [toPy]; exact .non
    | bl b => rw [toPy]; exact .bl b
    | int i => rw [toPy]; exact .int i
    | str l _ => rw [toPy]; exact .str _
    | tup _ _ => exact h.elim
    | lst _ _ => exact h.elim
    | scr _ _ => exact h.elim
    | dct _ _ => exact h.elim
    | ins _ _ => exact h.elim
    | adr _ => exact h.elim
  | succ n ih =>
    have all : ∀ {vs : List V} {ds : List Dt}, Reps K F vs ds → (∀ x ∈ ds, Sh n x) → L2.DpAll K H vs (toPys ds) := by
      intro vs ds
      induction ds generalizing vs with
      | nil => intro r _; cases r; rw [toPys]; exact .nil
      | cons d ds ihd =>
        intro r h
        cases r with
        | cons r1 r2 =>
          rw [toPys]
          exact .cons (ih r1 (h d List.mem_cons_self)) (ihd r2 fun x hx => h x (List.mem_cons_of_mem _ hx))
    intro v d r h
    cases r with
    | non => rw [toPy]; exact .non
    | bl b => rw [toPy]; exact .bl b
    | int i => rw [toPy]; exact .int i
    | str l _ => rw [toPy]; exact .str _
    | tup hh r => rw [toPy]; exact .tup (sameT s hh) (all r h)
    | lst hh r => rw [toPy]; exact .lst (SqL.of (s _ _ hh)) (all r h)
    | scr _ _ => exact h.elim
    | dct _ _ => exact h.elim
    | ins _ _ => exact h.elim
    | adr _ => exact h.elim
section
end
end DL

namespace DL
open PyProof.Rows hiding St
open PySem PySem.Spec L2

section
end
section
end
end DL

namespace DL
open PyProof.Rows hiding St
open PySem PySem.Spec L2

section
end
section
end
end DL

namespace DL
open PyProof.Rows hiding St
open PySem PySem.Spec L2

section
end
section
end
section
end
section
set_option maxHeartbeats 3200000 in
set_option maxHeartbeats 3200000 in
end
section
end
end DL

namespace DL
open PyProof.Rows hiding St
open PySem PySem.Spec L2

section
variable {X : Cx} {Z : Fm} {W : WX} {k : Nat} {f C : Addr} {fd : FuncData} {ps : List Str} {s : SpD} {x m : Str} {p pos apos : Pos} {e o a b c : Expr} {es : List Expr} {ma mb mo : DT} {mO : DO}
/-- what the type of an own class is asked -/
structure OwnTy (K : PySem.W.Frag) (C : Addr) : Prop where
  cl : Cls K C
  ha : PySem.W.findIn K (.ref C) "__class__" = some (some (.builtin "object.__class__"))
  hn : PySem.W.specialIn K (.builtin "object.__class__") "__get__" = some (some (.builtin "getset_descriptor.__get__"))
  tk : PySem.W.takesIn K (.builtin "object.__class__") = some true
  hm : PySem.W.mroIn K C (.type "object") = some true
/-- a built-in class; Cs: own classes that are none of it -/
inductive Bt where
  | non | bl | int | str | tup | lst | dct
def Bt.nm : Bt → String
  | .non => "NoneType"
  | .bl => "bool"
  | .int => "int"
  | .str => "str"
  | .tup => "tuple"
  | .lst => "list"
  | .dct => "dict"
end
section
end
section
end
end DL

namespace DL
open PyProof.Rows hiding St
open PySem PySem.Spec L2

/-- a def: where it stands, its names, its statement -/
structure DefA where
  adr : PySem.W.Frag → Addr
  name : Str
  qual : Str
  st : Stmt
abbrev SeenF : Type := Option (Str × Str × Arguments × FuncBody × Scope × Addr × List (Str × Addr) × Addr)
def seenF (K : PySem.W.Frag) (a : Addr) : SeenF := match K.lookup a with
  | some ⟨_, _, .func f, _⟩ => some (f.name, f.qualname, f.params, f.body, f.scope, f.globals, f.closure, f.builtins)
  | _ => none
def fnGood (K : PySem.W.Frag) (a : Addr) (q : Str) : Bool := PySem.W.keepIn K (.ref a) && match K.lookup a with
  | some ⟨_, _, .func f, _⟩ => PySem.W.codeIn K f.code q && (match f.defaults, f.kwdefaults with
    | .none, _ => true
    | _, _ => false)
  | _ => false
abbrev argsS (st : Stmt) : Arguments := match st with
  | .FunctionDef _ a _ _ _ _ _ _ _ _ => a
  | _ => ⟨[], [], none, [], [], none, []⟩
abbrev bodyS (st : Stmt) : List Stmt := match st with
  | .FunctionDef _ _ b _ _ _ _ _ _ _ => b
  | _ => []
abbrev scopeS (st : Stmt) : Scope := match st with
  | .FunctionDef _ _ _ _ _ _ sc _ _ _ => sc
  | _ => ⟨.function, [], false, false, []⟩
def DefA.told (d : DefA) : SeenF := some (d.name, d.qual, argsS d.st, .stmts (bodyS d.st), scopeS d.st, mainGlobals, [], builtinsNs)
abbrev FnA (K : PySem.W.Frag) (d : DefA) (fd : FuncData) : Prop := FunD K d.name d.qual (argsS d.st) (bodyS d.st) (scopeS d.st) [] [] (d.adr K) fd
theorem DefA.fun {K : PySem.W.Frag} {d : DefA} (e : seenF K (d.adr K) = d.told) (g : fnGood K (d.adr K) d.qual = true) : ∃ fd, FnA K d fd := by
  unfold fnGood at g
  rw [Bool.and_eq_true] at g
  obtain ⟨g1, g2⟩ := g
  unfold seenF at e
  split at g2
  · rename_i oc od f osl lk
    rw [lk] at e
    obtain ⟨n1, n2, n3, n4, n5, n6, n7, n8, n9, n10, n11, n12, n13, n14, n15⟩ := f
    have e' : (some (n1, n2, n3, n4, n5, n6, n7, n15) : SeenF) = some (d.name, d.qual, argsS d.st, .stmts (bodyS d.st), scopeS d.st, mainGlobals, [], builtinsNs) := e
    injection e' with e'
    simp only [Prod.mk.injEq] at e'
    obtain ⟨rfl, q2, rfl, rfl, rfl, rfl, rfl, rfl⟩ := e'
    subst q2
    rw [Bool.and_eq_true] at g2
    obtain ⟨g3, g4⟩ := g2
    cases n8 with
    | none => exact ⟨_, ⟨_, od, .none, n9, n10, n11, n12, n13, n14, osl, rfl, lk, g3, .inl ⟨rfl, rfl⟩, .inl rfl⟩, g1⟩
    | _ => cases g4
  · cases g2
abbrev SeenA : Type := Bool × List SeenF
def obsA (fn : List DefA) (ex : PySem.W.Frag → Bool) (K : PySem.W.Frag) : SeenA := (ex K && fn.all fun d => fnGood K (d.adr K) d.qual, fn.map fun d => seenF K (d.adr K))
def valA (fn : List DefA) : SeenA := (true, fn.map DefA.told)
structure SaysA (fn : List DefA) (ex : PySem.W.Frag → Bool) (K : PySem.W.Frag) : Prop where
  more : ex K = true
  defs : ∀ d ∈ fn, ∃ fd, FnA K d fd
theorem saysA_of {fn : List DefA} {ex : PySem.W.Frag → Bool} {K : PySem.W.Frag} (e : obsA fn ex K = valA fn) : SaysA fn ex K := by
  have e1 : (ex K && fn.all fun d => fnGood K (d.adr K) d.qual) = true := congrArg Prod.fst e
  have e2 : fn.map (fun d => seenF K (d.adr K)) = fn.map DefA.told := congrArg Prod.snd e
  rw [Bool.and_eq_true] at e1
  refine ⟨e1.1, fun d hd => ?_⟩
  exact DefA.fun (List.map_inj_left.mp e2 d hd) (List.all_eq_true.mp e1.2 d hd)
end DL

namespace DL
open PyProof.Rows hiding St
open PySem PySem.Spec L2
section
end
end DL

namespace DL
open PyProof.Rows hiding St
open PySem PySem.Spec L2

section
end
section
end
def oEqB (a b : Option Bool) : Bool := match a, b with
  | some x, some y => x == y
  | none, none => true
  | _, _ => false
def Sp1 {α β : Type} (A : α → List Sl) (C : α → Prop) (P : α → β → Prop) (R : α → β → Rv) (O : α → β → List MO) : SpD := fun args Q _ => ∃ x, args = A x ∧ C x ∧ ∀ y, P x y → Q (R x y) (O x y)
theorem Sp1.mono {α β : Type} {A : α → List Sl} {C : α → Prop} {P : α → β → Prop} {R : α → β → Rv} {O : α → β → List MO} : Mono (Sp1 A C P R O) := fun args Q Q' U U' hQ _ ⟨x, e, c, h⟩ => ⟨x, e, c, fun y p => hQ _ _ (h y p)⟩
theorem Sp1.len {α β : Type} {A : α → List Sl} {C : α → Prop} {P : α → β → Prop} {R : α → β → Rv} {O : α → β → List MO} {n : Nat} (h : ∀ x, (A x).length = n) : ∀ args Q U, Sp1 A C P R O args Q U → args.length = n := fun args Q U ⟨x, e, _⟩ => by rw [e]; exact h x
end DL

namespace DL
open PyProof.Rows hiding St
open PySem PySem.Spec L2

section
end
end DL
namespace DL
open PyProof.Rows hiding St
open PySem PySem.Spec L2
section
end
end DL

namespace DL
open PyProof.Rows hiding St
open PySem PySem.Spec L2
section
end

section
end

abbrev TabN : Type := Str × List Str
abbrev SeenB : Type := SeenA × List (Option (List (Option (Str × Int))))
def obsB (fn : List DefA) (ex : PySem.W.Frag → Bool) (ts : List TabN) (K : PySem.W.Frag) : SeenB := (obsA fn ex K, ts.map fun t => He.dicW K (He.ga K t.1))
def valB (fn : List DefA) (ts : List TabN) (w : World) : SeenB := (valA fn, ts.map fun t => some (He.keysIn w.params t.2))
structure SaysB (fn : List DefA) (ex : PySem.W.Frag → Bool) (ts : List TabN) (w : World) (K : PySem.W.Frag) : Prop where
  a : SaysA fn ex K
  tabs : ∀ t ∈ ts, ∃ es n, KDict K w (He.ga K t.1) es n
theorem saysB_of {fn : List DefA} {ex : PySem.W.Frag → Bool} {ts : List TabN} {w : World} {K : PySem.W.Frag} (e : obsB fn ex ts K = valB fn ts w) : SaysB fn ex ts w K := by
  have e1 : obsA fn ex K = valA fn := congrArg Prod.fst e
  have e2 : ts.map (fun t => He.dicW K (He.ga K t.1)) = ts.map fun t => some (He.keysIn w.params t.2) := congrArg Prod.snd e
  exact ⟨saysA_of e1, fun t ht => He.dicW_ok (List.map_inj_left.mp e2 t ht)⟩
def hookB (n : Nat) (fn : List DefA) (ex : PySem.W.Frag → Bool) (ts : List TabN) : PySem.W.Hook where
  α := SeenB
  obs := fun s => obsB fn ex ts (He.frG s.heap.get? (He.asD s.heap.get? n))
  val := fun w => valB fn ts w
  says := fun w h => ∃ K : PySem.W.Frag, K.In h ∧ SaysB fn ex ts w K
  of := fun _ _ e => ⟨_, He.frG_in, saysB_of e⟩
  keeps := fun _ _ _ ⟨K, hK, c⟩ k => ⟨K, PySem.W.Frag.In.keeps hK k, c⟩
def lookB (n : Nat) (fn : List DefA) (ex : PySem.W.Frag → Bool) (ts : List TabN) (s : PySem.W.SharedT) : SeenB := obsB fn ex ts (He.frG (HandSHeadRun.getT s) (He.asD (HandSHeadRun.getT s) n))
end DL

namespace DL
open PyProof.Rows hiding St
open PySem PySem.Spec L2
section
end
end DL

namespace DL
open PyProof.Rows hiding St
open PySem PySem.Spec L2
section
end
section
end
section
variable {X : Cx} {T : List (Addr × Str)} {k : Nat} {f C : Addr} {fd : FuncData} {ps : List Str} {sp : SpD}
/-- the class's own def of a special name -/
structure Own (K : PySem.W.Frag) (C f : Addr) (name : Str) : Prop where
  at_ : PySem.W.findIn K (.ref C) name = some (some (.ref f))
  fn : PySem.W.isFn K (.ref f) = true
end
section
end
end DL

namespace DL
open PyProof.Rows hiding St
open PySem PySem.Spec L2
section
end
section
end
end DL

namespace DL
open PyProof.Rows hiding St
open PySem PySem.Spec L2
section
end
end DL

namespace DL
open PyProof.Rows hiding St
open PySem PySem.Spec L2
end DL
namespace DL
open PyProof.Rows hiding St
open PySem PySem.Spec L2
section
end
section
end
end DL

namespace DL
open PyProof.Rows hiding St
open PySem PySem.Spec L2
end DL

namespace DL
open PyProof.Rows hiding St
open PySem PySem.Spec L2
section
end
end DL

namespace DL
open PyProof.Rows hiding St
open PySem PySem.Spec L2
section
end
section
variable {X : Cx} {pins : List (Addr × Obj)} {σ : St} {H : Hp} {s : Shared} {A : Around} {E : Value → Shared → Prop} {vs : List Value}
theorem FpOk.of {H H' : Hp} {b : Addr} (f : FpOk X pins H b) (n : H' b = none) : FpOk X pins H' b := ⟨n, f.2⟩
end
section
end
section
end
end DL

namespace DL
open PyProof.Rows hiding St
open PySem PySem.Spec L2
section
end
end DL

namespace DL
open PyProof.Rows hiding St
open PySem PySem.Spec L2
section
end
end DL

namespace DL
open PyProof.Rows hiding St
open PySem PySem.Spec L2
section
end
end DL

namespace DL
open PyProof.Rows hiding St
open PySem PySem.Spec L2
section
end
section
end
end DL

namespace DL
open PyProof.Rows hiding St
open PySem PySem.Spec L2
end DL

namespace DL
open PyProof.Rows hiding St
open PySem PySem.Spec L2
section
end
end DL

namespace DL
open PyProof.Rows hiding St
open PySem PySem.Spec L2
section
end
end DL

namespace DL
open PyProof.Rows hiding St
open PySem PySem.Spec L2
end DL

namespace DL
open PyProof.Rows hiding St
open PySem PySem.Spec L2
section
end
section
end
end DL

namespace DL
open PyProof.Rows hiding St
open PySem PySem.Spec L2
section
end
end DL

namespace DL
open PyProof.Rows hiding St
open PySem PySem.Spec L2
end DL

namespace DL
open PyProof.Rows hiding St
open PySem PySem.Spec L2
end DL

namespace DL
open PyProof.Rows hiding St
open PySem PySem.Spec L2
section
end
end DL

namespace DL
open PyProof.Rows hiding St
open PySem PySem.Spec L2
section
end
end DL

namespace PySem.SeqAt
open AutoSeq1 (wpAny_loadPart')
open MeetsSeq MeetsSeq2 MeetsSeq3 SeqRoads2
section
end
end PySem.SeqAt
namespace DL
open PyProof.Rows hiding St
open PySem PySem.Spec L2
section
end
end DL

namespace PySem.SeqAt
open AutoSeq1 (wpAny_loadPart')
open MeetsSeq MeetsSeq2 MeetsSeq3 SeqRoads2
section
end
end PySem.SeqAt
namespace DL
open PyProof.Rows hiding St
open PySem PySem.Spec L2
section
end
/-- C's own __eq__ is at f, its != is object's; Cs: the own classes that its objects are compared with -/
structure OwnEq (K : PySem.W.Frag) (C f : Addr) (Cs : List Addr) : Prop where
  eq : Own K C f "__eq__"
  ne : PySem.W.findIn K (.ref C) "__ne__" = some (some (.builtin "object.__ne__"))
  ob : PySem.W.mroIn K C (.type "object") = some true
  no : ∀ t : Bt, PySem.W.mroIn K C (.type t.nm) = some false
  ty : ∀ C' ∈ Cs, PySem.W.notFirst K C (.ref C') = true ∧ OwnTy K C'
section
end

/-- what of each own class is at hand -/
def EqFn (X : Cx) (T : List (Addr × Str)) (Cs : List Addr) (p : Addr × SpD) : Prop := Mono p.2 ∧ ∃ k f fd ps, Room (k + 1) X.A ∧ OwnEq X.K p.1 f Cs ∧ Fd T X.prog X.w X.K X.mg X.base k f ps fd p.2 ∧ BindK X.K fd ps mkP
inductive EqFns (X : Cx) (T : List (Addr × Str)) (Cs : List Addr) : List (Addr × SpD) → Prop
  | nil : EqFns X T Cs []
  | cons {p : Addr × SpD} {L : List (Addr × SpD)} (h : EqFn X T Cs p) (t : EqFns X T Cs L) : EqFns X T Cs (p :: L)
theorem EqFns.all {X : Cx} {T : List (Addr × Str)} {Cs : List Addr} {L : List (Addr × SpD)} (h : EqFns X T Cs L) : ∀ p ∈ L, EqFn X T Cs p := by
  induction h with
  | nil => exact fun _ h => nomatch h
  | cons h t ih => exact fun p hp => (List.mem_cons.mp hp).elim (fun e => e ▸ h) (ih p)
section
end
end DL

namespace DL
open PyProof.Rows hiding St
open PySem PySem.Spec L2
section
end
end DL

namespace DL
open PyProof.Rows hiding St
open PySem PySem.Spec L2
section
end
section
end
end DL

namespace DL
open PyProof.Rows hiding St
open PySem PySem.Spec L2
section
end
def xcB (K : PySem.W.Frag) (C : Addr) : Bool := xfB K C && (He.eqO (PySem.W.findIn K (.ref C) "__class__") (some (some (.builtin "object.__class__"))) && (He.eqO (PySem.W.specialIn K (.builtin "object.__class__") "__get__") (some (some (.builtin "getset_descriptor.__get__"))) &&
  (oEqB (PySem.W.takesIn K (.builtin "object.__class__")) (some true) && oEqB (PySem.W.mroIn K C (.type "object")) (some true))))
section
end
end DL

namespace DL
open PyProof.Rows hiding St
open PySem PySem.Spec L2
structure FnX (P : Program) (w : World) (K : PySem.W.Frag) (mg : Str → Option Value) (base : Heap) (k : Nat) (f : Addr) (fd : FuncData) (ps : List Str) (sp : Addr × Obj → Sp) : Prop where
  len : ∀ q vs H Q E, sp q vs H Q E → vs.length = ps.length
  run : ∀ (q : Addr × Obj) (A : Around) (outer : List Env) (s : Shared) (H : Hp) (args : Args) (us : List Value) (vs : List V) (Q : VK) (E : XK), L2H.RoomH k A → A.guards = some [] → L2H.PinOk outer H s q → Env0 P w K mg base A outer s H → BindsTo s fd args (ps.zip us) → Vals vs us →
    sp q vs H Q E → codeAny (model P w) A (.call (.ref f) args) (CR (L2.CX P w) outer P w H s Q E) s
theorem FnX.up {P : Program} {w : World} {K : PySem.W.Frag} {mg : Str → Option Value} {base : Heap} {j k : Nat} {f : Addr} {fd : FuncData} {ps : List Str} {sp : Addr × Obj → Sp} (F : FnX P w K mg base j f fd ps sp) (h : j ≤ k) : FnX P w K mg base k f fd ps sp :=
  ⟨F.len, fun q A outer s H args us vs Q E hr => F.run q A outer s H args us vs Q E (hr.mono h)⟩
section
end
section
end
structure FdX (T : List (Addr × Str)) (P : Program) (w : World) (K : PySem.W.Frag) (mg : Str → Option Value) (base : Heap) (k : Nat) (f : Addr) (ps : List Str) (fd : FuncData) (s : Addr × Obj → SpD) : Prop where
  ok : FnX P w K mg base k f fd ps (fun q => spOf T K (s q))
  mono : ∀ q, Mono (s q)
  kp : PySem.W.keepIn K (.ref f) = true
section
variable {P : Program} {w : World} {K : PySem.W.Frag} {mg : Str → Option Value} {base : Heap} {T : List (Addr × Str)}
theorem FdX.le {j k : Nat} {f : Addr} {fd : FuncData} {ps : List Str} {s : Addr × Obj → SpD} (D : FdX T P w K mg base j f ps fd s) (h : j ≤ k) : FdX T P w K mg base k f ps fd s := ⟨D.ok.up h, D.mono, D.kp⟩
end
section
end
end DL

namespace DL
open PyProof.Rows hiding St
open PySem PySem.Spec L2
section
end
section
end
section
end
end DL

namespace DL
open PyProof.Rows hiding St
open PySem PySem.Spec L2
inductive Bs where
  | ve | le | ae
def Bs.nm : Bs → String
  | .ve => "ValueError"
  | .le => "LookupError"
  | .ae => "ArithmeticError"
def Bs.new : Bs → String
  | .ve => "ValueError.__new__"
  | .le => "LookupError.__new__"
  | .ae => "ArithmeticError.__new__"
def Bs.mro (b : Bs) : List Value := [.type b.nm, .type "Exception", .type "BaseException", .type "object"]
def oexB (K : PySem.W.Frag) (C : Addr) (b : Bs) : Bool := PySem.W.excInitIn K C b.mro b.new && (PySem.W.excOver K C b.mro && (He.eqO (PySem.W.findIn K (.ref C) "__setattr__") (some (some (.builtin "object.__setattr__"))) && (PySem.W.hasDictIn K C &&
  (oEqB (PySem.W.subIn K (.ref C) (.type "BaseException")) (some true) && (decide (PySem.W.typeIn K (.ref C) = some (.type "type")) && PySem.W.keepIn K (.ref C))))))
section
end
section
end
def xcmB (K : PySem.W.Frag) (C : Addr) (b : Bs) (g : Addr) (f : Str) : Bool := oexB K C b && (He.eqO (PySem.W.findIn K (.ref C) "__init__") (some (some (.ref g))) && (decide (PySem.W.typeIn K (.ref g) = some (.type "function")) && He.eqO (PySem.W.findIn K (.ref C) f) (some none)))
section
end
section
end
end DL

namespace DL
open PyProof.Rows hiding St
open PySem PySem.Spec L2
section
end
/-- a slot that holds a function -/
abbrev fkO : Obj := { cls := .ref 0, data := .fields #[] }
abbrev fnSl (f : Addr) : Sl := .exc (f, fkO) 0 none []
/-- its call, where it stands in the first slot -/
def dAct (f : Addr) (sa : SpD) : DT := fun ρ R U => ρ[0]? = some (fnSl f) ∧ sa [] (fun rv _ => match rv.toD with
  | some d => R d ρ
  | none => False) (fun y _ => U y ρ)
/-- a def that gets such a lambda: m is its body's reading, p what it promises, by what the call of the lambda promises -/
structure FdL (T : List (Addr × Str)) (P : Program) (w : World) (K : PySem.W.Frag) (mg : Str → Option Value) (base : Heap) (k : Nat) (g : Addr) (fd : FuncData) (a : Str) (p : SpD → SpD) : Prop where
  ex : ∃ (x qual : Str) (params : Arguments) (body : List Stmt) (scope : Scope) (Ng : List Str) (m : Addr → SpD → DSt), FunD K x qual params body scope [] [] g fd ∧ FnScope Ng [a] scope ∧ Ng[0]? = some a ∧ Vis scope a ∧ (a == ("__debug__" : Str)) = false ∧ (a == ("__classdict__" : Str)) = false ∧
    (∀ (cdv : Value) (A : Around) (outer : List Env) (s : Shared) (H : Hp) (E : XK) (Z : Fm0) (f : Addr) (sa : SpD), Room k (A.deeper (envOfC qual scope s.heap.objs.size g cdv)) → (A.deeper (envOfC qual scope s.heap.objs.size g cdv)).guards = some [] →
      (∀ (W : WX) (pn : List (Addr × Obj)) (xe : Value → Shared → Prop) (p1 p2 : Pos), Takes ((cxOf (L2.CX P w) P w K mg base Ng qual scope g cdv A outer s H E).tr pn xe) W → DE ((cxOf (L2.CX P w) P w K mg base Ng qual scope g cdv A outer s H E).tr pn xe) (Fm.of Z T) W (.Call (.Name a p1) [] [] p2) (dAct f sa)) →
      DSs (cxOf (L2.CX P w) P w K mg base Ng qual scope g cdv A outer s H E) (Fm.of Z T) (fun cls d _ H' => E cls d H') body (m f sa)) ∧
    (∀ f sa Q U, p sa [fnSl f] Q U → m f sa (ends [fnSl f] Q U) (entry Ng.length [fnSl f]))
  bk : BindK K fd [a] mkP
  kp : PySem.W.keepIn K (.ref g) = true
theorem FdL.le {T : List (Addr × Str)} {P : Program} {w : World} {K : PySem.W.Frag} {mg : Str → Option Value} {base : Heap} {j k : Nat} {g : Addr} {fd : FuncData} {a : Str} {p : SpD → SpD} (D : FdL T P w K mg base j g fd a p) (h : j ≤ k) : FdL T P w K mg base k g fd a p := by
  obtain ⟨x, qual, params, body, scope, Ng, m, h1, h2, h3, h4, h5, h6, h7, h8⟩ := D.ex
  exact ⟨⟨x, qual, params, body, scope, Ng, m, h1, h2, h3, h4, h5, h6, fun cdv A outer s H E Z f sa r => h7 cdv A outer s H E Z f sa (r.mono h), h8⟩, D.bk, D.kp⟩
section
end
end DL

namespace DL
open PyProof.Rows hiding St
open PySem PySem.Spec L2
def xiB (K : PySem.W.Frag) (g : List (Addr × Bool)) (u : Value) : Bool := g.all fun z => xcB K z.1 && oEqB (PySem.W.kitOne K (.ref z.1) u) (some z.2)
def xfsB (K : PySem.W.Frag) (Cs : List Addr) (f : Str) : Bool := Cs.all fun C => xfB K C && He.eqO (PySem.W.findIn K (.ref C) f) (some none)
def SpEO {α : Type} (A : α → List Sl) (C : α → Prop) (R : α → Dt ⊕ Xn) (O : α → List MO) : SpD := fun args Q U => ∃ x, args = A x ∧ C x ∧ match R x with
  | .inl d => Q (.d d) (O x)
  | .inr y => U y (O x)
theorem SpEO.mono {α : Type} {A : α → List Sl} {C : α → Prop} {R : α → Dt ⊕ Xn} {O : α → List MO} : Mono (SpEO A C R O) := fun args Q Q' U U' hQ hU ⟨x, e, c, h⟩ => ⟨x, e, c, by
  cases q : R x with
  | inl d => rw [q] at h; exact hQ _ _ h
  | inr y => rw [q] at h; exact hU _ _ h⟩
def SpE {α : Type} (A : α → List Sl) (C : α → Prop) (R : α → Dt ⊕ Xn) : SpD := SpEO A C R fun _ => []
theorem SpE.mono {α : Type} {A : α → List Sl} {C : α → Prop} {R : α → Dt ⊕ Xn} : Mono (SpE A C R) := SpEO.mono
end DL

namespace DL
open PyProof.Rows hiding St
open PySem PySem.Spec L2
section
end
end DL

namespace L2
open PySem PySem.Spec PyProof.Rows
section
end
end L2
namespace DL
open PyProof.Rows hiding St
open PySem PySem.Spec L2
end DL

namespace L2
open PySem PySem.Spec PyProof.Rows
section
end
end L2
namespace DL
open PyProof.Rows hiding St
open PySem PySem.Spec L2
section
end
end DL
namespace DL
open PyProof.Rows hiding St
open PySem PySem.Spec L2
section
end
end DL

namespace DL
open PyProof.Rows hiding St
open PySem PySem.Spec L2
section
end
section
end
end DL

namespace DL
open PyProof.Rows hiding St
open PySem PySem.Spec L2
section
end
section
end
end DL

namespace DL
open PyProof.Rows hiding St
open PySem PySem.Spec L2
section
end
end DL

namespace DL
open PyProof.Rows hiding St
open PySem PySem.Spec L2
section
end
end DL

namespace DL
open PyProof.Rows hiding St
open PySem PySem.Spec L2
end DL

namespace DL
open PyProof.Rows hiding St
open PySem PySem.Spec L2
section
end
section
end
end DL

namespace DL
open PyProof.Rows hiding St
open PySem PySem.Spec L2
section
end
end DL

namespace DL
open PyProof.Rows hiding St
open PySem PySem.Spec L2
section
end
section
set_option maxHeartbeats 1600000 in
end
section
end
section
set_option maxHeartbeats 1600000 in
set_option maxHeartbeats 3200000 in
end
section
end
end DL

namespace DL
open PyProof.Rows hiding St
open PySem PySem.Spec L2
section
end
end DL

namespace DL
open PyProof.Rows hiding St
open PySem PySem.Spec L2
section
end
end DL

namespace DL
open PyProof.Rows hiding St
open PySem PySem.Spec L2
section
end
section
end
end DL

namespace DL
open PyProof.Rows hiding St
open PySem PySem.Spec L2
section
end
end DL

namespace DL
open PyProof.Rows hiding St
open PySem PySem.Spec L2
section
end
end DL

namespace DL
open PyProof.Rows hiding St
open PySem PySem.Spec L2
section
end
/-- its call, where it stands in the first slot and the object in the second one -/
def dActO (f : Addr) (sa : SpD) : DT := fun ρ R U => ρ[0]? = some (fnSl f) ∧ match (ρ[1]? : Option Sl) with
  | some (.own _ q o) => sa [.own true q o] (fun rv outs => match rv.toD with
    | some d => R d (putOuts [.b 1] outs ρ)
    | none => False) (fun y outs => U y (putOuts [.b 1] outs ρ))
  | _ => False
structure FdLO (T : List (Addr × Str)) (P : Program) (w : World) (K : PySem.W.Frag) (mg : Str → Option Value) (base : Heap) (k : Nat) (g : Addr) (fd : FuncData) (a : Str) (p : SpD → SpD) : Prop where
  ex : ∃ (x qual : Str) (params : Arguments) (body : List Stmt) (scope : Scope) (Ng : List Str) (y : Str) (m : Addr → SpD → DSt), FunD K x qual params body scope [] [] g fd ∧ FnScope Ng [a] scope ∧ Ng[0]? = some a ∧ Vis scope a ∧ (a == ("__debug__" : Str)) = false ∧ (a == ("__classdict__" : Str)) = false ∧
    (Ng[1]? = some y ∧ ¬ Vis scope y) ∧
    (∀ (cdv : Value) (A : Around) (outer : List Env) (s : Shared) (H : Hp) (E : XK) (Z : Fm0) (f : Addr) (sa : SpD), Room k (A.deeper (envOfC qual scope s.heap.objs.size g cdv)) → (A.deeper (envOfC qual scope s.heap.objs.size g cdv)).guards = some [] →
      (∀ (W : WX) (pn : List (Addr × Obj)) (xe : Value → Shared → Prop) (p1 p2 : Pos), Takes ((cxOf (L2.CX P w) P w K mg base Ng qual scope g cdv A outer s H E).tr pn xe) W → DE ((cxOf (L2.CX P w) P w K mg base Ng qual scope g cdv A outer s H E).tr pn xe) (Fm.of Z T) W (.Call (.Name a p1) [] [] p2) (dActO f sa)) →
      DSs (cxOf (L2.CX P w) P w K mg base Ng qual scope g cdv A outer s H E) (Fm.of Z T) (fun cls d _ H' => E cls d H') body (m f sa)) ∧
    (∀ f sa q o Q U, p sa [fnSl f, .own true q o] Q U → m f sa (ends [fnSl f, .own true q o] Q U) (entry Ng.length [fnSl f, .own true q o]))
  bk : BindK K fd [a] mkP
  kp : PySem.W.keepIn K (.ref g) = true
theorem FdLO.le {T : List (Addr × Str)} {P : Program} {w : World} {K : PySem.W.Frag} {mg : Str → Option Value} {base : Heap} {j k : Nat} {g : Addr} {fd : FuncData} {a : Str} {p : SpD → SpD} (D : FdLO T P w K mg base j g fd a p) (h : j ≤ k) : FdLO T P w K mg base k g fd a p := by
  obtain ⟨x, qual, params, body, scope, Ng, y, m, h1, h2, h3, h4, h5, h6, hy, h7, h8⟩ := D.ex
  exact ⟨⟨x, qual, params, body, scope, Ng, y, m, h1, h2, h3, h4, h5, h6, hy, fun cdv A outer s H E Z f sa r => h7 cdv A outer s H E Z f sa (r.mono h), h8⟩, D.bk, D.kp⟩
section
end
end DL

namespace DL
open PyProof.Rows hiding St
open PySem PySem.Spec L2
section
end
end DL

namespace DL
open PyProof.Rows hiding St
open PySem PySem.Spec L2
def xcnB (K : PySem.W.Frag) (C : Addr) (b : Bs) : Bool := PySem.W.excIn K C b.mro b.new && (PySem.W.keepIn K (.ref C) && (oEqB (PySem.W.subIn K (.ref C) (.type "BaseException")) (some true) && decide (PySem.W.typeIn K (.ref C) = some (.type "type"))))
section
end
section
end
end DL

namespace L2
open PySem PySem.Spec PyProof.Rows
section
end
end L2
namespace DL
open PyProof.Rows hiding St
open PySem PySem.Spec L2
end DL

namespace DL
open PyProof.Rows hiding St
open PySem PySem.Spec L2
def spOfH (T : List (Addr × Str)) (K : PySem.W.Frag) (s : SpD) : Sp := fun vs H Q E => ∃ q, spOf T K s (vs ++ [.ref q]) H Q E
structure FdH (T : List (Addr × Str)) (P : Program) (w : World) (K : PySem.W.Frag) (mg : Str → Option Value) (base : Heap) (k : Nat) (f : Addr) (ps : List Str) (fd : FuncData) (s : SpD) : Prop where
  ok : FnG P w K mg base k f fd ps (spOfH T K s)
  mono : Mono s
  kp : PySem.W.keepIn K (.ref f) = true
theorem FdH.le {T : List (Addr × Str)} {P : Program} {w : World} {K : PySem.W.Frag} {mg : Str → Option Value} {base : Heap} {j k : Nat} {f : Addr} {fd : FuncData} {ps : List Str} {s : SpD} (D : FdH T P w K mg base j f ps fd s) (h : j ≤ k) : FdH T P w K mg base k f ps fd s := ⟨D.ok.mono h, D.mono, D.kp⟩
section
end
end DL

namespace DL
open PyProof.Rows hiding St
open PySem PySem.Spec L2
section
end
end DL

namespace DL
open PyProof.Rows hiding St
open PySem PySem.Spec L2
section
end
section
end
end DL

namespace HN
open PySem PySem.Spec PyProof.Rows PySem.SeqAt
section
end
end HN
namespace DL
open PyProof.Rows hiding St
open PySem PySem.Spec L2
section
end
end DL

namespace DL
open PyProof.Rows hiding St
open PySem PySem.Spec L2
end DL

namespace DL
open PyProof.Rows hiding St
open PySem PySem.Spec L2
section
end
end DL

namespace DL
open PyProof.Rows hiding St
open PySem PySem.Spec L2
end DL

namespace DL
open PyProof.Rows hiding St
open PySem PySem.Spec L2
section
end
end DL

namespace DL
open PyProof.Rows hiding St
open PySem PySem.Spec L2
end DL

namespace DL
open PyProof.Rows hiding St
open PySem PySem.Spec L2
section
end
end DL

namespace DL
open PyProof.Rows hiding St
open PySem PySem.Spec L2
section
end
section
end
section
end
end DL

namespace DL
open PyProof.Rows hiding St
open PySem PySem.Spec L2
end DL

namespace DL
open PyProof.Rows hiding St
open PySem PySem.Spec L2
end DL

namespace DL
open PyProof.Rows hiding St
open PySem PySem.Spec L2
section
end
section
end
end DL

namespace DL
open PyProof.Rows hiding St
open PySem PySem.Spec L2
end DL

namespace HN
open PySem PySem.Spec PyProof.Rows PySem.SeqAt
section
end
end HN
namespace DL
open PyProof.Rows hiding St
open PySem PySem.Spec L2
section
end
section
end
section
end
end DL

namespace DL
open PyProof.Rows hiding St
open PySem PySem.Spec L2
section
end
end DL

namespace DL
open PyProof.Rows hiding St
open PySem PySem.Spec L2
section
end
end DL

namespace PySem.HandSPX
open PySem PySem.Spec PyProof.Rows
section
end
end PySem.HandSPX

namespace DL
open PyProof.Rows hiding St
open PySem PySem.Spec L2
section
end
section
end
end DL

namespace DL
open PyProof.Rows hiding St
open PySem PySem.Spec L2

abbrev RW : PySem.W.OpenLaw := PySem.Challenge.rw_calmlists_k01_limits_and_errors
def xNames : List String := ["InvalidText", "InvalidOrder", "InvalidThree", "InvalidThings", "InvalidNumber", "InvalidWish", "InvalidCommand", "NotARoll", "NotACrowd", "InvalidOrders", "InvalidPeople", "InvalidRules", "UnknownThing", "UnknownOrder", "TooMany", "TooFew", "NotCalm", "Broken", "NothingToUndo", "WrongValue", "WrongName", "NotPossible"]
def xt (K : PySem.W.Frag) (bs : List Bool) : List (Addr × Bool) := (xNames.zip bs).map fun x => (He.ga K x.1, x.2)
def top (i : Nat) : Stmt := PySem.Challenge.rw_calmlists_k01_limits_and_errors.prog.main.body.getD i (.Pass ⟨0, 0, 0, 0⟩)
def topM (i j : Nat) : Stmt := match top i with
  | .ClassDef _ _ _ b _ _ _ _ _ _ _ => b.getD j (.Pass ⟨0, 0, 0, 0⟩)
  | _ => .Pass ⟨0, 0, 0, 0⟩
abbrev st_L_bases : Stmt := top 32
def a_L_bases : DefA := ⟨fun K => He.ga K "_law_bases", "_law_bases", "_law_bases", st_L_bases⟩
abbrev st_L_dip : Stmt := top 30
def a_L_dip : DefA := ⟨fun K => He.ga K "_law_dip", "_law_dip", "_law_dip", st_L_dip⟩
abbrev st_L_pick : Stmt := top 31
def a_L_pick : DefA := ⟨fun K => He.ga K "_law_pick", "_law_pick", "_law_pick", st_L_pick⟩
abbrev st_L_odd : Stmt := top 33
def a_L_odd : DefA := ⟨fun K => He.ga K "_law_odd", "_law_odd", "_law_odd", st_L_odd⟩
abbrev st_InvalidThree_init : Stmt := topM 4 0
def a_InvalidThree_init : DefA := ⟨fun K => He.ma K (He.ga K "InvalidThree") "__init__", "__init__", "InvalidThree.__init__", st_InvalidThree_init⟩
abbrev st_InvalidOrder_init : Stmt := topM 3 0
def a_InvalidOrder_init : DefA := ⟨fun K => He.ma K (He.ga K "InvalidOrder") "__init__", "__init__", "InvalidOrder.__init__", st_InvalidOrder_init⟩
abbrev st_InvalidText_init : Stmt := topM 2 0
def a_InvalidText_init : DefA := ⟨fun K => He.ma K (He.ga K "InvalidText") "__init__", "__init__", "InvalidText.__init__", st_InvalidText_init⟩
abbrev st_InvalidWish_init : Stmt := topM 7 0
def a_InvalidWish_init : DefA := ⟨fun K => He.ma K (He.ga K "InvalidWish") "__init__", "__init__", "InvalidWish.__init__", st_InvalidWish_init⟩
abbrev st_InvalidNumber_init : Stmt := topM 6 0
def a_InvalidNumber_init : DefA := ⟨fun K => He.ma K (He.ga K "InvalidNumber") "__init__", "__init__", "InvalidNumber.__init__", st_InvalidNumber_init⟩
abbrev st_InvalidThings_init : Stmt := topM 5 0
def a_InvalidThings_init : DefA := ⟨fun K => He.ma K (He.ga K "InvalidThings") "__init__", "__init__", "InvalidThings.__init__", st_InvalidThings_init⟩
abbrev st_NotACrowd_init : Stmt := topM 10 0
def a_NotACrowd_init : DefA := ⟨fun K => He.ma K (He.ga K "NotACrowd") "__init__", "__init__", "NotACrowd.__init__", st_NotACrowd_init⟩
abbrev st_NotARoll_init : Stmt := topM 9 0
def a_NotARoll_init : DefA := ⟨fun K => He.ma K (He.ga K "NotARoll") "__init__", "__init__", "NotARoll.__init__", st_NotARoll_init⟩
abbrev st_InvalidCommand_init : Stmt := topM 8 0
def a_InvalidCommand_init : DefA := ⟨fun K => He.ma K (He.ga K "InvalidCommand") "__init__", "__init__", "InvalidCommand.__init__", st_InvalidCommand_init⟩
abbrev st_InvalidRules_init : Stmt := topM 13 0
def a_InvalidRules_init : DefA := ⟨fun K => He.ma K (He.ga K "InvalidRules") "__init__", "__init__", "InvalidRules.__init__", st_InvalidRules_init⟩
abbrev st_InvalidPeople_init : Stmt := topM 12 0
def a_InvalidPeople_init : DefA := ⟨fun K => He.ma K (He.ga K "InvalidPeople") "__init__", "__init__", "InvalidPeople.__init__", st_InvalidPeople_init⟩
abbrev st_InvalidOrders_init : Stmt := topM 11 0
def a_InvalidOrders_init : DefA := ⟨fun K => He.ma K (He.ga K "InvalidOrders") "__init__", "__init__", "InvalidOrders.__init__", st_InvalidOrders_init⟩
abbrev st_TooMany_init : Stmt := topM 19 0
def a_TooMany_init : DefA := ⟨fun K => He.ma K (He.ga K "TooMany") "__init__", "__init__", "TooMany.__init__", st_TooMany_init⟩
abbrev st_UnknownOrder_init : Stmt := topM 16 0
def a_UnknownOrder_init : DefA := ⟨fun K => He.ma K (He.ga K "UnknownOrder") "__init__", "__init__", "UnknownOrder.__init__", st_UnknownOrder_init⟩
abbrev st_UnknownThing_init : Stmt := topM 15 0
def a_UnknownThing_init : DefA := ⟨fun K => He.ma K (He.ga K "UnknownThing") "__init__", "__init__", "UnknownThing.__init__", st_UnknownThing_init⟩
abbrev st_Broken_init : Stmt := topM 22 0
def a_Broken_init : DefA := ⟨fun K => He.ma K (He.ga K "Broken") "__init__", "__init__", "Broken.__init__", st_Broken_init⟩
abbrev st_NotCalm_init : Stmt := topM 21 0
def a_NotCalm_init : DefA := ⟨fun K => He.ma K (He.ga K "NotCalm") "__init__", "__init__", "NotCalm.__init__", st_NotCalm_init⟩
abbrev st_TooFew_init : Stmt := topM 20 0
def a_TooFew_init : DefA := ⟨fun K => He.ma K (He.ga K "TooFew") "__init__", "__init__", "TooFew.__init__", st_TooFew_init⟩
abbrev st_L_by_word : Stmt := top 36
def a_L_by_word : DefA := ⟨fun K => He.ga K "_law_by_word", "_law_by_word", "_law_by_word", st_L_by_word⟩
abbrev st_L_by_place : Stmt := top 35
def a_L_by_place : DefA := ⟨fun K => He.ga K "_law_by_place", "_law_by_place", "_law_by_place", st_L_by_place⟩
abbrev st_L_sorts : Stmt := top 34
def a_L_sorts : DefA := ⟨fun K => He.ga K "_law_sorts", "_law_sorts", "_law_sorts", st_L_sorts⟩
abbrev st_L_kept : Stmt := top 37
def a_L_kept : DefA := ⟨fun K => He.ga K "_law_kept", "_law_kept", "_law_kept", st_L_kept⟩
abbrev st_L_right : Stmt := top 38
def a_L_right : DefA := ⟨fun K => He.ga K "_law_right", "_law_right", "_law_right", st_L_right⟩
abbrev st_L_jar : Stmt := top 29
def a_L_jar : DefA := ⟨fun K => He.ga K "_law_jar", "_law_jar", "_law_jar", st_L_jar⟩
abbrev st_law : Stmt := top 39
def a_law : DefA := ⟨fun K => He.ga K "law", "law", "law", st_law⟩
def tabs : List TabN := []
def exK (K : PySem.W.Frag) : Bool := He.Fa.ok K (.free "ArithmeticError") && (He.Fa.ok K (.free "LookupError") && (He.Fa.ok K (.free "ValueError") && (He.Fa.ok K (.free "abs") && (He.Fa.ok K (.free "all") && (He.Fa.ok K (.free "int") && (He.Fa.ok K (.free "isinstance") && (He.Fa.ok K (.free "len") && (He.Fa.ok K (.free "max") && (He.Fa.ok K (.free "min") && (He.Fa.ok K (.free "range") && (He.Fa.ok K (.free "repr") && (He.Fa.ok K (.glo "_law_bases") && (He.Fa.ok K (.glo "_law_dip") && (He.Fa.ok K (.glo "_law_pick") && (He.Fa.ok K (.glo "_law_odd") && (He.Fa.ok K (.glo "_law_by_word") && (He.Fa.ok K (.glo "_law_by_place") && (He.Fa.ok K (.glo "_law_sorts") && (He.Fa.ok K (.glo "_law_kept") && (He.Fa.ok K (.glo "_law_right") && (He.Fa.ok K (.glo "_law_jar") && (He.Fa.ok K (.glo "law") && (He.Fa.ok K (.int "LEAST_THINGS" 3) && (He.Fa.ok K (.int "MOST_FULL" 4) && (He.Fa.ok K (.int "MOST_ORDERS" 48) && (He.Fa.ok K (.int "MOST_OUT" 12) && (He.Fa.ok K (.int "MOST_THINGS" 6) && (He.Fa.ok K (.glo "Broken") && (He.Fa.ok K (.glo "InvalidCommand") && (He.Fa.ok K (.glo "InvalidNumber") && (He.Fa.ok K (.glo "InvalidOrder") && (He.Fa.ok K (.glo "InvalidOrders") && (He.Fa.ok K (.glo "InvalidPeople") && (He.Fa.ok K (.glo "InvalidRules") && (He.Fa.ok K (.glo "InvalidText") && (He.Fa.ok K (.glo "InvalidThings") && (He.Fa.ok K (.glo "InvalidThree") && (He.Fa.ok K (.glo "InvalidWish") && (He.Fa.ok K (.glo "NotACrowd") && (He.Fa.ok K (.glo "NotARoll") && (He.Fa.ok K (.glo "NotCalm") && (He.Fa.ok K (.glo "NotPossible") && (He.Fa.ok K (.glo "NothingToUndo") && (He.Fa.ok K (.glo "TooFew") && (He.Fa.ok K (.glo "TooMany") && (He.Fa.ok K (.glo "UnknownOrder") && (He.Fa.ok K (.glo "UnknownThing") && (He.Fa.ok K (.glo "WrongName") && (He.Fa.ok K (.glo "WrongValue") && (xcmB K (He.ga K "InvalidThree") .ve (He.ma K (He.ga K "InvalidThree") "__init__") "given" && (xcmB K (He.ga K "InvalidOrder") .ve (He.ma K (He.ga K "InvalidOrder") "__init__") "given" && (xcmB K (He.ga K "InvalidText") .ve (He.ma K (He.ga K "InvalidText") "__init__") "given" && (xcmB K (He.ga K "InvalidWish") .ve (He.ma K (He.ga K "InvalidWish") "__init__") "given" && (xcmB K (He.ga K "InvalidNumber") .ve (He.ma K (He.ga K "InvalidNumber") "__init__") "given" && (xcmB K (He.ga K "InvalidThings") .ve (He.ma K (He.ga K "InvalidThings") "__init__") "given" && (xcmB K (He.ga K "NotACrowd") .ve (He.ma K (He.ga K "NotACrowd") "__init__") "given" && (xcmB K (He.ga K "NotARoll") .ve (He.ma K (He.ga K "NotARoll") "__init__") "given" && (xcmB K (He.ga K "InvalidCommand") .ve (He.ma K (He.ga K "InvalidCommand") "__init__") "given" && (xcmB K (He.ga K "InvalidRules") .ve (He.ma K (He.ga K "InvalidRules") "__init__") "index" && (xcmB K (He.ga K "InvalidPeople") .ve (He.ma K (He.ga K "InvalidPeople") "__init__") "index" && (xcmB K (He.ga K "InvalidOrders") .ve (He.ma K (He.ga K "InvalidOrders") "__init__") "index" && (xcmB K (He.ga K "TooMany") .ae (He.ma K (He.ga K "TooMany") "__init__") "given" && (xcmB K (He.ga K "UnknownOrder") .le (He.ma K (He.ga K "UnknownOrder") "__init__") "given" && (xcmB K (He.ga K "UnknownThing") .le (He.ma K (He.ga K "UnknownThing") "__init__") "given" && (xcmB K (He.ga K "Broken") .ae (He.ma K (He.ga K "Broken") "__init__") "index" && (xcmB K (He.ga K "NotCalm") .ae (He.ma K (He.ga K "NotCalm") "__init__") "given" && (xcmB K (He.ga K "TooFew") .ae (He.ma K (He.ga K "TooFew") "__init__") "given" && (xcnB K (He.ga K "NotPossible") .ae && (xcnB K (He.ga K "WrongName") .le && (xcnB K (He.ga K "WrongValue") .ve && (xcnB K (He.ga K "NothingToUndo") .ae && (xiB K (xt K [true, true, true, true, true, true, true, true, true, true, true, true, false, false, false, false, false, false, false, true, false, false]) (.ref (He.ga K "WrongValue")) && (xiB K (xt K [true, true, true, true, true, true, true, true, true, true, true, true, false, false, false, false, false, false, false, true, false, false]) (.type "ValueError") && (xiB K (xt K [false, false, false, false, false, false, false, false, false, false, false, false, true, true, false, false, false, false, false, false, true, false]) (.ref (He.ga K "WrongName")) && (xiB K (xt K [false, false, false, false, false, false, false, false, false, false, false, false, true, true, false, false, false, false, false, false, true, false]) (.type "LookupError") && (xiB K (xt K [false, false, false, false, false, false, false, false, false, false, false, false, false, false, true, true, true, true, true, false, false, true]) (.ref (He.ga K "NotPossible")) && (xiB K (xt K [false, false, false, false, false, false, false, false, false, false, false, false, false, false, true, true, true, true, true, false, false, true]) (.type "ArithmeticError") && (xiB K (xt K [false, false, true, false, false, false, false, false, false, false, false, false, false, false, false, false, false, false, false, false, false, false]) (.ref (He.ga K "InvalidThree")) && (xiB K (xt K [false, true, false, false, false, false, false, false, false, false, false, false, false, false, false, false, false, false, false, false, false, false]) (.ref (He.ga K "InvalidOrder")) && (xiB K (xt K [true, false, false, false, false, false, false, false, false, false, false, false, false, false, false, false, false, false, false, false, false, false]) (.ref (He.ga K "InvalidText")) && (xiB K (xt K [false, false, false, false, false, true, false, false, false, false, false, false, false, false, false, false, false, false, false, false, false, false]) (.ref (He.ga K "InvalidWish")) && (xiB K (xt K [false, false, false, false, true, false, false, false, false, false, false, false, false, false, false, false, false, false, false, false, false, false]) (.ref (He.ga K "InvalidNumber")) && (xiB K (xt K [false, false, false, true, false, false, false, false, false, false, false, false, false, false, false, false, false, false, false, false, false, false]) (.ref (He.ga K "InvalidThings")) && (xiB K (xt K [false, false, false, false, false, false, false, false, true, false, false, false, false, false, false, false, false, false, false, false, false, false]) (.ref (He.ga K "NotACrowd")) && (xiB K (xt K [false, false, false, false, false, false, false, true, false, false, false, false, false, false, false, false, false, false, false, false, false, false]) (.ref (He.ga K "NotARoll")) && (xiB K (xt K [false, false, false, false, false, false, true, false, false, false, false, false, false, false, false, false, false, false, false, false, false, false]) (.ref (He.ga K "InvalidCommand")) && (xiB K (xt K [false, false, false, false, false, false, false, false, false, false, false, true, false, false, false, false, false, false, false, false, false, false]) (.ref (He.ga K "InvalidRules")) && (xiB K (xt K [false, false, false, false, false, false, false, false, false, false, true, false, false, false, false, false, false, false, false, false, false, false]) (.ref (He.ga K "InvalidPeople")) && (xiB K (xt K [false, false, false, false, false, false, false, false, false, true, false, false, false, false, false, false, false, false, false, false, false, false]) (.ref (He.ga K "InvalidOrders")) && (xiB K (xt K [false, false, false, false, false, false, false, false, false, false, false, false, false, false, true, false, false, false, false, false, false, false]) (.ref (He.ga K "TooMany")) && (xiB K (xt K [false, false, false, false, false, false, false, false, false, false, false, false, false, true, false, false, false, false, false, false, false, false]) (.ref (He.ga K "UnknownOrder")) && (xiB K (xt K [false, false, false, false, false, false, false, false, false, false, false, false, true, false, false, false, false, false, false, false, false, false]) (.ref (He.ga K "UnknownThing")) && (xiB K (xt K [false, false, false, false, false, false, false, false, false, false, false, false, false, false, false, false, false, true, false, false, false, false]) (.ref (He.ga K "Broken")) && (xiB K (xt K [false, false, false, false, false, false, false, false, false, false, false, false, false, false, false, false, true, false, false, false, false, false]) (.ref (He.ga K "NotCalm")) && (xiB K (xt K [false, false, false, false, false, false, false, false, false, false, false, false, false, false, false, true, false, false, false, false, false, false]) (.ref (He.ga K "TooFew")) && (xiB K (xt K [false, false, false, false, false, false, false, false, false, false, false, false, false, false, false, false, false, false, true, false, false, false]) (.ref (He.ga K "NothingToUndo")) && (xfsB K [He.ga K "InvalidOrders", He.ga K "InvalidPeople", He.ga K "InvalidRules", He.ga K "Broken"] "index" && (xfsB K [He.ga K "InvalidText", He.ga K "InvalidOrder", He.ga K "InvalidThree", He.ga K "InvalidThings", He.ga K "InvalidNumber", He.ga K "InvalidWish", He.ga K "InvalidCommand", He.ga K "NotARoll", He.ga K "NotACrowd", He.ga K "UnknownThing", He.ga K "UnknownOrder", He.ga K "TooMany", He.ga K "TooFew", He.ga K "NotCalm"] "given"))))))))))))))))))))))))))))))))))))))))))))))))))))))))))))))))))))))))))))))))))))))))))))))))))
def fns : List DefA := [a_L_bases, a_L_dip, a_L_pick, a_L_odd, a_InvalidThree_init, a_InvalidOrder_init, a_InvalidText_init, a_InvalidWish_init, a_InvalidNumber_init, a_InvalidThings_init, a_NotACrowd_init, a_NotARoll_init, a_InvalidCommand_init, a_InvalidRules_init, a_InvalidPeople_init, a_InvalidOrders_init, a_TooMany_init, a_UnknownOrder_init, a_UnknownThing_init, a_Broken_init, a_NotCalm_init, a_TooFew_init, a_L_by_word, a_L_by_place, a_L_sorts, a_L_kept, a_L_right, a_L_jar, a_law]
abbrev RR : PySem.W.OpenRow := PySem.W.OpenLaw.row RW
def loose : List Str := ([Str.ofString "__name__", Str.ofString "WrongValue", Str.ofString "InvalidText", Str.ofString "InvalidOrder", Str.ofString "InvalidThree", Str.ofString "InvalidThings", Str.ofString "InvalidNumber", Str.ofString "InvalidWish", Str.ofString "InvalidCommand", Str.ofString "NotARoll", Str.ofString "NotACrowd", Str.ofString "InvalidOrders", Str.ofString "InvalidPeople", Str.ofString "InvalidRules", Str.ofString "WrongName", Str.ofString "UnknownThing", Str.ofString "UnknownOrder", Str.ofString "NotPossible", Str.ofString "NothingToUndo", Str.ofString "TooMany", Str.ofString "TooFew", Str.ofString "NotCalm", Str.ofString "Broken", Str.ofString "LEAST_THINGS", Str.ofString "MOST_THINGS", Str.ofString "MOST_ORDERS", Str.ofString "MOST_OUT", Str.ofString "MOST_FULL", Str.ofString "_law_jar", Str.ofString "_law_dip", Str.ofString "_law_pick", Str.ofString "_law_bases", Str.ofString "_law_odd", Str.ofString "_law_sorts", Str.ofString "_law_by_place"] : List Str) ++ ([Str.ofString "_law_by_word", Str.ofString "_law_kept", Str.ofString "_law_right"] : List Str)
abbrev hkA : PySem.W.Hook := hookB 6 fns exK tabs
theorem runA (w : World) : HandSHeadRun.RunEq RR (PySem.W.view RR.prog [39]) hkA (lookB 6 fns exK tabs) 20000 loose w := by
  intro os
  kernel_rfl
section
end
end DL
open PySem PySem.W PySem.Calls PyProof.Rows
end
set_option Elab.async false
set_option linter.all false
set_option maxRecDepth 100000
set_option maxHeartbeats 4000000

namespace L2
open PySem PySem.Spec PyProof.Rows
/-! ### new tuples, known to have no dict: the kit's rules with the object itself kept -/
abbrev NewT (H : Hp) (Q : VK) (xs : List V) : Prop := ∀ p o, o.dict = none → H p = none → Q (.ref p) (upd H p (.frz o (.tup xs)))
section
variable {X : Cx} {pins : List (Addr × Obj)} {σ : L2.St} {H : Hp} {s : Shared}
theorem ep_tup (I : Inv X pins σ H s) (t' : Nat) {xs : List V} {its : List Value} (r : Vals xs its) (hz : xs.length ≤ sizeLine) {Q : VK} (q : NewT H Q xs) : EP X pins σ Q (.ref s.heap.objs.size) { s with heap := s.heap.push { cls := .type "tuple", data := .seq its.toArray }, toks := t' } :=
  ⟨.ref s.heap.objs.size, _, I.laid (t' := t') (o := .frz { cls := .type "tuple", data := .seq its.toArray } (.tup xs)) (fun b ob q => Heap.get?_push_of_some _ q) (Nat.le_refl _) ⟨Heap.get?_push_size _ rfl, hz, its, r, ⟨_, Heap.get?_push_size _ rfl, rfl, _, rfl⟩⟩, rfl, q _ _ rfl (I.hok.fresh (Nat.le_refl _))⟩
end
section
variable {X : Cx} {e : Expr} {es : List Expr} {te : TE} {t : TA} {pos : Pos}
def tTupN (t : TA) : TE := fun σ H Q => t σ H fun xs H1 => xs.length ≤ sizeLine ∧ NewT H1 Q xs
theorem pe_tupN {x1} (h : PA X es t) : PE X (.Tuple es x1 pos) (tTupN t) := by
  refine ⟨fun pins s σ H Q I hq => ?_⟩
  refine wpAny_Tuple_spliced (thn (h.run pos pins s σ H _ I hq) fun us s1 ⟨xs, H1, I1, r, z, q⟩ => ⟨by rw [← r.length]; exact z, ?_⟩)
  exact ep_tup I1 s1.toks r z q
def rCatTN (K : PySem.W.Frag) : R2 := fun x y H Q => ∃ a b xs ys, x = .ref a ∧ y = .ref b ∧ SqT K H a xs ∧ SqT K H b ys ∧ xs.length + ys.length ≤ sizeLine ∧
  (xs = [] → Q (.ref b) H) ∧ (xs ≠ [] → ys = [] → Q (.ref a) H) ∧ (xs ≠ [] → ys ≠ [] → NewT H Q (xs ++ ys))
theorem op_catN : OpR X (binaryOp .Add) (rCatTN X.K) := by
  intro pins s σ H x y v u Q I rx ry h
  obtain ⟨a, b, xs, ys, rfl, rfl, ha, hb, hz, q0, q1, q2⟩ := h
  cases rx
  cases ry
  obtain ⟨its, r1, p1, _⟩ := I.tuple ha
  obtain ⟨its2, r2, p2, _⟩ := I.tuple hb
  by_cases hx : xs = []
  · subst hx
    cases r1
    exact cat_tup0 p1 p2 ⟨.ref b, H, I, rfl, q0 rfl⟩
  · refine HT.cat_tup p1 p2 (fun z => hx (r1.nil_iff.mp z)) (fun z => ⟨.ref a, H, I, rfl, q1 hx (r2.nil_iff.mp z)⟩) (fun z => ?_) (by rw [← r1.length, ← r2.length]; exact hz)
    have e : its.toArray ++ its2.toArray = (its ++ its2).toArray := by simp
    first
      | exact ep_tup I s.toks (r1.append r2) (by rw [List.length_append]; exact hz) (q2 hx fun w => z (r2.nil_iff.mpr w))
      | (rw [e]; exact ep_tup I s.toks (r1.append r2) (by rw [List.length_append]; exact hz) (q2 hx fun w => z (r2.nil_iff.mpr w)))
def rSlN (K : PySem.W.Frag) : V → Option Int → Option Int → Hp → VK → Prop := fun x lo hi H Q => ∃ a xs, x = .ref a ∧ SqT K H a xs ∧
  (HT.sIx xs.length 0 lo = 0 ∧ HT.sIx xs.length xs.length hi = xs.length → Q (.ref a) H) ∧ (¬ (HT.sIx xs.length 0 lo = 0 ∧ HT.sIx xs.length xs.length hi = xs.length) → NewT H Q (cutV xs lo hi))
theorem sl_tupN : SlR X (rSlN X.K) := by
  intro pins s σ H x v vl vu lo hi sl Q I rx hs pl pu h
  obtain ⟨a, xs, rfl, hx, q1, q2⟩ := h
  cases rx
  obtain ⟨its, r, ht, hz⟩ := I.tuple hx
  have hlen : its.toArray.size = xs.length := by rw [List.size_toArray]; exact r.length.symm
  refine ⟨"tuple", _, PyProof.Rows.slot_tuple_getitem.lookup, ht.typeIs, ?_⟩
  by_cases hw : HT.sIx xs.length 0 lo = 0 ∧ HT.sIx xs.length xs.length hi = xs.length
  · exact getItem_tuple_whole ht hs pl pu (by rw [hlen]; exact hw) ⟨.ref a, H, I, rfl, q1 hw⟩
  · refine HT.getItem_tuple_cut ht hs pl pu (by rw [hlen]; exact hw) ?_ (by rw [hlen]; exact hz)
    rw [hlen]
    exact ep_tup I s.toks ((r.drop (HT.sIx xs.length 0 lo)).take (HT.sIx xs.length xs.length hi - HT.sIx xs.length 0 lo)) (Nat.le_trans (cutV_length xs lo hi) hz) (q2 hw)
def rRepN (K : PySem.W.Frag) : R2 := fun x y H Q => ∃ l k xs, x = .ref l ∧ y = .int k ∧ SqT K H l xs ∧ xs ≠ [] ∧ 2 ≤ k ∧ k ≤ 1000 ∧ xs.length ≤ 1000 ∧ NewT H Q (List.replicate k.toNat xs).flatten
theorem op_repN : OpR X (binaryOp .Mult) (rRepN X.K) := by
  intro pins s σ H x y v u Q I rx ry h
  obtain ⟨l, k, xs, rfl, rfl, hT, hne, h1, h2, hz, q⟩ := h
  cases rx
  obtain ⟨t, rfl⟩ := ry
  obtain ⟨its, r, ⟨⟨cls, dd, data, sl⟩, ho, hc, n, hd⟩, hs⟩ := I.tuple hT
  simp only at hc hd
  subst hc hd
  have hle : its.length = xs.length := r.length.symm
  have hn : its ≠ [] := fun e => hne (by
    rw [e] at hle
    exact List.eq_nil_of_length_eq_zero hle.symm)
  have hi : its.toArray.isEmpty = false := by
    cases its with
    | nil => exact absurd rfl hn
    | cons a b => rfl
  have hsz0 : its.toArray.size = xs.length := by rw [List.size_toArray, hle]
  have hm : ((its.toArray.size : Nat) : Int) * k ≤ 1000000 := by
    rw [hsz0]
    have a1 : ((xs.length : Nat) : Int) * k ≤ 1000 * k := Int.mul_le_mul_of_nonneg_right (by omega) (by omega)
    omega
  have flen : (List.replicate k.toNat its).flatten.length ≤ sizeLine := by
    rw [PyProof.Rows.lm_len_rep_flat, hle, sizeLine_eq]
    have a1 : k.toNat * xs.length ≤ 1000 * 1000 := Nat.mul_le_mul (by omega) hz
    omega
  have c0 : (decide (k < -(2 ^ 63)) || decide (k ≥ 2 ^ 63)) = false := by
    rw [decide_eq_false (by omega), decide_eq_false (by omega)] <;> rfl
  have c1 : (its.toArray.isEmpty || k == 1) = false := by
    rw [hi, Bool.false_or]
    exact beq_eq_false_iff_ne.mpr (by omega)
  have c2 : (decide (k ≤ 0) || its.toArray.isEmpty) = false := by
    rw [hi, Bool.or_false]
    exact decide_eq_false (by omega)
  have c4 : Builtin.Tuple.tupleTooMany (((its.toArray.size : Nat) : Int) * k) = false := by
    unfold Builtin.Tuple.tupleTooMany
    rw [sizeLine_eq]
    exact decide_eq_false (by omega)
  refine wpAny_binaryOp_repeat_ref (T := "tuple") (U := "int") (by decide) ⟨_, ho, rfl⟩ (fun s' => typeIs_int s' k t) noFill_tuple_mul F.fills_int_mul F.slot_int_rmul repeat_tuple F.slot_int_index.lookup
    (call_meets F.slot_int_rmul (typeIs_int s k t) F.entry_int_rmul (F.args_int_rmul_2 _ _) (int_rmul_tuple k t l its.toArray n dd sl)
      ⟨ho, rfl, ⟨_, ho, rfl⟩, call_meets F.slot_tuple_mul ⟨_, ho, rfl⟩ F.entry_tuple_mul (F.args_tuple_mul_2 _ _) (tuple_mulW l its.toArray n dd sl k t c0 c1 c2 (by omega) c4 (by rw [size_rep, List.size_toArray]; exact flen)) ⟨ho, ?_⟩⟩)
  rw [size_rep]
  exact ep_tup I s.toks (r.rep k.toNat) (by rw [PyProof.Rows.lm_len_rep_flat, sizeLine_eq]; have a1 : k.toNat * xs.length ≤ 1000 * 1000 := Nat.mul_le_mul (by omega) hz; omega) q
end
end L2
namespace DL
open PyProof.Rows hiding St
open PySem PySem.Spec L2
/-! ### zip: pairs known to have no dict -/
end DL
namespace DL
open PyProof.Rows hiding St
open PySem PySem.Spec L2

/-! ### data -/
theorem no_bad {K : PySem.W.Frag} {F : Hp} {v : V} (r : Rep K F v (.str badL)) : False := by
  cases r with
  | str _ h =>
    unfold badL at h
    rw [List.length_replicate] at h
    omega
section
variable {K : PySem.W.Frag} {F F' : Hp}
/-! lists of data -/
theorem Reps.get {vs : List V} {ds : List Dt} {i : Nat} {d : Dt} (r : Reps K F vs ds) (e : ds[i]? = some d) : ∃ v, vs[i]? = some v ∧ Rep K F v d := by
  induction ds generalizing vs i with
  | nil => simp at e
  | cons x ds ih =>
    cases r with
    | cons h t =>
      cases i with
      | zero =>
        obtain rfl := Option.some.inj e
        exact ⟨_, rfl, h⟩
      | succ i =>
        obtain ⟨v, h1, h2⟩ := ih t (i := i) (by simpa using e)
        exact ⟨v, by simpa using h1, h2⟩
theorem Reps.app {vs us : List V} {ds es : List Dt} (r : Reps K F vs ds) (s : Reps K F us es) : Reps K F (vs ++ us) (ds ++ es) := by
  induction ds generalizing vs with
  | nil => cases r; exact s
  | cons d ds ih => cases r with | cons h t => exact .cons h (ih t)
theorem Reps.take {vs : List V} {ds : List Dt} (n : Nat) (r : Reps K F vs ds) : Reps K F (vs.take n) (ds.take n) := by
  induction ds generalizing vs n with
  | nil => cases r; rw [List.take_nil, List.take_nil]; exact .nil
  | cons d ds ih =>
    cases r with
    | cons h t =>
      cases n with
      | zero => exact .nil
      | succ n => exact .cons h (ih n t)
theorem Reps.drop {vs : List V} {ds : List Dt} (n : Nat) (r : Reps K F vs ds) : Reps K F (vs.drop n) (ds.drop n) := by
  induction ds generalizing vs n with
  | nil => cases r; rw [List.drop_nil, List.drop_nil]; exact .nil
  | cons d ds ih =>
    cases r with
    | cons h t =>
      cases n with
      | zero => exact .cons h t
      | succ n => exact ih n t
theorem Reps.ints {vs : List V} {ls : List Int} (r : Reps K F vs (ls.map Dt.int)) : vs = ls.map V.int := by
  induction ls generalizing vs with
  | nil => cases r; rfl
  | cons l ls ih =>
    cases r with
    | cons h t =>
      have e := ih t
      cases h
      subst e
      rfl
theorem Reps.bls {vs : List V} {ls : List Bool} (r : Reps K F vs (ls.map Dt.bl)) : vs = ls.map V.bl := by
  induction ls generalizing vs with
  | nil => cases r; rfl
  | cons l ls ih =>
    cases r with
    | cons h t =>
      have e := ih t
      cases h
      subst e
      rfl
theorem Reps.of_ints {ls : List Int} : Reps K F (ls.map V.int) (ls.map Dt.int) := by
  induction ls with
  | nil => exact .nil
  | cons l ls ih => exact .cons (.int l) ih
end

/-! ### a call's frame, the state of a body -/
/-- neither a table nor a code object -/
def NoTab (o : HO) : Prop := (∀ ps, o ≠ .tbl ps) ∧ ∀ c q, o ≠ LamX.CodeO c q
theorem NoTab.rep {K : PySem.W.Frag} {F : Hp} {ho : HO} {o : MO} (r : RepO K F ho o) : NoTab ho := by
  cases r <;> exact ⟨(fun _ z => nomatch z), fun c q z => by unfold LamX.CodeO at z; cases z⟩
theorem tabs_upd {T : List (Addr × Str)} {H : Hp} {p : Addr} {ho ho' : HO} (t : LamX.Tabs T H) (hh : H p = some ho) (n : NoTab ho) : LamX.Tabs T (upd H p ho') := fun x hx => by
  obtain ⟨ps, h1, h2, h3⟩ := t x hx
  have ne : ∀ b u, H b = some u → u ≠ ho → b ≠ p := fun b u e d z => d (by rw [z, hh] at e; exact (Option.some.inj e).symm)
  refine ⟨ps, by rw [upd_ne (ne _ _ h1 fun z => n.1 ps z.symm)]; exact h1, h2, fun pos cv hc => ?_⟩
  obtain ⟨c, e1, e2⟩ := h3 pos cv hc
  exact ⟨c, e1, by rw [upd_ne (ne _ _ e2 fun z => n.2 _ _ z.symm)]; exact e2⟩

theorem same_new {F : Hp} {p : Addr} {o : HO} (h : F p = none) : Same F (upd F p o) := fun b x e => by
  rw [upd_ne (ne_of_none e h)]
  exact e
theorem same_both {F H : Hp} {p : Addr} {o : HO} (s : Same F H) : Same (upd F p o) (upd H p o) := fun b x e => by
  by_cases q : b = p
  · subst q
    rw [upd_same] at e ⊢
    exact e
  · rw [upd_ne q] at e ⊢
    exact s b x e

section
variable {K : PySem.W.Frag} {Z : Fm} {F H : Hp} {σ : St} {ρ : En} {p : Addr} {ho ho' : HO} {o o' : MO}
theorem DI.freeF (I : DI K Z F H σ ρ) (h : H p = none) : F p = none := I.fh.free h
theorem DI.freeB (I : DI K Z F H σ ρ) (h : H p = none) : p ∉ Z.B := fun z => by
  obtain ⟨_, e⟩ := I.bor p z
  rw [h] at e
  cases e
theorem DI.free0 (I : DI K Z F H σ ρ) (h : H p = none) : Z.H0 p = none := by
  cases q : Z.H0 p with
  | none => rfl
  | some u =>
    rcases I.keep p u q with z | z
    · exact absurd z (I.freeB h)
    · rw [h] at z
      cases z
theorem DI.freeP (I : DI K Z F H σ ρ) (h : H p = none) : Z.P p = none := by
  cases q : Z.P p with
  | none => rfl
  | some u =>
    rw [(I.pin p u q).1] at h
    cases h
/-- a new frozen object -/
theorem DI.freshF (I : DI K Z F H σ ρ) (h : H p = none) : DI K Z (upd F p ho) (upd H p ho) σ ρ where
  f0 := I.f0.trans (same_new (I.freeF h))
  fh := same_both I.fh
  fnew := fun a u e => by
    by_cases q : a = p
    · subst q
      exact .inr (I.free0 h)
    · rw [upd_ne q] at e
      exact I.fnew a u e
  keep := fun a u e => by
    rcases I.keep a u e with z | z
    · exact .inl z
    · exact .inr (by rw [upd_ne (ne_of_none z h)]; exact z)
  bor := fun b hb => by
    obtain ⟨u, e⟩ := I.bor b hb
    exact ⟨u, by rw [upd_ne (ne_of_none e h)]; exact e⟩
  len := I.len
  sl := fun i s e => by
    obtain ⟨ov, e1, r⟩ := I.sl i s e
    refine ⟨ov, e1, r.up (same_new (I.freeF h)) fun q hq _ fq hh => ?_⟩
    have ne : q ≠ p := ne_of_none hh h
    exact ⟨by rw [upd_ne ne]; exact fq, by rw [upd_ne ne]; exact hh⟩
  ownB := I.ownB
  dis := I.dis
  pin := fun a u e => by
    obtain ⟨h1, h2, h3, h4⟩ := I.pin a u e
    have ne : a ≠ p := ne_of_none h1 h
    exact ⟨by rw [upd_ne ne]; exact h1, by rw [upd_ne ne]; exact h2, h3, h4⟩
  ownP := I.ownP
  tab := I.tab.ext fun b o e => by rw [upd_ne (ne_of_none e h)]; exact e
  tabB := I.tabB
  tabF := fun t ht => by
    obtain ⟨ps, h1, _⟩ := I.tab t ht
    rw [upd_ne (ne_of_none h1 h)]
    exact I.tabF t ht
/-- a new object of one's own -/
theorem DI.freshO (I : DI K Z F H σ ρ) (h : H p = none) : DI K Z F (upd H p ho) σ ρ where
  f0 := I.f0
  fh := I.fh.trans (same_new h)
  fnew := I.fnew
  keep := fun a u e => by
    rcases I.keep a u e with z | z
    · exact .inl z
    · exact .inr (by rw [upd_ne (ne_of_none z h)]; exact z)
  bor := fun b hb => by
    obtain ⟨u, e⟩ := I.bor b hb
    exact ⟨u, by rw [upd_ne (ne_of_none e h)]; exact e⟩
  len := I.len
  sl := fun i s e => by
    obtain ⟨ov, e1, r⟩ := I.sl i s e
    refine ⟨ov, e1, r.up (Same.refl F) fun q hq _ fq hh => ?_⟩
    have ne : q ≠ p := ne_of_none hh h
    exact ⟨fq, by rw [upd_ne ne]; exact hh⟩
  ownB := I.ownB
  dis := I.dis
  pin := fun a u e => by
    obtain ⟨h1, h2, h3, h4⟩ := I.pin a u e
    have ne : a ≠ p := ne_of_none h1 h
    exact ⟨by rw [upd_ne ne]; exact h1, h2, h3, h4⟩
  ownP := I.ownP
  tab := I.tab.ext fun b o e => by rw [upd_ne (ne_of_none e h)]; exact e
  tabB := I.tabB
  tabF := I.tabF
theorem DI.newAt (I : DI K Z F H σ ρ) (h : H p = none) (r : RepO K F ho o) : NewAt K Z F (upd H p ho) ρ p o where
  fr := I.freeF h
  at_ := ⟨ho, upd_same, r⟩
  h0 := I.free0 h
  nb := I.freeB h
  np := I.freeP h
  ne := fun i b q o' e => by
    obtain ⟨ov, _, _, _, ho, hh, _⟩ := I.sl i _ e
    exact ne_of_none hh h
/-- what is one's own is frozen -/
theorem DI.freeze (I : DI K Z F H σ ρ) (N : NewAt K Z F H ρ p o) {d : Dt} (hd : o.toD = some d) : ∃ ho, DI K Z (upd F p ho) H σ ρ ∧ Same F (upd F p ho) ∧ Rep K (upd F p ho) (.ref p) d := by
  obtain ⟨ho, hh, r⟩ := N.at_
  have sf : Same F (upd F p ho) := same_new N.fr
  refine ⟨ho, ?_, sf, ?_⟩
  · exact { f0 := I.f0.trans sf, fh := fun b x e => by
              by_cases q : b = p
              · subst q
                rw [upd_same] at e
                rw [hh]
                exact e
              · rw [upd_ne q] at e
                exact I.fh b x e
            fnew := fun a u e => by
              by_cases q : a = p
              · subst q
                exact .inr N.h0
              · rw [upd_ne q] at e
                exact I.fnew a u e
            keep := I.keep, bor := I.bor, len := I.len
            sl := fun i s e => by
              obtain ⟨ov, e1, rs⟩ := I.sl i s e
              refine ⟨ov, e1, rs.up sf fun q hq ⟨b, oo, eo⟩ fq hh' => ?_⟩
              subst eo
              exact ⟨by rw [upd_ne (N.ne i b q oo e)]; exact fq, hh'⟩
            ownB := I.ownB, dis := I.dis
            pin := fun a u e => by
              obtain ⟨h1, h2, h3, h4⟩ := I.pin a u e
              have ne : a ≠ p := fun z => by
                rw [z, N.np] at e
                cases e
              exact ⟨h1, by rw [upd_ne ne]; exact h2, h3, h4⟩
            ownP := I.ownP, tab := I.tab, tabB := I.tabB
            tabF := fun t ht => by
              rw [upd_ne (fun z : t.1 = p => N.nb (by rw [← z]; exact I.tabB t ht))]
              exact I.tabF t ht }
  · cases r with
    | lst r =>
      obtain rfl := Option.some.inj hd
      exact .lst upd_same (r.mono sf)
    | dK r =>
      obtain rfl := Option.some.inj hd
      exact .dct upd_same (r.mono sf)
    | dT r => cases hd
    | ins r =>
      obtain rfl := Option.some.inj hd
      exact .ins upd_same (r.mono sf)
    | lk r => cases hd
/-- an object of one's own is written -/
theorem DI.write (I : DI K Z F H σ ρ) {i : Nat} {b : Bool} (e : ρ[i]? = some (.own b p o)) (r : RepO K F ho' o') : DI K Z F (upd H p ho') σ (ρ.set i (.own b p o')) := by
  obtain ⟨ov, e1, ev, fp, ho, hh, r0⟩ := I.sl i _ e
  have hi : i < ρ.length := (List.getElem?_eq_some_iff.mp e).1
  refine { f0 := I.f0, fh := fun b x q => ?_, fnew := I.fnew, keep := fun a u q => ?_, bor := fun b hb => ?_, len := by rw [List.length_set]; exact I.len, sl := fun j s q => ?_, ownB := fun j c q oo z => ?_, dis := fun j k b1 b2 q oo q' oo' z z' n => ?_, pin := fun a u q => ?_, ownP := fun j c q oo z => ?_, tab := tabs_upd I.tab hh (NoTab.rep r0), tabB := I.tabB, tabF := I.tabF }
  · have ne : b ≠ p := fun z => by
      rw [z, fp] at q
      cases q
    rw [upd_ne ne]
    exact I.fh b x q
  · by_cases z : a = p
    · subst z
      rcases I.ownB i _ a o e with y | y
      · exact .inl y.2
      · rw [y.2.2] at q
        cases q
    · rcases I.keep a u q with y | y
      · exact .inl y
      · exact .inr (by rw [upd_ne z]; exact y)
  · by_cases z : b = p
    · subst z
      exact ⟨ho', upd_same⟩
    · rw [upd_ne z]
      exact I.bor b hb
  · rcases get_set q with ⟨rfl, _, rfl⟩ | ⟨ne, q⟩
    · exact ⟨ov, e1, ev, fp, ho', upd_same, r⟩
    · obtain ⟨ow, e2, rs⟩ := I.sl j s q
      refine ⟨ow, e2, rs.up (Same.refl F) fun q' hq ⟨c, oo, eo⟩ fq hh' => ⟨fq, ?_⟩⟩
      subst eo
      rw [upd_ne (I.dis j i _ _ _ _ _ _ q e fun z => ne z.symm)]
      exact hh'
  · rcases get_set z with ⟨rfl, _, y⟩ | ⟨_, z⟩
    · injection y with y0 y1 y2
      subst y1
      subst y0
      exact I.ownB i c q o e
    · exact I.ownB j c q oo z
  · rcases get_set z with ⟨ej, _, y⟩ | ⟨nj, x⟩
    · injection y with y0 y1 y2
      subst y1
      rcases get_set z' with ⟨y, _, _⟩ | ⟨nk, x'⟩
      · exact absurd (ej.symm.trans y) n
      · exact I.dis i k _ _ _ _ _ _ e x' nk
    · rcases get_set z' with ⟨ek, _, y⟩ | ⟨nk, x'⟩
      · injection y with y0 y1 y2
        subst y1
        exact I.dis j i _ _ _ _ _ _ x e fun z => nj z.symm
      · exact I.dis j k _ _ _ _ _ _ x x' n
  · obtain ⟨h1, h2, h3, h4⟩ := I.pin a u q
    have ne : a ≠ p := fun z => by
      rw [z, I.ownP i _ p o e] at q
      cases q
    exact ⟨by rw [upd_ne ne]; exact h1, h2, h3, h4⟩
  · rcases get_set z with ⟨ej, _, y⟩ | ⟨_, z⟩
    · injection y with y0 y1 y2
      subst y1
      exact I.ownP i _ _ o e
    · exact I.ownP j c q oo z
theorem DI.setDat (I : DI K Z F H σ ρ) (i : Nat) {v : V} {d : Dt} (r : Rep K F v d) : DI K Z F H (σ.set i (some v)) (ρ.set i (.dat d)) where
  f0 := I.f0
  fh := I.fh
  fnew := I.fnew
  keep := I.keep
  bor := I.bor
  len := by rw [List.length_set, List.length_set]; exact I.len
  sl := fun j s e => by
    rcases get_set e with ⟨rfl, hl, rfl⟩ | ⟨ne, e⟩
    · exact ⟨some v, by rw [List.getElem?_set, if_pos rfl, if_pos (by rw [I.len]; exact hl)], v, rfl, r⟩
    · obtain ⟨ov, e1, rs⟩ := I.sl j s e
      exact ⟨ov, by rw [List.getElem?_set, if_neg ne]; exact e1, rs⟩
  ownB := fun j c q oo z => by
    rcases get_set z with ⟨_, _, y⟩ | ⟨_, z⟩
    · cases y
    · exact I.ownB j c q oo z
  dis := fun j k b1 b2 q oo q' oo' z z' n => by
    rcases get_set z with ⟨_, _, y⟩ | ⟨_, x⟩
    · cases y
    · rcases get_set z' with ⟨_, _, y⟩ | ⟨_, x'⟩
      · cases y
      · exact I.dis j k _ _ _ _ _ _ x x' n
  pin := I.pin
  ownP := fun j c q oo z => by
    rcases get_set z with ⟨_, _, y⟩ | ⟨_, z⟩
    · cases y
    · exact I.ownP j c q oo z
  tab := I.tab
  tabB := I.tabB
  tabF := I.tabF
theorem DI.setOwn (I : DI K Z F H σ ρ) (i : Nat) (N : NewAt K Z F H ρ p o) : DI K Z F H (σ.set i (some (.ref p))) (ρ.set i (.own false p o)) where
  f0 := I.f0
  fh := I.fh
  fnew := I.fnew
  keep := I.keep
  bor := I.bor
  len := by rw [List.length_set, List.length_set]; exact I.len
  sl := fun j s e => by
    rcases get_set e with ⟨rfl, hl, rfl⟩ | ⟨ne, e⟩
    · exact ⟨some (.ref p), by rw [List.getElem?_set, if_pos rfl, if_pos (by rw [I.len]; exact hl)], rfl, N.fr, N.at_⟩
    · obtain ⟨ov, e1, rs⟩ := I.sl j s e
      exact ⟨ov, by rw [List.getElem?_set, if_neg ne]; exact e1, rs⟩
  ownB := fun j c q oo z => by
    rcases get_set z with ⟨_, _, y⟩ | ⟨_, z⟩
    · injection y with y0 y1 y2
      subst y1
      exact .inr ⟨y0, N.nb, N.h0⟩
    · exact I.ownB j c q oo z
  dis := fun j k b1 b2 q oo q' oo' z z' n => by
    rcases get_set z with ⟨ej, _, y⟩ | ⟨nj, x⟩
    · injection y with y0 y1 y2
      subst y1
      rcases get_set z' with ⟨y, _, _⟩ | ⟨_, x'⟩
      · exact absurd (ej.symm.trans y) n
      · exact (N.ne k _ _ _ x').symm
    · rcases get_set z' with ⟨ek, _, y⟩ | ⟨_, x'⟩
      · injection y with y0 y1 y2
        subst y1
        exact N.ne j _ _ _ x
      · exact I.dis j k _ _ _ _ _ _ x x' n
  pin := I.pin
  ownP := fun j c q oo z => by
    rcases get_set z with ⟨_, _, y⟩ | ⟨_, z⟩
    · injection y with y0 y1 y2
      subst y1
      exact N.np
    · exact I.ownP j c q oo z
  tab := I.tab
  tabB := I.tabB
  tabF := I.tabF
theorem DI.setNo (I : DI K Z F H σ ρ) (i : Nat) {ov : Option V} : DI K Z F H (σ.set i ov) (ρ.set i .no) where
  f0 := I.f0
  fh := I.fh
  fnew := I.fnew
  keep := I.keep
  bor := I.bor
  len := by rw [List.length_set, List.length_set]; exact I.len
  sl := fun j s e => by
    rcases get_set e with ⟨rfl, hl, rfl⟩ | ⟨ne, e⟩
    · exact ⟨ov, by rw [List.getElem?_set, if_pos rfl, if_pos (by rw [I.len]; exact hl)], trivial⟩
    · obtain ⟨ow, e1, rs⟩ := I.sl j s e
      exact ⟨ow, by rw [List.getElem?_set, if_neg ne]; exact e1, rs⟩
  ownB := fun j c q oo z => by
    rcases get_set z with ⟨_, _, y⟩ | ⟨_, z⟩
    · cases y
    · exact I.ownB j c q oo z
  dis := fun j k b1 b2 q oo q' oo' z z' n => by
    rcases get_set z with ⟨_, _, y⟩ | ⟨_, x⟩
    · cases y
    · rcases get_set z' with ⟨_, _, y⟩ | ⟨_, x'⟩
      · cases y
      · exact I.dis j k _ _ _ _ _ _ x x' n
  pin := I.pin
  ownP := fun j c q oo z => by
    rcases get_set z with ⟨_, _, y⟩ | ⟨_, z⟩
    · cases y
    · exact I.ownP j c q oo z
  tab := I.tab
  tabB := I.tabB
  tabF := I.tabF
/-- a slot is forgotten, the values stay -/
theorem DI.forget (I : DI K Z F H σ ρ) (i : Nat) : DI K Z F H σ (ρ.set i .no) := by
  cases q : σ[i]? with
  | none =>
    have hi : ρ.length ≤ i := by rw [← I.len]; exact List.getElem?_eq_none_iff.mp q
    rw [List.set_eq_of_length_le hi]
    exact I
  | some ov =>
    have es : σ.set i ov = σ := by
      apply List.ext_getElem?
      intro j
      rw [List.getElem?_set]
      by_cases z : i = j
      · subst z
        rw [if_pos rfl, if_pos (List.getElem?_eq_some_iff.mp q).1, q]
      · rw [if_neg z]
    have := I.setNo i (ov := ov)
    rw [es] at this
    exact this
/-- an own slot taken out of the state -/
theorem DI.takeOut (I : DI K Z F H σ ρ) {i : Nat} (e : ρ[i]? = some (.own false p o)) : DI K Z F H σ (ρ.set i .no) ∧ NewAt K Z F H (ρ.set i .no) p o := by
  obtain ⟨ov, e1, ev, fp, ho, hh, r⟩ := I.sl i _ e
  have hb : p ∉ Z.B ∧ Z.H0 p = none := by
    rcases I.ownB i _ p o e with y | y
    · cases y.1
    · exact y.2
  refine ⟨I.forget i, fp, ⟨ho, hh, r⟩, hb.2, hb.1, I.ownP i _ p o e, fun j c q o' z => ?_⟩
  rcases get_set z with ⟨_, _, y⟩ | ⟨ne, z⟩
  · cases y
  · exact I.dis j i _ _ _ _ _ _ z e fun y => ne y.symm
theorem DI.slot (I : DI K Z F H σ ρ) {i : Nat} {d : Dt} (e : ρ[i]? = some (.dat d)) : ∃ v, σ[i]? = some (some v) ∧ Rep K F v d := by
  obtain ⟨ov, e1, v, rfl, r⟩ := I.sl i _ e
  exact ⟨v, e1, r⟩
theorem DI.slotO (I : DI K Z F H σ ρ) {i : Nat} {b : Bool} (e : ρ[i]? = some (.own b p o)) : σ[i]? = some (some (.ref p)) ∧ F p = none ∧ ∃ ho, H p = some ho ∧ RepO K F ho o := by
  obtain ⟨ov, e1, rfl, r⟩ := I.sl i _ e
  exact ⟨e1, r⟩
/-- a pin is taken out: what it held is a new object again -/
theorem DI.unpin {P' : Hp} (I : DI K { Z with P := P' } F H σ ρ) (hs : ∀ a u, Z.P a = some u → P' a = some u) : DI K Z F H σ ρ where
  f0 := I.f0
  fh := I.fh
  fnew := I.fnew
  keep := I.keep
  bor := I.bor
  len := I.len
  sl := I.sl
  ownB := I.ownB
  dis := I.dis
  pin := fun a u e => I.pin a u (hs a u e)
  ownP := fun i b q o e => by
    cases h : Z.P q with
    | none => rfl
    | some u =>
      have this : P' q = none := I.ownP i b q o e
      rw [hs q u h] at this
      cases this
  tab := I.tab
  tabB := I.tabB
  tabF := I.tabF
/-- a new object is pinned -/
theorem DI.pinned (I : DI K Z F H σ ρ) (N : NewAt K Z F H ρ p o) (hh : H p = some ho) : DI K { Z with P := upd Z.P p ho } F H σ ρ where
  f0 := I.f0
  fh := I.fh
  fnew := I.fnew
  keep := I.keep
  bor := I.bor
  len := I.len
  sl := I.sl
  ownB := I.ownB
  dis := I.dis
  pin := fun a u e => by
    by_cases q : a = p
    · subst q
      have e' : upd Z.P a ho a = some u := e
      rw [upd_same] at e'
      rw [← e']
      exact ⟨hh, N.fr, N.nb, N.h0⟩
    · have e' : upd Z.P p ho a = some u := e
      rw [upd_ne q] at e'
      exact I.pin a u e'
  ownP := fun i b q o' e => by
    show upd Z.P p ho q = none
    rw [upd_ne (N.ne i b q o' e)]
    exact I.ownP i b q o' e
  tab := I.tab
  tabB := I.tabB
  tabF := I.tabF
/-- what is pinned is written -/
theorem DI.rewrite {P' : Hp} (I : DI K { Z with P := upd P' p ho } F H σ ρ) (hx : NoTab ho := by exact ⟨(fun _ z => nomatch z), fun c q z => by unfold LamX.CodeO at z; cases z⟩) : DI K { Z with P := upd P' p ho' } F (upd H p ho') σ ρ := by
  obtain ⟨h1, h2, h3, h4⟩ := I.pin p ho upd_same
  have nown : ∀ (i : Nat) b q o, ρ[i]? = some (.own b q o) → q ≠ p := fun i b q o e z => by
    have this : upd P' p ho q = none := I.ownP i b q o e
    rw [z, upd_same] at this
    cases this
  exact { f0 := I.f0, fh := fun b x e => by
            have ne : b ≠ p := fun z => by
              rw [z, h2] at e
              cases e
            rw [upd_ne ne]
            exact I.fh b x e
          fnew := I.fnew, keep := fun a u e => by
            have ne : a ≠ p := fun z => by
              have e' : Z.H0 a = some u := e
              rw [z, show Z.H0 p = none from h4] at e'
              cases e'
            rcases I.keep a u e with y | y
            · exact .inl y
            · exact .inr (by rw [upd_ne ne]; exact y)
          bor := fun b hb => by
            obtain ⟨u, e⟩ := I.bor b hb
            have ne : b ≠ p := fun z => h3 (by rw [← z]; exact hb)
            exact ⟨u, by rw [upd_ne ne]; exact e⟩
          len := I.len, sl := fun i s e => by
            obtain ⟨ov, e1, r⟩ := I.sl i s e
            refine ⟨ov, e1, r.up (Same.refl F) fun q hq ⟨b, oo, eo⟩ fq hh' => ⟨fq, ?_⟩⟩
            subst eo
            rw [upd_ne (nown i b q oo e)]
            exact hh'
          ownB := I.ownB, dis := I.dis, pin := fun a u e => by
            by_cases q : a = p
            · subst q
              have e' : upd P' a ho' a = some u := e
              rw [upd_same] at e'
              rw [← e']
              exact ⟨upd_same, h2, h3, h4⟩
            · have e' : upd P' p ho' a = some u := e
              rw [upd_ne q] at e'
              have e2 : upd P' p ho a = some u := by rw [upd_ne q]; exact e'
              obtain ⟨k1, k2, k3, k4⟩ := I.pin a u e2
              exact ⟨by rw [upd_ne q]; exact k1, k2, k3, k4⟩
          ownP := fun i b q o e => by
            show upd P' p ho' q = none
            have := I.ownP i b q o e
            have t : upd P' p ho q = none := this
            rw [upd_ne (nown i b q o e)] at t ⊢
            exact t
          tab := tabs_upd I.tab h1 hx, tabB := I.tabB, tabF := I.tabF }
end
end DL

namespace DL
open PyProof.Rows hiding St
open PySem PySem.Spec L2

/-! ### data readings -/
abbrev DB := En → (Bool → En → Prop) → XP → Prop
def tO (K : PySem.W.Frag) (Z : Fm) (W : WX) (m : DO) : TE := fun σ H Q => ∃ F ρ R U, DI K Z F H σ ρ ∧ m ρ R U ∧
  (∀ o ρ' p F' H', DI K Z F' H' σ ρ' → Same F F' → NewAt K Z F' H' ρ' p o → R o ρ' → Q (.ref p) H') ∧ PX K Z W F σ U
def tT (K : PySem.W.Frag) (Z : Fm) (W : WX) (m : DB) : TT := fun σ H Q => ∃ F ρ R U, DI K Z F H σ ρ ∧ m ρ R U ∧ (∀ b ρ' F' H', DI K Z F' H' σ ρ' → Same F F' → R b ρ' → Q b H') ∧ PX K Z W F σ U
def tAs (K : PySem.W.Frag) (Z : Fm) (W : WX) (m : DA) : TA := fun σ H Q => ∃ F ρ R U, DI K Z F H σ ρ ∧ m ρ R U ∧
  (∀ as ρ' vs F' H', DI K Z F' H' σ ρ' → Same F F' → Paired (fun v a => AgRep K F' σ v a) vs as → R as ρ' → Q vs H') ∧ PX K Z W F σ U

def DOk (X : Cx) (Z : Fm) (W : WX) (e : Expr) (m : DO) : Prop := PE X e (tO X.K Z W m)
def DTs (X : Cx) (Z : Fm) (W : WX) (e : Expr) (m : DB) : Prop := PT X e (tT X.K Z W m)
def DWs (X : Cx) (Z : Fm) (W : WX) (e : Expr) (m : DB) : Prop := PW X e (tT X.K Z W m)
def DAs (X : Cx) (Z : Fm) (W : WX) (es : List Expr) (m : DA) : Prop := PA X es (tAs X.K Z W m)

theorem PE.imp {X : Cx} {e : Expr} {t t' : TE} (h : PE X e t) (i : ∀ σ H Q, t' σ H Q → t σ H Q) : PE X e t' := ⟨fun pins s σ H Q I q => h.run pins s σ H Q I (i σ H Q q)⟩
theorem PT.imp {X : Cx} {e : Expr} {t t' : TT} (h : PT X e t) (i : ∀ σ H Q, t' σ H Q → t σ H Q) : PT X e t' := ⟨fun pins s σ H Q I q => h.run pins s σ H Q I (i σ H Q q)⟩
theorem PW.imp {X : Cx} {e : Expr} {t t' : TT} (h : PW X e t) (i : ∀ σ H Q, t' σ H Q → t σ H Q) : PW X e t' := ⟨fun w pins s σ H Q I q => h.run w pins s σ H Q I (i σ H Q q)⟩
theorem PA.imp {X : Cx} {e : List Expr} {t t' : TA} (h : PA X e t) (i : ∀ σ H Q, t' σ H Q → t σ H Q) : PA X e t' := ⟨fun p pins s σ H Q I q => h.run p pins s σ H Q I (i σ H Q q)⟩

section
variable {X : Cx} {Z : Fm} {W : WX} {e a b c : Expr} {ma mb mc : DT} {pos : Pos}

/-! ### names, constants -/
theorem st_same {σ : St} {i : Nat} {ov : Option V} (e : σ[i]? = some ov) : σ.set i ov = σ := by
  apply List.ext_getElem?
  intro j
  rw [List.getElem?_set]
  by_cases z : i = j
  · subst z
    rw [if_pos rfl, if_pos (List.getElem?_eq_some_iff.mp e).1, e]
  · rw [if_neg z]
/-- a name is read; an own object is frozen from here on -/
def dVar (i : Nat) : DT := fun ρ R _ => match ρ[i]? with
  | some (.dat d) => R d ρ
  | some (.own false _ o) => (match o.toD with
    | some d => R d (ρ.set i (.dat d))
    | none => False)
  | _ => False
theorem d_var (i : Nat) {x : Str} (hN : X.N[i]? = some x := by rfl) (hv : Vis X.env.scope x := by first | exact Or.inl rfl | exact Or.inr (Or.inl rfl) | exact Or.inr (Or.inr rfl)) (hd : (x == ("__debug__" : Str)) = false := by decide)
    (hcd : (x == ("__classdict__" : Str)) = false := by decide) : DE X Z W (.Name x pos) (dVar i) :=
  PE.imp (pe_var hN hv hd hcd) fun σ H Q ⟨F, ρ, R, U, I, hm, q, u⟩ => by
    unfold dVar at hm
    split at hm
    · rename_i d e
      obtain ⟨v, e1, r⟩ := I.slot e
      exact ⟨v, e1, q d ρ v F H I (Same.refl F) r hm⟩
    · rename_i p o e
      split at hm
      · rename_i d hd
        obtain ⟨e1, _⟩ := I.slotO e
        obtain ⟨I1, N⟩ := I.takeOut e
        obtain ⟨ho, I2, s2, r⟩ := I1.freeze N hd
        have I3 := I2.setDat i r
        rw [st_same e1, List.set_set] at I3
        exact ⟨_, e1, q d _ _ _ H I3 s2 r hm⟩
      · exact hm.elim
    · exact hm.elim
def dC (d : Dt) : DT := fun ρ R _ => R d ρ
theorem DE.const {v : V} {d : Dt} (h : PE X e (tC v)) (r : ∀ F, Rep X.K F v d) : DE X Z W e (dC d) :=
  PE.imp h fun σ H Q ⟨F, ρ, R, U, I, hm, q, u⟩ => q d ρ v F H I (Same.refl F) (r F) hm
theorem d_int {i : Int} {j : Nat} : DE X Z W (.Constant (.int i) j pos) (dC (.int i)) := DE.const pe_int fun _ => .int i
theorem d_bl {i : Bool} {j : Nat} : DE X Z W (.Constant (.bool i) j pos) (dC (.bl i)) := DE.const pe_bl fun _ => .bl i
theorem d_non {j : Nat} : DE X Z W (.Constant .none j pos) (dC .non) := DE.const pe_non fun _ => .non
theorem rep_str {K : PySem.W.Frag} {F : Hp} {x : Str} (h : x.cps.toList.length ≤ sizeLine) : Rep K F (.str x) (.str x.cps.toList) := .str x.cps.toList h
theorem d_str {x : Str} {j : Nat} {l : List Nat} (hl : x.cps.toList = l := by decide +kernel) (h : l.length ≤ sizeLine := by decide) : DE X Z W (.Constant (.str x) j pos) (dC (.str l)) := by
  subst hl
  exact DE.const pe_str fun _ => rep_str h

/-! ### operators, by values -/
/-- what is wanted of a value where the slots stay -/
def Rt1 (K : PySem.W.Frag) (Z : Fm) (F : Hp) (σ : St) (ρ : En) (d : Dt) (Q : VK) : Prop := ∀ v F' H', DI K Z F' H' σ ρ → Same F F' → Rep K F' v d → Q v H'
/-- an operation on data, with what is wanted of its result -/
abbrev O1 := Dt → (Dt → Prop) → Prop
abbrev O2 := Dt → Dt → (Dt → Prop) → Prop
abbrev OL := List Dt → (Dt → Prop) → Prop
def V2 (K : PySem.W.Frag) (r : R2) (f : O2) : Prop := ∀ (Z : Fm) (F H : Hp) (σ : St) (ρ : En) (x y : V) (dx dy : Dt) (k : Dt → Prop) (Q : VK), DI K Z F H σ ρ → Rep K F x dx → Rep K F y dy → f dx dy k → (∀ dz, k dz → Rt1 K Z F σ ρ dz Q) → r x y H Q
def V1 (K : PySem.W.Frag) (r : V → Hp → VK → Prop) (f : O1) : Prop := ∀ (Z : Fm) (F H : Hp) (σ : St) (ρ : En) (x : V) (dx : Dt) (k : Dt → Prop) (Q : VK), DI K Z F H σ ρ → Rep K F x dx → f dx k → (∀ dz, k dz → Rt1 K Z F σ ρ dz Q) → r x H Q
def VL (K : PySem.W.Frag) (r : List V → Hp → VK → Prop) (f : OL) : Prop := ∀ (Z : Fm) (F H : Hp) (σ : St) (ρ : En) (xs : List V) (ds : List Dt) (k : Dt → Prop) (Q : VK), DI K Z F H σ ρ → Reps K F xs ds → f ds k → (∀ dz, k dz → Rt1 K Z F σ ρ dz Q) → r xs H Q
def dBin (f : O2) (a b : DT) : DT := fun ρ R U => a ρ (fun x ρ1 => b ρ1 (fun y ρ2 => f x y (fun z => R z ρ2)) U) U
def dUn (f : O1) (a : DT) : DT := fun ρ R U => a ρ (fun x ρ1 => f x (fun z => R z ρ1)) U
theorem bin_in {r : R2} {f : O2} (hv : V2 X.K r f) (σ : St) (H : Hp) (Q : VK) (h : tE X.K Z W (dBin f ma mb) σ H Q) : tOp r (tE X.K Z W ma) (tE X.K Z W mb) σ H Q := by
  obtain ⟨F, ρ, R, U, I, hm, q, u⟩ := h
  refine ⟨F, ρ, _, U, I, hm, fun x ρ1 v F1 H1 I1 s1 r1 h1 => ⟨F1, ρ1, _, U, I1, h1, fun y ρ2 w F2 H2 I2 s2 r2 h2 => ?_, u.mono s1⟩, u⟩
  exact hv Z F2 H2 σ ρ2 v w x y _ Q I2 (r1.mono s2) r2 h2 fun z hz v' F' H' I' s' r' => q z ρ2 v' F' H' I' ((s1.trans s2).trans s') r' hz
theorem un_in {r : V → Hp → VK → Prop} {f : O1} (hv : V1 X.K r f) (σ : St) (H : Hp) (Q : VK) (h : tE X.K Z W (dUn f ma) σ H Q) : tE X.K Z W ma σ H (fun x H1 => r x H1 Q) := by
  obtain ⟨F, ρ, R, U, I, hm, q, u⟩ := h
  refine ⟨F, ρ, _, U, I, hm, fun x ρ1 v F1 H1 I1 s1 r1 h1 => ?_, u⟩
  exact hv Z F1 H1 σ ρ1 v x _ Q I1 r1 h1 fun z hz v' F' H' I' s' r' => q z ρ1 v' F' H' I' (s1.trans s') r' hz
theorem d_op {op : Operator} {r : R2} {f : O2} (ho : OpR X (binaryOp op) r) (hv : V2 X.K r f) (ha : DE X Z W a ma) (hb : DE X Z W b mb) : DE X Z W (.BinOp a op b pos) (dBin f ma mb) :=
  PE.imp (pe_op ho ha hb) (bin_in hv)
theorem d_un {op : UnaryOp} {r : V → Hp → VK → Prop} {f : O1} (ho : UnR X (unaryOp op) r) (hv : V1 X.K r f) (ha : DE X Z W a ma) : DE X Z W (.UnaryOp op a pos) (dUn f ma) :=
  PE.imp (pe_un ho ha) (un_in hv)
theorem d_cmp {op : CmpOp} {r : R2} {f : O2} (ho : OpR X (compareOp op) r) (hv : V2 X.K r f) (ha : DE X Z W a ma) (hb : DE X Z W b mb) (hm : behindInMarks op b = false := by first | exact nomark _ | rfl) : DE X Z W (.Compare a [op] [b] pos) (dBin f ma mb) :=
  PE.imp (pe_cmpR ho ha hb hm) (bin_in hv)
theorem d_ix {r : R2} {f : O2} (ho : IxR X r) (hv : V2 X.K r f) (ha : DE X Z W a ma) (hb : DE X Z W b mb) (hs : PlainIx b := by exact fun _ _ => rfl) : DE X Z W (.Subscript a b pos) (dBin f ma mb) :=
  PE.imp (pe_ix ho ha hb hs) (bin_in hv)
/-- a op b op' c -/
def dChain (f g : O2) (a b c : DT) : DT := fun ρ R U => a ρ (fun x ρ1 => b ρ1 (fun y ρ2 => f x y (fun z => match z with
  | .bl true => c ρ2 (fun z ρ3 => g y z (fun w => R w ρ3)) U
  | .bl false => R (.bl false) ρ2
  | _ => False)) U) U
theorem chain_in {r r' : R2} {f g : O2} (hv : V2 X.K r f) (hv' : V2 X.K r' g) (σ : St) (H : Hp) (Q : VK) (h : tE X.K Z W (dChain f g ma mb mc) σ H Q) : tChain r r' (tE X.K Z W ma) (tE X.K Z W mb) (tE X.K Z W mc) σ H Q := by
  obtain ⟨F, ρ, R, U, I, hm, q, u⟩ := h
  refine ⟨F, ρ, _, U, I, hm, fun x ρ1 v F1 H1 I1 s1 r1 h1 => ⟨F1, ρ1, _, U, I1, h1, fun y ρ2 w F2 H2 I2 s2 r2 h2 => ?_, u.mono s1⟩, u⟩
  refine hv Z F2 H2 σ ρ2 v w x y _ _ I2 (r1.mono s2) r2 h2 fun z hz v' F3 H3 I3 s3 r3 => ?_
  cases r3 with
  | bl k =>
    cases k with
    | false => exact ⟨false, rfl, iteF (q _ ρ2 _ F3 H3 I3 ((s1.trans s2).trans s3) (.bl false) hz)⟩
    | true =>
      refine ⟨true, rfl, iteT ⟨F3, ρ2, _, U, I3, hz, fun z ρ3 w' F4 H4 I4 s4 r4 h4 => ?_, u.mono ((s1.trans s2).trans s3)⟩⟩
      exact hv' Z F4 H4 σ ρ3 w w' y z _ Q I4 (r2.mono (s3.trans s4)) r4 h4 fun k hk v' F' H' I' s' r' => q k ρ3 v' F' H' I' (((s1.trans s2).trans s3).trans (s4.trans s')) r' hk
  | _ => exact hz.elim
/-! ### what is made new: frozen -/
def dFr (m : DO) : DT := fun ρ R U => m ρ (fun o ρ' => match o.toD with
  | some d => R d ρ'
  | none => False) U
theorem DOk.frz {m : DO} (h : DOk X Z W e m) : DE X Z W e (dFr m) := PE.imp h fun σ H Q ⟨F, ρ, R, U, I, hm, q, u⟩ => by
  refine ⟨F, ρ, _, U, I, hm, fun o ρ' p F' H' I' s' N h' => ?_, u⟩
  try dsimp only at h'
  split at h'
  · rename_i d hd
    obtain ⟨ho, I2, s2, r⟩ := I'.freeze N hd
    exact q d ρ' _ _ H' I2 (s'.trans s2) r h'
  · exact h'.elim

/-! ### arguments -/
def daNil : DA := fun ρ R _ => R [] ρ
def daCons (a : DT) (r : DA) : DA := fun ρ R U => a ρ (fun x ρ1 => r ρ1 (fun as ρ2 => R (.d x :: as) ρ2) U) U
/-- an own object is lent -/
def daLend (i : Nat) (r : DA) : DA := fun ρ R U => match ρ[i]? with
  | some (.own _ _ _) => r ρ (fun as ρ2 => R (.b i :: as) ρ2) U
  | _ => False
theorem da_nil : DAs X Z W [] daNil := PA.imp pa_nil fun σ H Q ⟨F, ρ, R, U, I, hm, q, u⟩ => q [] ρ [] F H I (Same.refl F) .nil hm
theorem da_cons {es : List Expr} {mr : DA} (ha : DE X Z W e ma) (hr : DAs X Z W es mr) (hs : starEach (e :: es) X.env = (false, eval e X.env) :: starEach es X.env := by rfl) : DAs X Z W (e :: es) (daCons ma mr) :=
  PA.imp (pa_cons ha hr hs) fun σ H Q ⟨F, ρ, R, U, I, hm, q, u⟩ =>
    ⟨F, ρ, _, U, I, hm, fun x ρ1 v F1 H1 I1 s1 r1 h1 => ⟨F1, ρ1, _, U, I1, h1, fun as ρ2 vs F2 H2 I2 s2 r2 h2 => q _ ρ2 _ F2 H2 I2 (s1.trans s2) (.cons (show AgRep X.K F2 σ v (.d x) from r1.mono s2) r2) h2, u.mono s1⟩, u⟩
theorem da_lend (i : Nat) {x : Str} {es : List Expr} {mr : DA} (hr : DAs X Z W es mr) (hN : X.N[i]? = some x := by rfl) (hv : Vis X.env.scope x := by first | exact Or.inl rfl | exact Or.inr (Or.inl rfl) | exact Or.inr (Or.inr rfl)) (hd : (x == ("__debug__" : Str)) = false := by decide)
    (hcd : (x == ("__classdict__" : Str)) = false := by decide) (hs : starEach (.Name x pos :: es) X.env = (false, eval (.Name x pos) X.env) :: starEach es X.env := by rfl) : DAs X Z W (.Name x pos :: es) (daLend i mr) :=
  PA.imp (pa_cons (pe_var hN hv hd hcd) hr hs) fun σ H Q ⟨F, ρ, R, U, I, hm, q, u⟩ => by
    unfold daLend at hm
    split at hm
    · rename_i b p o e
      obtain ⟨e1, _⟩ := I.slotO e
      exact ⟨_, e1, F, ρ, _, U, I, hm, fun as ρ2 vs F2 H2 I2 s2 r2 h2 => q _ ρ2 _ F2 H2 I2 s2 (.cons (show AgRep X.K F2 σ _ (.b i) from e1) r2) h2, u⟩
    · exact hm.elim
def dats : List Ag → Option (List Dt)
  | [] => some []
  | .d x :: r => (dats r).map (x :: ·)
  | .b _ :: _ => none
theorem dats_reps {K : PySem.W.Frag} {F : Hp} {σ : St} : ∀ {as : List Ag} {vs : List V} {ds : List Dt}, Paired (fun v a => AgRep K F σ v a) vs as → dats as = some ds → Reps K F vs ds
  | [], _, _, .nil, e => by
    obtain rfl := Option.some.inj e
    exact .nil
  | .d x :: r, _, ds, .cons h t, e => by
    cases q : dats r with
    | none =>
      have e' : (dats r).map (x :: ·) = some ds := e
      rw [q] at e'
      cases e'
    | some l =>
      have e' : (dats r).map (x :: ·) = some ds := e
      rw [q] at e'
      obtain rfl := Option.some.inj e'
      exact .cons h (dats_reps t q)
  | .b _ :: _, _, _, .cons _ _, e => by cases e

/-! ### calls of what is built in -/
def dCB (f : OL) (a : DA) : DT := fun ρ R U => a ρ (fun as ρ1 => match dats as with
  | some ds => f ds (fun z => R z ρ1)
  | none => False) U
theorem cb_in {r : List V → Hp → VK → Prop} {f : OL} {m : DA} (hv : VL X.K r f) (σ : St) (H : Hp) (Q : VK) (h : tE X.K Z W (dCB f m) σ H Q) : tAs X.K Z W m σ H (fun vs H1 => r vs H1 Q) := by
  obtain ⟨F, ρ, R, U, I, hm, q, u⟩ := h
  refine ⟨F, ρ, _, U, I, hm, fun as ρ1 vs F1 H1 I1 s1 r1 h1 => ?_, u⟩
  try dsimp only at h1
  cases ea : dats as with
  | none =>
    rw [ea] at h1
    exact h1.elim
  | some ds =>
    rw [ea] at h1
    exact hv Z F1 H1 σ ρ1 vs ds _ Q I1 (dats_reps r1 ea) h1 fun z hz v' F' H' I' s' r' => q z ρ1 v' F' H' I' (s1.trans s') r' hz
theorem d_cb {x : Str} {p : Pos} {r : List V → Hp → VK → Prop} {g : OL} {m : DA} {es : List Expr} (hv : VL X.K r g) (h : ∀ t, PA X es t → PE X (.Call (.Name x p) es [] pos) (tCB r t)) (ha : DAs X Z W es m) : DE X Z W (.Call (.Name x p) es [] pos) (dCB g m) :=
  PE.imp (h _ ha) (cb_in hv)

/-! ### tests -/
def truth : Dt → Option Bool
  | .non => some false
  | .bl b => some b
  | .int i => some (i != 0)
  | .str l => some (!l.isEmpty)
  | .tup l => some (!l.isEmpty)
  | .lst l => some (!l.isEmpty)
  | .dct l => some (!l.isEmpty)
  | _ => none
def dTru (a : DT) : DB := fun ρ R U => a ρ (fun x ρ1 => match truth x with
  | some b => R b ρ1
  | none => False) U
/-- a test whose value is True or False -/
def dBl (a : DT) : DB := fun ρ R U => a ρ (fun x ρ1 => match x with
  | .bl b => R b ρ1
  | _ => False) U
theorem bl_in (σ : St) (H : Hp) (Q : Bool → Hp → Prop) (h : tT X.K Z W (dBl ma) σ H Q) : tE X.K Z W ma σ H (fun x H1 => ∃ k, x = .bl k ∧ Q k H1) := by
  obtain ⟨F, ρ, R, U, I, hm, q, u⟩ := h
  refine ⟨F, ρ, _, U, I, hm, fun x ρ1 v F1 H1 I1 s1 r1 h1 => ?_, u⟩
  cases r1 with
  | bl k => exact ⟨k, rfl, q k ρ1 F1 H1 I1 s1 h1⟩
  | _ => exact h1.elim
theorem t_cmp {op : CmpOp} {r : R2} {f : O2} (ho : OpR X (compareOp op) r) (hv : V2 X.K r f) (ha : DE X Z W a ma) (hb : DE X Z W b mb) (hm : behindInMarks op b = false := by first | exact nomark _ | rfl) : DTs X Z W (.Compare a [op] [b] pos) (dBl (dBin f ma mb)) :=
  PT.imp (pt_cmpR ho ha hb hm) fun σ H Q h => bin_in hv σ H _ (bl_in σ H Q h)
theorem t_chain {op op' : CmpOp} {r r' : R2} {f g : O2} (ho : OpR X (compareOp op) r) (ho' : OpR X (compareOp op') r') (hv : V2 X.K r f) (hv' : V2 X.K r' g) (ha : DE X Z W a ma) (hb : DE X Z W b mb) (hc : DE X Z W c mc)
    (hm : lastMarks [op, op'] [b, c] = false := by with_unfolding_all rfl) : DTs X Z W (.Compare a [op, op'] [b, c] pos) (dBl (dChain f g ma mb mc)) :=
  PT.imp (pt_chain ho ho' ha hb hc hm) fun σ H Q h => chain_in hv hv' σ H _ (bl_in σ H Q h)
variable {tA tB : DB} {rest : List Expr}
def dNot (t : DB) : DB := fun ρ R U => t ρ (fun k ρ1 => R (!k) ρ1) U
def dAnd (t s : DB) : DB := fun ρ R U => t ρ (fun k ρ1 => if k = true then s ρ1 R U else R false ρ1) U
def dOr (t s : DB) : DB := fun ρ R U => t ρ (fun k ρ1 => if k = true then R true ρ1 else s ρ1 R U) U
theorem w_and1 (ha : DTs X Z W a tA) : DWs X Z W (.BoolOp .And [a] pos) tA := pw_and1 ha
theorem w_or1 (ha : DTs X Z W a tA) : DWs X Z W (.BoolOp .Or [a] pos) tA := pw_or1 ha
theorem w_and (ha : DTs X Z W a tA) (hb : DWs X Z W (.BoolOp .And (b :: rest) pos) tB) : DWs X Z W (.BoolOp .And (a :: b :: rest) pos) (dAnd tA tB) :=
  PW.imp (pw_and ha hb) fun σ H Q ⟨F, ρ, R, U, I, hm, q, u⟩ => ⟨F, ρ, _, U, I, hm, fun k ρ1 F1 H1 I1 s1 h1 => by
    cases k with
    | false => exact iteF (q false ρ1 F1 H1 I1 s1 h1)
    | true => exact iteT ⟨F1, ρ1, R, U, I1, h1, fun b ρ2 F2 H2 I2 s2 => q b ρ2 F2 H2 I2 (s1.trans s2), u.mono s1⟩, u⟩
theorem w_or (ha : DTs X Z W a tA) (hb : DWs X Z W (.BoolOp .Or (b :: rest) pos) tB) : DWs X Z W (.BoolOp .Or (a :: b :: rest) pos) (dOr tA tB) :=
  PW.imp (pw_or ha hb) fun σ H Q ⟨F, ρ, R, U, I, hm, q, u⟩ => ⟨F, ρ, _, U, I, hm, fun k ρ1 F1 H1 I1 s1 h1 => by
    cases k with
    | true => exact iteT (q true ρ1 F1 H1 I1 s1 h1)
    | false => exact iteF ⟨F1, ρ1, R, U, I1, h1, fun b ρ2 F2 H2 I2 s2 => q b ρ2 F2 H2 I2 (s1.trans s2), u.mono s1⟩, u⟩
theorem t_w (h : DWs X Z W e tA) : DTs X Z W e tA := PW.pt h
/-- as values: all but the last True or False -/
def dAndV (a b : DT) : DT := fun ρ R U => a ρ (fun x ρ1 => match x with
  | .bl true => b ρ1 R U
  | .bl false => R (.bl false) ρ1
  | _ => False) U
def dOrV (a b : DT) : DT := fun ρ R U => a ρ (fun x ρ1 => match x with
  | .bl false => b ρ1 R U
  | .bl true => R (.bl true) ρ1
  | _ => False) U
theorem d_one {op : PySem.BoolOp} (ha : DE X Z W a ma) : DE X Z W (.BoolOp op [a] pos) ma := pe_one ha
theorem d_and (ha : DE X Z W a ma) (hb : DE X Z W (.BoolOp .And (b :: rest) pos) mb) : DE X Z W (.BoolOp .And (a :: b :: rest) pos) (dAndV ma mb) :=
  PE.imp (pe_and ha hb) fun σ H Q ⟨F, ρ, R, U, I, hm, q, u⟩ => ⟨F, ρ, _, U, I, hm, fun x ρ1 v F1 H1 I1 s1 r1 h1 => by
    cases r1 with
    | bl k =>
      cases k with
      | false => exact ⟨false, rfl, iteF (q _ ρ1 _ F1 H1 I1 s1 (.bl false) h1)⟩
      | true => exact ⟨true, rfl, iteT ⟨F1, ρ1, R, U, I1, h1, fun d ρ2 v F2 H2 I2 s2 => q d ρ2 v F2 H2 I2 (s1.trans s2), u.mono s1⟩⟩
    | _ => exact h1.elim, u⟩
def dNotV (a : DT) : DT := fun ρ R U => a ρ (fun x ρ1 => match x with
  | .bl k => R (.bl (!k)) ρ1
  | _ => False) U
def dIf (t : DB) (a b : DT) : DT := fun ρ R U => t ρ (fun k ρ1 => if k = true then a ρ1 R U else b ρ1 R U) U
theorem d_if (hc : DTs X Z W c tA) (ha : DE X Z W a ma) (hb : DE X Z W b mb) : DE X Z W (.IfExp c a b pos) (dIf tA ma mb) :=
  PE.imp (pe_ifExp hc ha hb) fun σ H Q ⟨F, ρ, R, U, I, hm, q, u⟩ => ⟨F, ρ, _, U, I, hm, fun k ρ1 F1 H1 I1 s1 h1 => by
    cases k with
    | true => exact iteT ⟨F1, ρ1, R, U, I1, h1, fun d ρ2 v F2 H2 I2 s2 => q d ρ2 v F2 H2 I2 (s1.trans s2), u.mono s1⟩
    | false => exact iteF ⟨F1, ρ1, R, U, I1, h1, fun d ρ2 v F2 H2 I2 s2 => q d ρ2 v F2 H2 I2 (s1.trans s2), u.mono s1⟩, u⟩

/-! ### displays -/
def dTup (a : DA) : DT := fun ρ R U => a ρ (fun as ρ1 => match dats as with
  | some ds => ds.length ≤ sizeLine ∧ R (.tup ds) ρ1
  | none => False) U
theorem d_tup {es : List Expr} {k : Nat} {m : DA} (ha : DAs X Z W es m) : DE X Z W (.Tuple es k pos) (dTup m) :=
  PE.imp (pe_tupN ha) fun σ H Q ⟨F, ρ, R, U, I, hm, q, u⟩ => by
    refine ⟨F, ρ, _, U, I, hm, fun as ρ1 vs F1 H1 I1 s1 r1 h1 => ?_, u⟩
    try dsimp only at h1
    split at h1
    · rename_i ds e
      have r := dats_reps r1 e
      refine ⟨by rw [r.length]; exact h1.1, fun p o no np => ?_⟩
      have I2 := I1.freshF (ho := .frz o (.tup vs)) np
      have s2 : Same F1 (upd F1 p (.frz o (.tup vs))) := same_new (I1.freeF np)
      exact q _ ρ1 _ _ _ I2 (s1.trans s2) (.tup (.inl ⟨o, upd_same, no⟩) (r.mono s2)) h1.2
    · exact h1.elim
def dLst (a : DA) : DO := fun ρ R U => a ρ (fun as ρ1 => match dats as with
  | some ds => ds.length ≤ sizeLine ∧ R (.lst ds) ρ1
  | none => False) U
theorem d_lst {es : List Expr} {m : DA} (ha : DAs X Z W es m) : DOk X Z W (.List es pos) (dLst m) :=
  PE.imp (pe_lst ha) fun σ H Q ⟨F, ρ, R, U, I, hm, q, u⟩ => by
    refine ⟨F, ρ, _, U, I, hm, fun as ρ1 vs F1 H1 I1 s1 r1 h1 => ?_, u⟩
    try dsimp only at h1
    split at h1
    · rename_i ds e
      have r := dats_reps r1 e
      refine ⟨by rw [r.length]; exact h1.1, fun p np => ?_⟩
      exact q _ ρ1 p F1 _ (I1.freshO (ho := .lst vs) np) s1 (I1.newAt np (.lst r)) h1.2
    · exact h1.elim
end
end DL

namespace DL
open PyProof.Rows hiding St
open PySem PySem.Spec L2

/-! ### statements -/
def DS (X : Cx) (Z : Fm) (W : WX) (st : Stmt) (m : DSt) : Prop := PS X st (tS X.K Z W m)
theorem PS.imp {X : Cx} {e : Stmt} {t t' : TS} (h : PS X e t) (i : ∀ D σ H, t' D σ H → t D σ H) : PS X e t' := ⟨fun pins s σ H D I q => h.run pins s σ H D I (i D σ H q)⟩
theorem PSs.imp {X : Cx} {e : List Stmt} {t t' : TS} (h : PSs X e t) (i : ∀ D σ H, t' D σ H → t D σ H) : PSs X e t' := ⟨fun pins s σ H D I q => h.run pins s σ H D I (i D σ H q)⟩

section
variable {X : Cx} {Z : Fm} {W : WX} {st : Stmt} {rest : List Stmt} {m n : DSt} {e : Expr} {me : DT} {mo : DO} {mt : DB} {pos : Pos}
def dNext : DSt := fun D ρ => D.nx ρ
def dSeq (a b : DSt) : DSt := fun D ρ => a { D with nx := b D } ρ
theorem ds_nil : DSs X Z W [] dNext := PSs.imp pss_nil fun D' σ H ⟨F, ρ, D, I, hm, r⟩ => r.nx ρ σ F H I (Same.refl F) hm
theorem ds_cons (h1 : DS X Z W st m) (h2 : DSs X Z W rest n) : DSs X Z W (st :: rest) (dSeq m n) := PSs.imp (pss_cons h1 h2) fun D' σ H ⟨F, ρ, D, I, hm, r⟩ =>
  ⟨F, ρ, _, I, hm, fun ρ' σ' F' H' I' s' h' => ⟨F', ρ', D, I', h', r.mono s'⟩, r.rt, r.bk, r.ct, r.ex⟩
theorem ds_one (h1 : DS X Z W st m) : DSs X Z W [st] m := pss_one h1
/-- never reached -/
def dNo : DSt := fun _ _ => False
def dDrop (a : DT) : DSt := fun D ρ => a ρ (fun _ ρ' => D.nx ρ') D.ex
theorem ds_expr (he : DE X Z W e me) (hs : swapsWith e none pos.line X.env = pure false := by rfl) : DS X Z W (.Expr e pos) (dDrop me) :=
  PS.imp (ps_expr he hs) fun D' σ H ⟨F, ρ, D, I, hm, r⟩ => ⟨F, ρ, _, _, I, hm, fun d ρ' v F' H' I' s' _ h' => r.nx ρ' σ F' H' I' s' h', r.ex σ⟩
def dRet (a : DT) : DSt := fun D ρ => a ρ (fun d ρ' => D.rt (.d d) ρ') D.ex
theorem ds_ret (he : DE X Z W e me) : DS X Z W (.Return (some e) pos) (dRet me) :=
  PS.imp (ps_ret he) fun D' σ H ⟨F, ρ, D, I, hm, r⟩ => ⟨F, ρ, _, _, I, hm, fun d ρ' v F' H' I' s' r' h' => r.rt (.d d) ρ' v σ F' H' I' s' r' h', r.ex σ⟩
/-- a new object is handed back -/
def dRetO (a : DO) : DSt := fun D ρ => a ρ (fun o ρ' => D.rt (.o o) ρ') D.ex
theorem ds_retO (he : DOk X Z W e mo) : DS X Z W (.Return (some e) pos) (dRetO mo) :=
  PS.imp (ps_ret he) fun D' σ H ⟨F, ρ, D, I, hm, r⟩ => ⟨F, ρ, _, _, I, hm, fun o ρ' p F' H' I' s' N h' => r.rt (.o o) ρ' _ σ F' H' I' s' ⟨p, rfl, N⟩ h', r.ex σ⟩
def dRetN : DSt := fun D ρ => D.rt (.d .non) ρ
def dIfS (t : DB) (a b : DSt) : DSt := fun D ρ => t ρ (fun k ρ1 => if k = true then a D ρ1 else b D ρ1) D.ex
theorem ds_if {c : Expr} {a b : List Stmt} (hc : DTs X Z W c mt) (ha : DSs X Z W a m) (hb : DSs X Z W b n) : DS X Z W (.If c a b pos) (dIfS mt m n) :=
  PS.imp (ps_if hc ha hb) fun D' σ H ⟨F, ρ, D, I, hm, r⟩ => ⟨F, ρ, _, _, I, hm, fun k ρ1 F1 H1 I1 s1 h1 => by
    cases k with
    | true => exact iteT ⟨F1, ρ1, D, I1, h1, r.mono s1⟩
    | false => exact iteF ⟨F1, ρ1, D, I1, h1, r.mono s1⟩, r.ex σ⟩

/-! ### targets -/
abbrev DG := Dt → En → (En → Prop) → Prop
/-- the slots agree but for ts -/
def Agr (ts : List Nat) (σ σ' : St) : Prop := σ'.length = σ.length ∧ ∀ i, i ∉ ts → σ'[i]? = σ[i]?
theorem Agr.refl (ts : List Nat) (σ : St) : Agr ts σ σ := ⟨rfl, fun _ _ => rfl⟩
def tG (K : PySem.W.Frag) (Z : Fm) (ts : List Nat) (m : DG) : TG := fun v σ H Q => ∃ F ρ d R, DI K Z F H σ ρ ∧ Rep K F v d ∧ m d ρ R ∧ ∀ ρ' σ' F' H', DI K Z F' H' σ' ρ' → Same F F' → Agr ts σ σ' → R ρ' → Q σ' H'
def DGt (X : Cx) (Z : Fm) (e : Expr) (ts : List Nat) (m : DG) : Prop := PG X e (tG X.K Z ts m)
theorem PG.imp {X : Cx} {e : Expr} {t t' : TG} (h : PG X e t) (i : ∀ v σ H Q, t' v σ H Q → t v σ H Q) : PG X e t' := ⟨fun pins s σ H v u Q I r q => h.run pins s σ H v u Q I r (i v σ H Q q)⟩
theorem PGs.imp {X : Cx} {e : List Expr} {t t' : TGs} (h : PGs X e t) (i : ∀ v σ H Q, t' v σ H Q → t v σ H Q) : PGs X e t' := ⟨fun pins s σ H v u Q I r q => h.run pins s σ H v u Q I r (i v σ H Q q)⟩
def gN (i : Nat) : DG := fun d ρ R => R (ρ.set i (.dat d))
theorem g_name {i : Nat} {x : Str} (hN : X.N.Nodup) (hi : X.N[i]? = some x := by rfl) (hx : Loc X.env.scope x := by first | exact Or.inl rfl | exact Or.inr rfl) (hf : X.fn x = true ∨ X.env.scope.names.lookup x = some .local := by first | exact .inl rfl | exact .inr rfl | assumption) : DGt X Z (.Name x pos) [i] (gN i) :=
  PG.imp (pg_name hN hi hx hf) fun v σ H Q ⟨F, ρ, d, R, I, r, hm, q⟩ => q _ _ F H (I.setDat i r) (Same.refl F) ⟨List.length_set, fun j hj => by rw [List.getElem?_set, if_neg fun z => hj (by rw [z]; exact List.mem_cons_self)]⟩ hm
def dSet (i : Nat) (a : DT) : DSt := fun D ρ => a ρ (fun d ρ1 => D.nx (ρ1.set i (.dat d))) D.ex
def dSetO (i : Nat) (a : DO) : DSt := fun D ρ => a ρ (fun o ρ1 => ∀ p, D.nx (ρ1.set i (.own false p o))) D.ex
theorem ds_set {i : Nat} {x : Str} {pos' : Pos} (hN : X.N.Nodup) (he : DE X Z W e me) (hi : X.N[i]? = some x := by rfl) (hx : Loc X.env.scope x := by first | exact Or.inl rfl | exact Or.inr rfl) (hs : swapsWith e (some (.Name x pos')) pos.line X.env = pure false := by rfl) (hf : X.fn x = true ∨ X.env.scope.names.lookup x = some .local := by first | exact .inl rfl | exact .inr rfl | assumption) :
    DS X Z W (.Assign [.Name x pos'] e pos) (dSet i me) :=
  PS.imp (ps_set hN hi hx he hs hf) fun D' σ H ⟨F, ρ, D, I, hm, r⟩ => ⟨F, ρ, _, _, I, hm, fun d ρ1 v F1 H1 I1 s1 r1 h1 => r.nx _ _ F1 H1 (I1.setDat i r1) s1 h1, r.ex σ⟩
theorem ds_setO {i : Nat} {x : Str} {pos' : Pos} (hN : X.N.Nodup) (he : DOk X Z W e mo) (hi : X.N[i]? = some x := by rfl) (hx : Loc X.env.scope x := by first | exact Or.inl rfl | exact Or.inr rfl) (hs : swapsWith e (some (.Name x pos')) pos.line X.env = pure false := by rfl) (hf : X.fn x = true ∨ X.env.scope.names.lookup x = some .local := by first | exact .inl rfl | exact .inr rfl | assumption) :
    DS X Z W (.Assign [.Name x pos'] e pos) (dSetO i mo) :=
  PS.imp (ps_set hN hi hx he hs hf) fun D' σ H ⟨F, ρ, D, I, hm, r⟩ => ⟨F, ρ, _, _, I, hm, fun o ρ1 p F1 H1 I1 s1 N h1 => r.nx _ _ F1 H1 (I1.setOwn i N) s1 (h1 p), r.ex σ⟩
/-- a, b = e, e' -/
def dPar (i j : Nat) (a b : DT) : DSt := fun D ρ => a ρ (fun x ρ1 => b ρ1 (fun y ρ2 => D.nx ((ρ2.set i (.dat x)).set j (.dat y))) D.ex) D.ex
theorem ds_par {i j : Nat} {x y : Str} {a b : Expr} {ma mb : DT} {px py pt : Pos} {kt k2 : Nat} {pt2 : Pos} (hc : X.calm = true) (hN : X.N.Nodup) (ha : DE X Z W a ma) (hb : DE X Z W b mb) (hi : X.N[i]? = some x := by rfl) (hj : X.N[j]? = some y := by rfl) (hij : i ≠ j := by decide)
    (hx : X.env.scope.names.lookup x = some .local := by rfl) (hy : X.env.scope.names.lookup y = some .local := by rfl)
    (hw : swappedStores [.Tuple [.Name x px, .Name y py] kt pt] (.Tuple [a, b] k2 pt2) X.env = pure (some [x, y]) := by rfl)
    (hs : swapsWithSole [.Tuple [.Name x px, .Name y py] kt pt] (.Tuple [a, b] k2 pt2) pos.line X.env = pure false := by rfl) (he1 : starEach [a, b] X.env = (false, eval a X.env) :: starEach [b] X.env := by rfl) (he2 : starEach [b] X.env = (false, eval b X.env) :: starEach [] X.env := by rfl) :
    DS X Z W (.Assign [.Tuple [.Name x px, .Name y py] kt pt] (.Tuple [a, b] k2 pt2) pos) (dPar i j ma mb) :=
  PS.imp (ps_par hc hN hi hj hij hx hy (pa_cons ha (pa_cons hb pa_nil he2) he1) hw hs) fun D' σ H ⟨F, ρ, D, I, hm, r⟩ =>
    ⟨F, ρ, _, _, I, hm, fun dx ρ1 v F1 H1 I1 s1 r1 h1 => ⟨F1, ρ1, _, _, I1, h1, fun dy ρ2 w F2 H2 I2 s2 r2 h2 => ⟨v, w, rfl, r.nx _ _ F2 H2 ((I2.setDat i (r1.mono s2)).setDat j r2) (s1.trans s2) h2⟩, (r.ex σ).mono s1⟩, r.ex σ⟩
/-! ### what is walked -/
/-- J yields the data ds -/
def Yields (K : PySem.W.Frag) (J : It) (ds : List Dt) (F : Hp) : Prop := ∀ (i : Nat) (Z : Fm) (F1 H1 : Hp) (σ1 : St) (ρ1 : En), DI K Z F1 H1 σ1 ρ1 → Same F F1 →
  (∀ d, ds[i]? = some d → J.go i H1 ∧ ∀ x H2, J.yld i H1 x H2 → ∃ F2, DI K Z F2 H2 σ1 ρ1 ∧ Same F1 F2 ∧ Rep K F2 x d) ∧ (ds.length ≤ i → J.stop i H1)
abbrev DI' := En → (List Dt → En → Prop) → XP → Prop
def tI (K : PySem.W.Frag) (Z : Fm) (W : WX) (m : DI') : TI := fun σ H R => ∃ F ρ R' U, DI K Z F H σ ρ ∧ m ρ R' U ∧
  (∀ ds ρ' J F' H', DI K Z F' H' σ ρ' → Same F F' → Yields K J ds F' → R' ds ρ' → R J H') ∧ PX K Z W F σ U
def DIt (X : Cx) (Z : Fm) (W : WX) (tg iter : Expr) (m : DI') : Prop := PI X tg iter (tI X.K Z W m)
theorem PI.imp {X : Cx} {tg e : Expr} {t t' : TI} (h : PI X tg e t) (i : ∀ σ H R, t' σ H R → t σ H R) : PI X tg e t' := ⟨fun pins s σ H R I q => h.run pins s σ H R I (i σ H R q)⟩
/-- a loop over data -/
def dLoop (g : DG) (b : DSt) : List Dt → DSt
  | [], D, ρ => D.nx ρ
  | d :: ds, D, ρ => g d ρ (fun ρ1 => b { D with nx := dLoop g b ds D, ct := dLoop g b ds D, bk := D.nx } ρ1)
def dFor (it : DI') (g : DG) (b : DSt) : DSt := fun D ρ => it ρ (fun ds ρ1 => dLoop g b ds D ρ1) D.ex
theorem ds_for {tg iter : Expr} {body : List Stmt} {mi : DI'} {ts : List Nat} {g : DG} {mb : DSt} (hp : PassesOwn (model X.prog X.w) X.A X.env X.xe) (hc : X.calm = true) (hi : DIt X Z W tg iter mi) (hg : DGt X Z tg ts g) (hb : DSs X Z W body mb)
    (hs : ∀ x, foldedSetIterable iter X.env x = pure x := by intro _; rfl) : DS X Z W (.For tg iter body [] pos) (dFor mi g mb) :=
  PS.imp (ps_for hp hc hi hg hb hs) fun D' σ H ⟨F, ρ, D, I, hm, r⟩ => by
    refine ⟨F, ρ, _, _, I, hm, fun ds ρ1 J F1 H1 I1 s1 y h1 => ?_, r.ex σ⟩
    refine ⟨fun i m σ H => i + m = ds.length ∧ ∃ F2 ρ2, DI X.K Z F2 H σ ρ2 ∧ Same F1 F2 ∧ dLoop g mb (ds.drop i) D ρ2, ⟨ds.length, by omega, F1, ρ1, I1, Same.refl F1, h1⟩, fun i m σ H ⟨em, F2, ρ2, I2, s2, h2⟩ => ?_⟩
    obtain ⟨yg, ys⟩ := y i Z F2 H σ ρ2 I2 s2
    by_cases hl : i < ds.length
    · refine .inr ?_
      obtain ⟨go, yl⟩ := yg ds[i] (List.getElem?_eq_getElem hl)
      refine ⟨go, fun σ' H' => ∃ F3 ρ3, DI X.K Z F3 H' σ' ρ3 ∧ Same F1 F3 ∧ dLoop g mb (ds.drop (i + 1)) D ρ3, fun σ' H' ⟨F3, ρ3, I3, s3, h3⟩ => ⟨m - 1, by omega, by omega, F3, ρ3, I3, s3, h3⟩, fun x H' hy => ?_⟩
      obtain ⟨F3, I3, s3, rx⟩ := yl x H' hy
      rw [List.drop_eq_getElem_cons hl] at h2
      refine ⟨F3, ρ2, ds[i], _, I3, rx, h2, fun ρ4 σ4 F4 H4 I4 s4 _ h4 => ⟨F4, ρ4, _, I4, h4, ?_⟩⟩
      have s14 : Same F1 F4 := s2.trans (s3.trans s4)
      have sF4 : Same F F4 := s1.trans s14
      exact { nx := fun ρ' σ' F' H' I' s' h' => ⟨F', ρ', I', s14.trans s', h'⟩, rt := fun rv ρ' v σ' F' H' I' s' => r.rt rv ρ' v σ' F' H' I' (sF4.trans s'), bk := fun ρ' σ' F' H' I' s' h' => r.nx ρ' σ' F' H' I' (sF4.trans s') h', ct := fun ρ' σ' F' H' I' s' h' => ⟨F', ρ', I', s14.trans s', h'⟩, ex := fun σ => (r.ex σ).mono sF4 }
    · refine .inl ⟨ys (by omega), ?_⟩
      rw [List.drop_eq_nil_of_le (by omega)] at h2
      exact r.nx ρ2 σ F2 H I2 (s1.trans s2) h2
/-! ### while -/
end

/-! ### iterables -/
theorem yl_list {K : PySem.W.Frag} {F : Hp} {a : Addr} {vs : List V} {ds : List Dt} (h : SqL K F a vs) (r : Reps K F vs ds) : Yields K (Itl K a) ds F := fun i Z F1 H1 σ1 ρ1 I s => by
  have sh : Same F H1 := s.trans I.fh
  refine ⟨fun d e => ?_, fun hl => ⟨vs, sh.seq h, by rw [r.length]; exact hl⟩⟩
  obtain ⟨v, e1, r1⟩ := r.get e
  refine ⟨⟨vs, v, sh.seq h, e1⟩, fun x H2 hy => ?_⟩
  obtain ⟨rfl, hx⟩ := hy
  have ex := hx vs (sh.seq h)
  rw [e1] at ex
  obtain rfl := Option.some.inj ex
  exact ⟨F1, I, Same.refl F1, r1.mono s⟩
theorem yl_tup {K : PySem.W.Frag} {F : Hp} {a : Addr} {vs : List V} {ds : List Dt} (h : TupN K F a vs) (r : Reps K F vs ds) : Yields K (Itt K a) ds F := fun i Z F1 H1 σ1 ρ1 I s => by
  have sh : Same F H1 := s.trans I.fh
  refine ⟨fun d e => ?_, fun hl => ⟨vs, sameT sh h, by rw [r.length]; exact hl⟩⟩
  obtain ⟨v, e1, r1⟩ := r.get e
  refine ⟨⟨vs, v, sameT sh h, e1⟩, fun x H2 hy => ?_⟩
  obtain ⟨rfl, hx⟩ := hy
  have ex := hx vs (sameT sh h)
  rw [e1] at ex
  obtain rfl := Option.some.inj ex
  exact ⟨F1, I, Same.refl F1, r1.mono s⟩
def rangeD (lo : Int) (n : Nat) : List Dt := (List.range n).map fun i => Dt.int (lo + (i : Nat))
theorem yl_range {K : PySem.W.Frag} {F : Hp} {lo : Int} {n : Nat} : Yields K (Itr lo n) (rangeD lo n) F := fun i Z F1 H1 σ1 ρ1 I s => by
  refine ⟨fun d e => ?_, fun hl => ?_⟩
  · have hi : i < n := by
      have := (List.getElem?_eq_some_iff.mp e).1
      unfold rangeD at this
      simpa using this
    have ed : d = Dt.int (lo + (i : Nat)) := by
      unfold rangeD at e
      rw [List.getElem?_map, List.getElem?_range hi] at e
      exact (Option.some.inj e).symm
    subst ed
    refine ⟨hi, fun x H2 hy => ?_⟩
    obtain ⟨rfl, rfl⟩ := hy
    exact ⟨F1, I, Same.refl F1, .int _⟩
  · show n ≤ i
    unfold rangeD at hl
    simpa using hl

/-! by values -/
def ItV (X : Cx) (tg : Expr) (r : V → Hp → (It → Hp → Prop) → Prop) : Prop := ∀ (pins : List (Addr × Obj)) (s : Shared) (σ : St) (H : Hp) (v : V) (u : Value) (R : It → Hp → Prop), Inv X pins σ H s → RelV v u → r v H R →
  wpAny (model X.prog X.w) X.A (pyIter u) (PIE X pins σ tg R) X.xe s
theorem ItV.pi {X : Cx} {tg e : Expr} {te : TE} {r : V → Hp → (It → Hp → Prop) → Prop} (h : ItV X tg r) (he : PE X e te) : PI X tg e (fun σ H R => te σ H fun v H1 => r v H1 R) :=
  ⟨fun pins s σ H R I q => thn (he.run pins s σ H _ I q) fun u s1 ⟨v, H1, I1, r1, q1⟩ => h pins s1 σ H1 v u R I1 r1 q1⟩
theorem ItV.or {X : Cx} {tg : Expr} {r r' : V → Hp → (It → Hp → Prop) → Prop} (h : ItV X tg r) (h' : ItV X tg r') : ItV X tg (fun v H R => r v H R ∨ r' v H R) := fun pins s σ H v u R I rv q => by
  rcases q with q | q
  · exact h pins s σ H v u R I rv q
  · exact h' pins s σ H v u R I rv q
theorem iv_list {X : Cx} {tg : Expr} : ItV X tg (fun v H R => ∃ a, v = .ref a ∧ (∃ xs, SqL X.K H a xs) ∧ R (Itl X.K a) H) := fun pins s1 σ H1 v u R I1 r1 ⟨a, e, ⟨xs, hq⟩, q⟩ => by
  subst e
  cases r1
  obtain ⟨its, rv, p, hz⟩ := I1.list hq
  refine wpAny_pyIter_list p.isList ?_
  refine ⟨s1.heap.objs.size, [s1.heap.objs.size], _, _, H1, rfl, I1.kept (t' := s1.toks) fun b o e => Heap.get?_push_of_some _ e, turn_list a _, ⟨_, Heap.get?_push_size _ rfl, rfl, rfl⟩, fun b hb => ?_, q⟩
  have e : b = s1.heap.objs.size := by simpa using hb
  subst e
  exact I1.fpOk (Nat.le_refl _) (I1.hok.fresh (Nat.le_refl _))
theorem iv_tup {X : Cx} {tg : Expr} : ItV X tg (fun v H R => ∃ a, v = .ref a ∧ (∃ xs, SqT X.K H a xs) ∧ R (Itt X.K a) H) := fun pins s1 σ H1 v u R I1 r1 ⟨a, e, ⟨xs, hq⟩, q⟩ => by
  subst e
  cases r1
  obtain ⟨its, rv, p, hz⟩ := I1.tuple hq
  refine wpAny_pyIter_tuple (show s1.heap.IsTuple a its.toArray from p) ?_
  refine ⟨s1.heap.objs.size, [s1.heap.objs.size], _, _, H1, rfl, I1.kept (t' := s1.toks) fun b o e => Heap.get?_push_of_some _ e, turn_tuple a _, ⟨_, Heap.get?_push_size _ rfl, rfl, rfl⟩, fun b hb => ?_, q⟩
  have e : b = s1.heap.objs.size := by simpa using hb
  subst e
  exact I1.fpOk (Nat.le_refl _) (I1.hok.fresh (Nat.le_refl _))
theorem iv_str {X : Cx} {tg : Expr} : ItV X tg (fun v H R => ∃ x, v = .str x ∧ R (Its x) H) := fun pins s1 σ H1 v u R I1 r1 ⟨x, ex, q⟩ => by
  subst ex
  obtain ⟨t, rfl⟩ := r1
  cases ha : x.cps.all (· < 128)
  · exact wpAny_pyIter_wide ha (pi_one (tk := s1.toks) I1 _ (turn_str _ x t "str_iterator" (.inr rfl)) ⟨_, Heap.get?_push_size _ rfl, rfl, rfl⟩ q)
  · exact wpAny_pyIter_ascii ha (pi_one (tk := s1.toks) I1 _ (turn_str _ x t "str_ascii_iterator" (.inl rfl)) ⟨_, Heap.get?_push_size _ rfl, rfl, rfl⟩ q)
def chars (l : List Nat) : List Dt := l.map fun c => Dt.str [c]
theorem one_line : (1 : Nat) ≤ sizeLine := by decide
theorem yl_str {K : PySem.W.Frag} {F : Hp} {l : List Nat} : Yields K (Its ⟨l.toArray⟩) (chars l) F := fun i Z F1 H1 σ1 ρ1 I s => by
  refine ⟨fun d e => ?_, fun hl => ?_⟩
  · have hi : i < l.length := by
      have := (List.getElem?_eq_some_iff.mp e).1
      unfold chars at this
      simpa using this
    have ed : d = Dt.str [l[i]] := by
      unfold chars at e
      rw [List.getElem?_map, List.getElem?_eq_getElem hi] at e
      exact (Option.some.inj e).symm
    subst ed
    refine ⟨by show i < l.toArray.size; simpa using hi, fun x H2 hy => ?_⟩
    obtain ⟨rfl, c, hc, rfl⟩ := hy
    have ec : c = l[i] := by
      have hc' : l.toArray[i]? = some c := hc
      rw [List.getElem?_toArray, List.getElem?_eq_getElem hi] at hc'
      exact (Option.some.inj hc').symm
    subst ec
    exact ⟨F1, I, Same.refl F1, .str [l[i]] one_line⟩
  · show l.toArray.size ≤ i
    unfold chars at hl
    simpa using hl
/-- what a list, a tuple, a text yield -/
def items : Dt → Option (List Dt)
  | .tup ds => some ds
  | .lst ds => some ds
  | .scr ds => some ds
  | .str l => some (chars l)
  | _ => none
abbrev rIt (K : PySem.W.Frag) : V → Hp → (It → Hp → Prop) → Prop := fun v H R => (∃ a, v = .ref a ∧ (∃ xs, SqL K H a xs) ∧ R (Itl K a) H) ∨ (∃ a, v = .ref a ∧ (∃ xs, SqT K H a xs) ∧ R (Itt K a) H) ∨ ∃ x, v = .str x ∧ R (Its x) H
theorem iv_any {X : Cx} {tg : Expr} : ItV X tg (rIt X.K) := iv_list.or (iv_tup.or iv_str)

section
variable {X : Cx} {Z : Fm} {W : WX} {tg e a b : Expr} {me ma mb : DT} {pos p : Pos}
def diAny (a : DT) : DI' := fun ρ R U => a ρ (fun x ρ1 => match items x with
  | some ds => R ds ρ1
  | none => False) U
theorem di_any (ha : DE X Z W e me) : DIt X Z W tg e (diAny me) := PI.imp (iv_any.pi ha) fun σ H Q ⟨F, ρ, R, U, I, hm, q, u⟩ => by
  refine ⟨F, ρ, _, U, I, hm, fun x ρ1 v F1 H1 I1 s1 r1 h1 => ?_, u⟩
  cases r1 with
  | tup h r => exact .inr (.inl ⟨_, rfl, ⟨_, sameT I1.fh h⟩, q _ ρ1 _ F1 H1 I1 s1 (yl_tup h r) h1⟩)
  | lst h r => exact .inl ⟨_, rfl, ⟨_, SqL.of (I1.fh _ _ h)⟩, q _ ρ1 _ F1 H1 I1 s1 (yl_list (SqL.of h) r) h1⟩
  | scr h r => exact .inl ⟨_, rfl, ⟨_, I1.fh.seq h⟩, q _ ρ1 _ F1 H1 I1 s1 (yl_list h r) h1⟩
  | str l h => exact .inr (.inr ⟨_, rfl, q _ ρ1 _ F1 H1 I1 s1 yl_str h1⟩)
  | _ => exact h1.elim
def diRng1 (a : DT) : DI' := fun ρ R U => a ρ (fun x ρ1 => match x with
  | .int j => -(2 ^ 62) ≤ j ∧ j < 2 ^ 62 ∧ R (rangeD 0 j.toNat) ρ1
  | _ => False) U
def diRng2 (a b : DT) : DI' := fun ρ R U => a ρ (fun x ρ1 => b ρ1 (fun y ρ2 => match x, y with
  | .int i, .int j => (-(2 ^ 62) ≤ i ∧ i < 2 ^ 62 ∧ -(2 ^ 62) ≤ j ∧ j < 2 ^ 62) ∧ R (rangeD i (j - i).toNat) ρ2
  | _, _ => False) U) U
theorem di_range1 (hm : X.mg "range" = none) (ha : DE X Z W a ma) (hg : Gl X "range" := by rfl) (hs : starEach [a] X.env = [(false, eval a X.env)] := by rfl) : DIt X Z W tg (.Call (.Name "range" p) [a] [] pos) (diRng1 ma) :=
  PI.imp (pi_range1 hg hm (pa_cons ha pa_nil hs) hs) fun σ H Q ⟨F, ρ, R, U, I, hm, q, u⟩ => by
    refine ⟨F, ρ, _, U, I, hm, fun x ρ1 v F1 H1 I1 s1 r1 h1 => ?_, u⟩
    cases r1 with
    | int j => exact ⟨j, rfl, h1.1, h1.2.1, q _ ρ1 _ F1 H1 I1 s1 yl_range h1.2.2⟩
    | _ => exact h1.elim
end
end DL

namespace DL
open PyProof.Rows hiding St
open PySem PySem.Spec L2

/-! ### comprehensions -/
abbrev WF : WX := fun _ _ _ _ => False
def wipeD (ρ : En) : List Nat → En
  | [] => ρ
  | v :: vs => (wipeD ρ vs).set v .no
/-- the slots vs as they were, where they held data -/
def back (ρ0 ρ : En) : List Nat → En
  | [] => ρ
  | v :: vs => (back ρ0 ρ vs).set v (match ρ0[v]? with
    | some (.dat d) => .dat d
    | _ => .no)
section
variable {K : PySem.W.Frag} {Z : Fm} {F H : Hp} {σ : St} {ρ ρ0 : En}
theorem DI.wipe (I : DI K Z F H σ ρ) : ∀ vs : List Nat, DI K Z F H (wipe σ vs) (wipeD ρ vs)
  | [] => I
  | v :: vs => (DI.wipe I vs).setNo v
theorem wipe_get {σ : St} {i : Nat} : ∀ {vs : List Nat}, i ∉ vs → (L2.wipe σ vs)[i]? = σ[i]?
  | [], _ => rfl
  | v :: vs, h => by
    show ((L2.wipe σ vs).set v none)[i]? = _
    rw [List.getElem?_set, if_neg (fun z => h (by rw [z]; exact List.mem_cons_self)), wipe_get fun z => h (List.mem_cons_of_mem _ z)]
theorem agr_wipe {σ σ' : St} {ts vs : List Nat} (a : Agr ts σ σ') (h : ∀ i ∈ ts, i ∈ vs) : L2.wipe σ' vs = L2.wipe σ vs := by
  apply List.ext_getElem?
  intro i
  have aux : ∀ (τ : St) (vs : List Nat), i ∈ vs → (L2.wipe τ vs)[i]? = if i < τ.length then some none else none := by
    intro τ vs
    induction vs with
    | nil => intro h; cases h
    | cons v vs ih =>
      intro h
      show ((L2.wipe τ vs).set v none)[i]? = _
      rw [List.getElem?_set]
      by_cases e : v = i
      · rw [if_pos e, L2.wipe_length, e]
      · rw [if_neg e]
        rcases List.mem_cons.mp h with z | z
        · exact absurd z.symm e
        · exact ih z
  by_cases hv : i ∈ vs
  · rw [aux σ' vs hv, aux σ vs hv, a.1]
  · rw [wipe_get hv, wipe_get hv]
    exact a.2 i fun z => hv (h i z)
/-- behind the block: the outer values of its names are there again -/
theorem DI.back {F0 H0 : Hp} (I0 : DI K Z F0 H0 σ ρ0) (s : Same F0 F) : ∀ (vs : List Nat), DI K Z F H (L2.wipe σ vs) ρ → (∀ v ∈ vs, ρ[v]? = some .no ∨ ρ[v]? = none) → DI K Z F H σ (back ρ0 ρ vs)
  | [], I, _ => I
  | v :: vs, I, hno => by
    -- the names but v
    have hl : (L2.wipe σ vs).length = σ.length := L2.wipe_length σ vs
    have I1 : DI K Z F H (L2.wipe σ vs) ρ := by
      refine { I with len := ?_, sl := fun i x e => ?_ }
      · rw [hl]
        have := I.len
        rw [L2.wipe_length] at this
        exact this
      · by_cases z : i = v
        · subst z
          rcases hno i List.mem_cons_self with y | y
          · rw [y] at e
            obtain rfl := Option.some.inj e
            have hi : i < ρ.length := (List.getElem?_eq_some_iff.mp y).1
            have : i < (L2.wipe σ vs).length := by
              rw [hl]
              have := I.len
              rw [L2.wipe_length] at this
              omega
            exact ⟨_, List.getElem?_eq_getElem this, trivial⟩
          · rw [y] at e
            cases e
        · obtain ⟨ov, e1, r⟩ := I.sl i x e
          have e1' : ((L2.wipe σ vs).set v none)[i]? = some ov := e1
          rw [List.getElem?_set, if_neg fun y => z y.symm] at e1'
          exact ⟨ov, e1', r⟩
    have I2 := DI.back I0 s vs I1 fun u hu => hno u (List.mem_cons_of_mem _ hu)
    show DI K Z F H σ ((DL.back ρ0 ρ vs).set v _)
    cases q : ρ0[v]? with
    | none => exact I2.forget v
    | some x =>
      cases x with
      | no => exact I2.forget v
      | exc q C d fs => exact I2.forget v
      | own b p o => exact I2.forget v
      | dat d =>
        obtain ⟨w, e1, r⟩ := I0.slot q
        have := I2.setDat v (r.mono s)
        rw [st_same e1] at this
        exact this
end

/-- the elements made, one by one -/
def compL (g : DG) (t : DB) (e : DT) (vs : List Nat) : List Dt → List Dt → En → (List Dt → En → Prop) → Prop
  | [], acc, ρ, R => R acc ρ
  | d :: ds, acc, ρ, R => g d ρ (fun ρ1 => t ρ1 (fun k ρ2 => if k = true then e ρ2 (fun x ρ3 => compL g t e vs ds (acc ++ [x]) (wipeD ρ3 vs) R) (fun _ _ => False) else compL g t e vs ds acc (wipeD ρ2 vs) R) (fun _ _ => False))
def dComp (vs : List Nat) (it : DI') (g : DG) (t : DB) (e : DT) : DO := fun ρ R U => it ρ (fun ds ρ1 => ds.length ≤ sizeLine ∧ compL g t e vs ds [] (wipeD ρ1 vs) (fun acc ρ2 => R (.lst acc) (back ρ1 ρ2 vs))) U
def dYes : DB := fun ρ R _ => R true ρ
theorem wipeD_no (ρ : En) : ∀ (vs : List Nat) (v : Nat), v ∈ vs → (wipeD ρ vs)[v]? = some .no ∨ (wipeD ρ vs)[v]? = none
  | u :: vs, v, h => by
    show ((wipeD ρ vs).set u .no)[v]? = some .no ∨ ((wipeD ρ vs).set u .no)[v]? = none
    rw [List.getElem?_set]
    by_cases e : u = v
    · rw [if_pos e]
      by_cases hl : v < (wipeD ρ vs).length
      · rw [if_pos (by rw [e]; exact hl)]
        exact .inl rfl
      · rw [if_neg (by rw [e]; exact hl)]
        exact .inr rfl
    · rw [if_neg e]
      rcases List.mem_cons.mp h with z | z
      · exact absurd z.symm e
      · exact wipeD_no ρ vs v z
section
variable {X : Cx} {Z : Fm} {W : WX} {elt tg iter : Expr} {ifs : List Expr} {scope : Scope} {own : List (Str × Nat)} {pos : Pos} {mi : DI'} {ts : List Nat} {g : DG} {tt : DB} {me : DT}
abbrev Blk (X : Cx) (s : Shared) (H : Hp) (scope : Scope) (C : Addr) (cl : List (Str × Addr)) (fp : List Addr) : Cx := X.blk s H scope (compEnvC scope cl C X.env) fp
def DTsI (X : Cx) (Z : Fm) (W : WX) (ifs : List Expr) (m : DB) : Prop := PTs X ifs (tT X.K Z W m)
theorem PTs.imp {X : Cx} {e : List Expr} {t t' : TT} (h : PTs X e t) (i : ∀ σ H Q, t' σ H Q → t σ H Q) : PTs X e t' := ⟨fun pins s σ H Q I q => h.run pins s σ H Q I (i σ H Q q)⟩
theorem ti_nil : DTsI X Z W [] dYes := PTs.imp pts_nil fun σ H Q ⟨F, ρ, R, U, I, hm, q, u⟩ => q true ρ F H I (Same.refl F) hm
theorem PX.f {K : PySem.W.Frag} {Z : Fm} {F : Hp} {σ : St} : PX K Z WF F σ (fun _ _ => False) := fun _ _ _ _ _ _ _ _ h => h
/-- the reading of a block's pieces, whatever is pinned -/
def tGP (K : PySem.W.Frag) (Z : Fm) (ts : List Nat) (g : DG) : TG := fun v σ H Q => ∃ P, tG K { Z with P := P } ts g v σ H Q
def tTP (K : PySem.W.Frag) (Z : Fm) (m : DB) : TT := fun σ H Q => ∃ P, tT K { Z with P := P } WF m σ H Q
def tEP (K : PySem.W.Frag) (Z : Fm) (m : DT) : TE := fun σ H Q => ∃ P, tE K { Z with P := P } WF m σ H Q
theorem pg_P {X : Cx} {Z : Fm} {e : Expr} {ts : List Nat} {g : DG} (h : ∀ P : Hp, DGt X { Z with P := P } e ts g) : PG X e (tGP X.K Z ts g) := ⟨fun pins s σ H v u Q I r ⟨P, q⟩ => (h P).run pins s σ H v u Q I r q⟩
theorem pt_P {X : Cx} {Z : Fm} {e : List Expr} {m : DB} (h : ∀ P : Hp, DTsI X { Z with P := P } WF e m) : PTs X e (tTP X.K Z m) := ⟨fun pins s σ H Q I ⟨P, q⟩ => (h P).run pins s σ H Q I q⟩
theorem pe_P {X : Cx} {Z : Fm} {e : Expr} {m : DT} (h : ∀ P : Hp, DE X { Z with P := P } WF e m) : PE X e (tEP X.K Z m) := ⟨fun pins s σ H Q I ⟨P, q⟩ => (h P).run pins s σ H Q I q⟩
theorem comp_in {vs : List Nat} (hts : ∀ i ∈ ts, i ∈ vs) (σ : St) (H : Hp) (Q : VK) (h : tO X.K Z W (dComp vs mi g tt me) σ H Q) :
    tLc (tI X.K Z W mi) (tGP X.K Z ts g) (tTP X.K Z tt) (tEP X.K Z me) vs σ H Q := by
  obtain ⟨F, ρ, R, U, I, hm, q, u⟩ := h
  refine ⟨F, ρ, _, U, I, hm, fun ds ρ1 J F1 H1 I1 s1 y h1 => ?_, u⟩
  obtain ⟨hlen, h1⟩ := h1
  intro D nD
  -- the state between turns
  refine ⟨fun i m H2 => i + m = ds.length ∧ ∃ F2 ρ2 acc accv, DI X.K { Z with P := upd Z.P D (.lst accv) } F2 H2 (L2.wipe σ vs) ρ2 ∧ Same F1 F2 ∧ Reps X.K F2 accv acc ∧ acc.length ≤ i ∧ (∀ v ∈ vs, ρ2[v]? = some .no ∨ ρ2[v]? = none) ∧
      compL g tt me vs (ds.drop i) acc ρ2 (fun acc ρ2 => R (.lst acc) (DL.back ρ1 ρ2 vs)), ⟨ds.length, by omega, F1, wipeD ρ1 vs, [], [], ?_, Same.refl F1, .nil, Nat.zero_le _, fun v hv => wipeD_no ρ1 vs v hv, h1⟩, fun i m H2 hW => ?_⟩
  · have Iw := I1.wipe vs
    exact (Iw.freshO (ho := .lst []) nD).pinned (Iw.newAt nD (.lst .nil)) upd_same
  · obtain ⟨em, F2, ρ2, acc, accv, I2, s2, ra, hal, hno, h2⟩ := hW
    obtain ⟨yg, ys⟩ := y i _ F2 H2 _ ρ2 I2 s2
    by_cases hl : i < ds.length
    · refine .inr ?_
      obtain ⟨go, yl⟩ := yg ds[i] (List.getElem?_eq_getElem hl)
      refine ⟨go, fun H' => ∃ F3 ρ3 acc' accv', DI X.K { Z with P := upd Z.P D (.lst accv') } F3 H' (L2.wipe σ vs) ρ3 ∧ Same F1 F3 ∧ Reps X.K F3 accv' acc' ∧ acc'.length ≤ i + 1 ∧ (∀ v ∈ vs, ρ3[v]? = some .no ∨ ρ3[v]? = none) ∧
        compL g tt me vs (ds.drop (i + 1)) acc' ρ3 (fun acc ρ2 => R (.lst acc) (DL.back ρ1 ρ2 vs)), fun H' ⟨F3, ρ3, acc', accv', I3, s3, r3, l3, n3, h3⟩ => ⟨m - 1, by omega, by omega, F3, ρ3, acc', accv', I3, s3, r3, l3, n3, h3⟩, fun x H' hy => ?_⟩
      obtain ⟨F3, I3, s3, rx⟩ := yl x H' hy
      rw [List.drop_eq_getElem_cons hl] at h2
      refine ⟨_, F3, ρ2, ds[i], _, I3, rx, h2, fun ρ4 σ4 F4 H4 I4 s4 a4 h4 => ⟨agr_wipe_wipe a4 hts, ?_⟩⟩
      refine ⟨_, F4, ρ4, _, _, I4, h4, fun k ρ5 F5 H5 I5 s5 h5 => ?_, PX.f⟩
      have s15 : Same F1 F5 := s2.trans (s3.trans (s4.trans s5))
      have s25 : Same F2 F5 := s3.trans (s4.trans s5)
      cases k with
      | false =>
        refine iteF ⟨F5, wipeD ρ5 vs, acc, accv, ?_, s15, ra.mono s25, Nat.le_succ_of_le hal, fun v hv => wipeD_no ρ5 vs v hv, h5⟩
        have := I5.wipe vs
        rw [agr_wipe_wipe a4 hts] at this
        exact this
      | true =>
        refine iteT ⟨_, F5, ρ5, _, _, I5, h5, fun z ρ6 v6 F6 H6 I6 s6 r6 h6 => ⟨accv, (I6.pin D _ upd_same).1, ?_, F6, wipeD ρ6 vs, acc ++ [z], accv ++ [v6], ?_, s15.trans s6, (ra.mono (s25.trans s6)).app (.cons r6 .nil), ?_, fun v hv => wipeD_no ρ6 vs v hv, h6⟩, PX.f⟩
        · rw [ra.length]
          omega
        · have := (I6.rewrite (ho' := .lst (accv ++ [v6]))).wipe vs
          rw [agr_wipe_wipe a4 hts] at this
          exact this
        · rw [List.length_append, List.length_singleton]
          omega
    · refine .inl ⟨ys (by omega), ?_⟩
      rw [List.drop_eq_nil_of_le (by omega)] at h2
      have pD := I2.pin D _ upd_same
      have nP : Z.P D = none := (I1.freeP nD)
      have Iz : DI X.K Z F2 H2 (L2.wipe σ vs) ρ2 := I2.unpin (P' := upd Z.P D (.lst accv)) fun a uo e => by
        rw [upd_ne (fun z => by rw [z, nP] at e; cases e)]
        exact e
      have Ib := DI.back I1 s2 vs Iz hno
      refine q _ _ D F2 H2 Ib (s1.trans s2) ⟨pD.2.1, ⟨_, pD.1, .lst ra⟩, pD.2.2.2, pD.2.2.1, nP, fun j b p o e z => ?_⟩ h2
      subst z
      -- own slots of the result are own slots of ρ2
      have : ∀ (vs : List Nat), (DL.back ρ1 ρ2 vs)[j]? = some (.own b p o) → ρ2[j]? = some (.own b p o) := by
        intro vs
        induction vs with
        | nil => exact fun e => e
        | cons v vs ih =>
          intro e
          have e' : ((DL.back ρ1 ρ2 vs).set v _)[j]? = some (.own b p o) := e
          rcases get_set e' with ⟨_, _, y⟩ | ⟨_, y⟩
          · split at y <;> cases y
          · exact ih y
      have e2 := I2.ownP j b p o (this vs e)
      have e3 : upd Z.P p (.lst accv) p = none := e2
      rw [upd_same] at e3
      cases e3
where
  agr_wipe_wipe {σ σ' : St} {ts vs : List Nat} (a : Agr ts (L2.wipe σ vs) σ') (h : ∀ i ∈ ts, i ∈ vs) : L2.wipe σ' vs = L2.wipe σ vs := by
    rw [agr_wipe a h]
    apply List.ext_getElem?
    intro i
    by_cases hv : i ∈ vs
    · have aux : ∀ (τ : St) (vs : List Nat), i ∈ vs → (L2.wipe τ vs)[i]? = if i < τ.length then some none else none := by
        intro τ vs
        induction vs with
        | nil => intro h; cases h
        | cons v vs ih =>
          intro h
          show ((L2.wipe τ vs).set v none)[i]? = _
          rw [List.getElem?_set]
          by_cases e : v = i
          · rw [if_pos e, L2.wipe_length, e]
          · rw [if_neg e]
            rcases List.mem_cons.mp h with z | z
            · exact absurd z.symm e
            · exact ih z
      rw [aux _ vs hv, aux _ vs hv, L2.wipe_length]
    · rw [wipe_get hv]
theorem d_comp (hc : X.calm = true) (hN : X.N.Nodup) (hi : DIt X Z W tg iter mi) (ok : BlkOk X.N X.env.scope scope own) (hts : ∀ i ∈ ts, i ∈ own.map (·.2))
    (hg : ∀ (s : Shared) (H : Hp) (C : Addr) (cl : List (Str × Addr)) (fp : List Addr) (P : Hp), DGt (Blk X s H scope C cl fp) { Z with P := P } tg ts g) (ht : ∀ (s : Shared) (H : Hp) (C : Addr) (cl : List (Str × Addr)) (fp : List Addr) (P : Hp), DTsI (Blk X s H scope C cl fp) { Z with P := P } WF ifs tt)
    (he : ∀ (s : Shared) (H : Hp) (C : Addr) (cl : List (Str × Addr)) (fp : List Addr) (P : Hp), DE (Blk X s H scope C cl fp) { Z with P := P } WF elt me) (hs : ∀ x, foldedSetIterable iter X.env x = pure x := by intro _; rfl) :
    DOk X Z W (.ListComp elt [⟨tg, iter, ifs, 0⟩] scope pos) (dComp (own.map (·.2)) mi g tt me) :=
  PE.imp (pe_lc hc hN hi ok (fun s H C cl fp => pg_P (Z := Z) (hg s H C cl fp)) (fun s H C cl fp => pt_P (Z := Z) (ht s H C cl fp)) (fun s H C cl fp => pe_P (Z := Z) (he s H C cl fp)) hs) (comp_in hts)
end
end DL

namespace DL
open PyProof.Rows hiding St
open PySem PySem.Spec L2

/-! ### a def's promise over data: its arguments, what it hands back with the lent objects as they then are, what it raises -/
/-! ### a def that keeps its promise where no repr is under way -/
theorem fn_ofG {P : Program} {w : World} {K : PySem.W.Frag} {mg : Str → Option Value} {base : Heap} {k : Nat} {f : Addr} {name qual : Str} {params : Arguments} {body : List Stmt} {scope : Scope} {dV kV doc pm cdv ct oc : Value} {an od : Option Addr}
    {osl : Array (Option Value)} {N ps : List Str} {sp : Sp} (lk : K.lookup f = some ⟨oc, od, .func (PySem.W.fnOf name qual params body scope dV kV doc pm an cdv ct), osl⟩) (hcd : PySem.W.codeIn K cdv qual = true) (S : FnScope N ps scope)
    (len : ∀ vs H Q E, sp vs H Q E → vs.length = ps.length)
    (hbody : ∀ (A : Around) (outer : List Env) (s : Shared) (H : Hp) (vs : List V) (Q : VK) (E : XK), Room k (A.deeper (envOfC qual scope s.heap.objs.size f cdv)) → (A.deeper (envOfC qual scope s.heap.objs.size f cdv)).guards = some [] → sp vs H Q E →
      ∃ t, PSs (cxOf (L2.CX P w) P w K mg base N qual scope f cdv A outer s H E) body t ∧ t { nx := fun _ H' => Q .non H', rt := Q } (L2.start N vs) H) :
    FnG P w K mg base (k + 1) f (PySem.W.fnOf name qual params body scope dV kV doc pm an cdv ct) ps sp := by
  refine ⟨len, fun A outer s H args us vs Q E hr hgd e0 hb r hsp => ?_⟩
  have hl := len _ _ _ _ hsp
  have KX : K.In s.heap := e0.mod.kin.keeps fun b o e => (e0.bs b o e).1
  have lim : s.heap.NoLimit := e0.mod.nolimit.keeps fun b o e => (e0.bs b o e).1
  have hkind : ∀ y ∈ ps.zip us, scope.names.lookup y.1 = some .local ∨ (scope.names.lookup y.1 = some .cell ∧ ((cellsFrom (s.heap.objs.size + 1) scope.names []).lookup y.1).isSome = true) := fun ⟨n, v⟩ hy => by
    rcases S.par n (List.of_mem_zip hy).1 with q | q
    · exact .inl q
    · exact .inr ⟨q, PySem.W.cellsFrom_some _ _ _ (.inl q)⟩
  refine codeAny_call_function hr.depth (KX _ _ lk) rfl S.co S.gen rfl (PySem.W.codeRec_of KX hcd) (hb _ _ _ _ ?_)
  refine wpAny_newFunctionEnv_cells S.kind hkind fun env he s1 x => ?_
  subst he
  refine ⟨lim.keeps x.toInCall.keep, codeAny_func ?_⟩
  obtain ⟨t, ht, hq⟩ := hbody A outer s H vs Q E (hr.deeper _) hgd hsp
  have I : Inv (cxOf (L2.CX P w) P w K mg base N qual scope f cdv A outer s H E) [] (L2.start N vs) H s1 := inv_start S hr.hd e0 hl r x
  refine wpAny_mono (ht.run [] s1 (L2.start N vs) H _ I hq) (fun fl s' hs => ?_) fun e s' hs => hs
  have fin : ∀ {σ' : St} {H' : Hp} {v : V} {u : Value}, Inv (cxOf (L2.CX P w) P w K mg base N qual scope f cdv A outer s H E) [] σ' H' s' → RelV v u → Q v H' → CE outer P w H s Q u s' :=
    fun {σ' H' v u} J rv q => ⟨v, H', J.os, J.bare, J.base, J.hok, rv, q⟩
  cases fl with
  | ret u =>
    obtain ⟨v, σ', H', J, rv, q⟩ := hs
    exact fin J rv q
  | next =>
    obtain ⟨σ', H', J, q⟩ := hs
    exact fin (v := V.non) (u := Value.none) J rfl q
  | brk =>
    obtain ⟨_, _, _, q⟩ := hs
    exact False.elim q
  | cont =>
    obtain ⟨_, _, _, q⟩ := hs
    exact False.elim q
section
variable {X : Cx} {k : Nat} {f C : Addr} {fd : FuncData} {ps : List Str} {sp : Sp} {E : XK}
theorem run_G {pins : List (Addr × Obj)} {σ : St} {H : Hp} {s : Shared} {Q : VK} {args : Args} {us : List Value} {vs : List V} (F : FnG X.prog X.w X.K X.mg X.base k f fd ps sp) (hr : Room k X.A) (hgd : X.A.guards = some []) (hb : ∀ s : Shared, X.K.In s.heap → us.length = ps.length → BindsTo s fd args (ps.zip us)) (hx : PassesAt (L2.CX X.prog X.w) X σ E)
    (I : Inv X pins σ H s) (r : Vals vs us) (h : sp vs H Q E) : wpAny (model X.prog X.w) X.A (PySem.call (.ref f) args.pos args.kw) (EP X pins σ Q) X.xe s := by
  have hl : us.length = ps.length := by rw [← r.length]; exact F.len _ _ _ _ h
  refine wpAny_call (codeAny_mono (F.run X.A X.stack s H args us vs Q E hr hgd I.env0 (hb s I.kIn hl) r h) fun r s' hq => ?_)
  cases r with
  | error e => exact hx pins H s e s' I hq
  | ok fl =>
    cases fl with
    | ret u => exact I.after hq
    | next => exact False.elim hq
    | brk => exact False.elim hq
    | cont => exact False.elim hq
end

/-! ### the caller -/
def dCall (s : SpD) (a : DA) : DT := fun ρ R U => a ρ (fun as ρ1 => match argsOf ρ1 as with
  | some args => s args (fun rv outs => match rv.toD with
    | some d => R d (putOuts as outs ρ1)
    | none => False) (fun x outs => U x (putOuts as outs ρ1))
  | none => False) U
def dCallO (s : SpD) (a : DA) : DO := fun ρ R U => a ρ (fun as ρ1 => match argsOf ρ1 as with
  | some args => s args (fun rv outs => match rv with
    | .o o => R o (putOuts as outs ρ1)
    | .d _ => False
    | .g _ _ => False) (fun x outs => U x (putOuts as outs ρ1))
  | none => False) U

section
variable {K : PySem.W.Frag} {Z : Fm} {F H F' H' : Hp} {σ : St} {ρ : En}
/-- the arguments as data, from the arguments' evaluation -/
theorem args_rep (I : DI K Z F H σ ρ) : ∀ {as : List Ag} {vs : List V} {args : List Sl}, Paired (fun v a => AgRep K F σ v a) vs as → argsOf ρ as = some args → Paired (RepA K F H) vs args
  | [], _, _, .nil, e => by
    obtain rfl := Option.some.inj e
    exact .nil
  | .d x :: r, _, _, .cons h t, e => by
    have e' : (match argsOf ρ r with | some l => some (Sl.dat x :: l) | none => none) = some _ := e
    split at e'
    · rename_i l el
      obtain rfl := Option.some.inj e'
      exact .cons h (args_rep I t el)
    · cases e'
  | .b i :: r, _, _, .cons h t, e => by
    unfold argsOf at e
    split at e
    · rename_i b p o eo
      split at e
      · cases e
      · split at e
        · rename_i l el
          obtain rfl := Option.some.inj e
          obtain ⟨e1, fp, ho, hh, r'⟩ := I.slotO eo
          have h' : σ[i]? = some (some _) := h
          rw [h'] at e1
          have := Option.some.inj (Option.some.inj e1)
          subst this
          exact .cons ⟨rfl, fp, ho, hh, r'⟩ (args_rep I t el)
        · cases e
    · cases e
theorem mem_owns_of {as : List Ag} : ∀ {args : List Sl}, argsOf ρ as = some args → ∀ p ∈ owns args, ∃ i ∈ lent as, ∃ b o, ρ[i]? = some (.own b p o) := by
  induction as with
  | nil =>
    intro args e p hp
    obtain rfl := Option.some.inj e
    cases hp
  | cons a r ih =>
    intro args e p hp
    cases a with
    | d x =>
      have e' : (match argsOf ρ r with | some l => some (Sl.dat x :: l) | none => none) = some _ := e
      split at e'
      · rename_i l el
        obtain rfl := Option.some.inj e'
        exact ih el p hp
      · cases e'
    | b i =>
      unfold argsOf at e
      split at e
      · rename_i b q o eo
        split at e
        · cases e
        · split at e
          · rename_i l el
            obtain rfl := Option.some.inj e
            rcases List.mem_cons.mp hp with rfl | hp
            · exact ⟨i, List.mem_cons_self, b, o, eo⟩
            · obtain ⟨j, hj, c, o', e2⟩ := ih el p hp
              exact ⟨j, List.mem_cons_of_mem _ hj, c, o', e2⟩
          · cases e
      · cases e
theorem owns_nodup (I : DI K Z F H σ ρ) {as : List Ag} : ∀ {args : List Sl}, argsOf ρ as = some args → (owns args).Nodup := by
  induction as with
  | nil =>
    intro args e
    obtain rfl := Option.some.inj e
    exact List.nodup_nil
  | cons a r ih =>
    intro args e
    cases a with
    | d x =>
      have e' : (match argsOf ρ r with | some l => some (Sl.dat x :: l) | none => none) = some _ := e
      split at e'
      · rename_i l el
        obtain rfl := Option.some.inj e'
        have := ih el
        exact this
      · cases e'
    | b i =>
      unfold argsOf at e
      split at e
      · rename_i b q o eo
        split at e
        · cases e
        · rename_i nc
          split at e
          · rename_i l el
            obtain rfl := Option.some.inj e
            refine List.nodup_cons.mpr ⟨fun hm => ?_, ih el⟩
            obtain ⟨j, hj, c, o', e2⟩ := mem_owns_of el q hm
            by_cases z : i = j
            · subst z
              have : (lent r).contains i = true := List.contains_iff_mem.mpr hj
              rw [this] at nc
              cases nc
            · exact I.dis i j _ _ _ _ _ _ eo e2 z rfl
          · cases e
      · cases e
theorem DI.after (I : DI K Z F H σ ρ) {as : List Ag} {args : List Sl} {outs : List MO} (e : argsOf ρ as = some args) (A : Aft Z.T K F H (owns args) F' H') (O : Outs K F' H' (owns args) outs) : DI K Z F' H' σ (putOuts as outs ρ) := by
  have there : ∀ {B : List Addr} {outs : List MO}, Outs K F' H' B outs → ∀ p ∈ B, ∃ o, H' p = some o := fun {B outs} o => by
    induction o with
    | nil => intro p hp; cases hp
    | cons h t ih =>
      intro p hp
      rcases List.mem_cons.mp hp with rfl | hp
      · obtain ⟨_, ho, hh, _⟩ := h
        exact ⟨ho, hh⟩
      · exact ih p hp
  refine DJ.all (ρ := ρ) ?_ e O
  exact { f0 := I.f0.trans A.f0, fh := A.fh
          fnew := fun a o h => by
            rcases A.fnew a o h with ⟨o', h'⟩ | h'
            · exact I.fnew a o' h'
            · exact .inr (I.free0 h')
          keep := fun a o h => by
            rcases I.keep a o h with z | z
            · exact .inl z
            · rcases A.keep a o z with y | y
              · obtain ⟨i, _, b, o', e2⟩ := mem_owns_of e a y
                rcases I.ownB i b a o' e2 with w | w
                · exact .inl w.2
                · rw [w.2.2] at h
                  cases h
              · rcases y with ⟨t, ht, rfl⟩ | y
                · exact .inl (I.tabB t ht)
                · exact .inr y
          bor := fun b hb => by
            obtain ⟨o, h⟩ := I.bor b hb
            rcases A.keep b o h with y | ⟨t, ht, rfl⟩ | y
            · exact there O b y
            · obtain ⟨ps, h1, _⟩ := A.tab t ht
              exact ⟨_, h1⟩
            · exact ⟨o, y⟩
          len := I.len
          sl := fun i s h => by
            obtain ⟨ov, e1, r⟩ := I.sl i s h
            refine ⟨ov, e1, ?_⟩
            cases s with
            | no => exact .inl trivial
            | exc q C d fs =>
              obtain ⟨e2, z, x⟩ := r
              exact .inl ⟨e2, z, x.mono A.f0⟩
            | dat d =>
              obtain ⟨v, e2, r⟩ := r
              exact .inl ⟨v, e2, r.mono A.f0⟩
            | own b p o =>
              obtain ⟨e2, fp, ho, hh, r⟩ := r
              rcases A.keep p ho hh with y | y
              · obtain ⟨j, hj, c, o', e3⟩ := mem_owns_of e p y
                have : i = j := Classical.byContradiction fun z => I.dis i j _ _ _ _ _ _ h e3 z rfl
                subst this
                exact .inr ⟨hj, b, p, o, rfl, e2⟩
              · rcases y with ⟨t, ht, rfl⟩ | y
                · obtain ⟨ps, h1, _⟩ := I.tab t ht
                  rw [h1] at hh
                  exact absurd (Option.some.inj hh).symm ((NoTab.rep r).1 ps)
                refine .inl ⟨e2, ?_, ho, y, r.mono A.f0⟩
                cases q : F' p with
                | none => rfl
                | some u =>
                  rcases A.fnew p u q with ⟨u', z⟩ | z
                  · rw [fp] at z
                    cases z
                  · rw [hh] at z
                    cases z
          ownB := I.ownB, dis := I.dis
          pin := fun a u h => by
            obtain ⟨h1, h2, h3, h4⟩ := I.pin a u h
            rcases A.keep a u h1 with y | y
            · obtain ⟨i, _, b, o', e2⟩ := mem_owns_of e a y
              rw [I.ownP i b a o' e2] at h
              cases h
            · rcases y with ⟨t, ht, rfl⟩ | y
              · exact absurd (I.tabB t ht) h3
              refine ⟨y, ?_, h3, h4⟩
              cases q : F' a with
              | none => rfl
              | some u' =>
                rcases A.fnew a u' q with ⟨u2, z⟩ | z
                · rw [h2] at z
                  cases z
                · rw [h1] at z
                  cases z
          ownP := I.ownP, tab := A.tab, tabB := I.tabB, tabF := A.tabF }
theorem putOuts_own {as : List Ag} : ∀ {outs : List MO} {ρ : En} {i : Nat} {b : Bool} {p : Addr} {o : MO}, (putOuts as outs ρ)[i]? = some (.own b p o) → ∃ o', ρ[i]? = some (.own b p o') := by
  induction as with
  | nil =>
    intro outs ρ i b p o h
    have : putOuts [] outs ρ = ρ := by cases outs <;> rfl
    rw [this] at h
    exact ⟨o, h⟩
  | cons a r ih =>
    intro outs ρ i b p o h
    cases a with
    | d x => exact ih (outs := outs) h
    | b k =>
      cases outs with
      | nil => exact ⟨o, h⟩
      | cons o1 os =>
        obtain ⟨o', h'⟩ := ih (outs := os) h
        rcases putMO_get h' with ⟨rfl, b2, p2, o2, e2, z⟩ | z
        · injection z with z1 z2 z3
          subst z1
          subst z2
          exact ⟨o2, e2⟩
        · exact ⟨o', z⟩
theorem new_after (I : DI K Z F H σ ρ) {as : List Ag} {args : List Sl} {outs : List MO} {p : Addr} {o : MO} (A : Aft Z.T K F H (owns args) F' H') (h1 : F' p = none) (h2 : H p = none) (h3 : ∃ ho, H' p = some ho ∧ RepO K F' ho o) : NewAt K Z F' H' (putOuts as outs ρ) p o where
  fr := h1
  at_ := h3
  h0 := I.free0 h2
  nb := I.freeB h2
  np := I.freeP h2
  ne := fun i b q o' e => by
    obtain ⟨o2, e2⟩ := putOuts_own e
    obtain ⟨_, _, ho, hh, _⟩ := I.slotO e2
    exact ne_of_none hh h2
end

/-! ### arguments, positional and by name -/
theorem PK.imp {X : Cx} {e : List Keyword} {t t' : TA} (h : PK X e t) (i : ∀ σ H Q, t' σ H Q → t σ H Q) : PK X e t' := ⟨fun p pins s σ H Q I q => h.run p pins s σ H Q I (i σ H Q q)⟩
/-- so many positional ones, so many by name, in the parameters' order -/
def perm {α : Type} (g : List Nat) (l : List α) : List α := g.filterMap fun i => l[i]?
def daKw (n m : Nat) (g : List Nat) (a b : DA) : DA := fun ρ R U => a ρ (fun as ρ1 => b ρ1 (fun bs ρ2 => as.length = n ∧ bs.length = m ∧ R (perm g (as ++ bs)) ρ2) U) U
theorem Paired.append {α β : Type} {F : α → β → Prop} : ∀ {a : List α} {b : List β} {c : List α} {d : List β}, Paired F a b → Paired F c d → Paired F (a ++ c) (b ++ d)
  | _, _, _, _, .nil, h => h
  | _, _, _, _, .cons r t, h => .cons r (Paired.append t h)
theorem Paired.at {α β : Type} {F : α → β → Prop} : ∀ {a : List α} {b : List β} (i : Nat), Paired F a b → (∃ x y, a[i]? = some x ∧ b[i]? = some y ∧ F x y) ∨ (a[i]? = none ∧ b[i]? = none)
  | _, _, _, .nil => .inr ⟨rfl, rfl⟩
  | _, _, 0, .cons r _ => .inl ⟨_, _, rfl, rfl, r⟩
  | _, _, i + 1, .cons _ t => by
    rcases Paired.at i t with ⟨x, y, h1, h2, h⟩ | ⟨h1, h2⟩
    · exact .inl ⟨x, y, by simpa using h1, by simpa using h2, h⟩
    · exact .inr ⟨by simpa using h1, by simpa using h2⟩
theorem Paired.perm {α β : Type} {F : α → β → Prop} {a : List α} {b : List β} (h : Paired F a b) : ∀ g : List Nat, Paired F (DL.perm g a) (DL.perm g b)
  | [] => .nil
  | i :: g => by
    have ih := Paired.perm h g
    unfold DL.perm at ih ⊢
    rw [List.filterMap_cons, List.filterMap_cons]
    rcases Paired.at i h with ⟨x, y, h1, h2, h⟩ | ⟨h1, h2⟩
    · rw [h1, h2]
      exact .cons h ih
    · rw [h1, h2]
      exact ih
/-- how a call's arguments are evaluated: vs in the parameters' order, us the values, given as pa.1 and pa.2 -/
def Ev (X : Cx) (pos : Pos) (es : List Expr) (kws : List Keyword) (mk : List Value → Args) (Z : Fm) (W : WX) (m : DA) : Prop :=
  ∀ (fv : Value) (first : List Value) (pins : List (Addr × Obj)) (s : Shared) (σ : St) (H : Hp) (R : List V → Hp → Prop) (Q' : Value → Shared → Prop), PySem.W.keepIn X.K fv = true → Inv X pins σ H s → tAs X.K Z W m σ H R →
    (∀ us vs H1 s1, Inv X pins σ H1 s1 → Vals vs us → R vs H1 → wpAny (model X.prog X.w) X.A (PySem.call fv (first ++ (mk us).pos) (mk us).kw) Q' X.xe s1) →
    wpAny (model X.prog X.w) X.A (callWith pos fv first (backTo pos (starEach es X.env)) (backToKw pos (keywordEach kws X.env))) Q' X.xe s
section
variable {X : Cx} {Z : Fm} {W : WX} {pos : Pos} {e : Expr} {es : List Expr} {kws : List Keyword} {ma mb : DA} {ks : List Str}
theorem ev_pos (ha : DAs X Z W (e :: es) ma) (he : starEach (e :: es) X.env = (false, eval e X.env) :: starEach es X.env := by rfl) (hpl : (backTo pos (starEach es X.env)).any (·.1) = false := by rfl) : Ev X pos (e :: es) [] mkP Z W ma :=
  fun fv first pins s σ H R Q' hk I h q => PySem.W.callWith_K (h₀ := X.base) I.ok.mod.kin hk (thn (ha.run pos pins s σ H _ I h) fun us s1 ⟨vs, H1, I1, r, h1⟩ => ⟨I1.kIn, q us vs H1 s1 I1 r h1⟩) he hpl
end

/-! ### calls -/
theorem pass_of {X : Cx} {W : WX} (tk : Takes X W) : Pass X W := fun σ => passAt tk σ
theorem pass_f {X : Cx} : Pass X WF := fun σ => passAt (W := fun _ _ _ _ => False) takes0 σ
section
variable {X : Cx} {Z : Fm} {W : WX} {k : Nat} {f C : Addr} {fd : FuncData} {ps : List Str} {s : SpD} {x m : Str} {p pos apos : Pos} {e o : Expr} {es : List Expr} {kws : List Keyword} {ma : DA} {mo : DT} {un : List Value → Args}
/-- the promise, from what the caller knows -/
theorem sp_call {as : List Ag} {args : List Sl} {vs : List V} {F H : Hp} {σ : St} {ρ : En} {Q : VK} {R : Rv → En → Prop} {U : XP} (mono : Mono s) (I : DI X.K Z F H σ ρ) (ra : Paired (fun v a => AgRep X.K F σ v a) vs as) (e : argsOf ρ as = some args)
    (h : s args (fun rv outs => R rv (putOuts as outs ρ)) (fun x outs => U x (putOuts as outs ρ)))
    (q : ∀ rv ρ' v F' H', DI X.K Z F' H' σ ρ' → Same F F' → RvAt X.K Z F' H' ρ' v rv → R rv ρ' → Q v H') (u : PX X.K Z W F σ U) : spOf Z.T X.K s vs H Q (fun cls d H' => W cls d σ H') := by
  refine ⟨F, args, I.fh, args_rep I ra e, owns_nodup I e, ⟨I.tab, I.tabF⟩, mono _ _ _ _ _ (fun rv outs hr => ?_) (fun x outs hu => ?_) h⟩
  · intro v F' H' A O rv'
    have I' := I.after e A O
    refine q rv _ v F' H' I' A.f0 ?_ hr
    cases rv with
    | d d => exact rv'
    | o o =>
      obtain ⟨p, e1, h1, h2, h3⟩ := rv'
      exact ⟨p, e1, new_after I A h1 h2 h3⟩
    | g q o =>
      obtain ⟨e1, e2, h1, h2, h3⟩ := rv'
      exact ⟨e1, e2, new_after I A h1 h2 h3⟩
  · intro d F' H' A O xa
    exact u x _ F' H' d (I.after e A O) A.f0 xa hu
theorem call_in (mono : Mono s) (σ : St) (H : Hp) (Q : VK) (h : tE X.K Z W (dCall s ma) σ H Q) : tAs X.K Z W ma σ H (fun vs H1 => spOf Z.T X.K s vs H1 Q (fun cls d H' => W cls d σ H')) := by
  obtain ⟨F, ρ, R, U, I, hm, q, u⟩ := h
  refine ⟨F, ρ, _, U, I, hm, fun as ρ1 vs F1 H1 I1 s1 r1 h1 => ?_, u⟩
  try dsimp only at h1
  split at h1
  · rename_i args ea
    refine sp_call mono I1 r1 ea (R := fun rv ρ' => match rv.toD with | some d => R d ρ' | none => False) h1 (fun rv ρ' v F' H' I' s' rv' hr => ?_) (u.mono s1)
    split at hr
    · rename_i d ed
      cases rv with
      | d d' =>
        obtain rfl := Option.some.inj ed
        exact q d' ρ' v F' H' I' (s1.trans s') rv' hr
      | o o' =>
        obtain ⟨p, rfl, N⟩ := rv'
        obtain ⟨ho, I2, s2, r⟩ := I'.freeze N ed
        exact q d ρ' _ _ H' I2 (s1.trans (s'.trans s2)) r hr
      | g _ _ => first | exact hr.elim | cases ed
    · exact hr.elim
  · exact h1.elim
theorem callO_in (mono : Mono s) (σ : St) (H : Hp) (Q : VK) (h : tO X.K Z W (dCallO s ma) σ H Q) : tAs X.K Z W ma σ H (fun vs H1 => spOf Z.T X.K s vs H1 Q (fun cls d H' => W cls d σ H')) := by
  obtain ⟨F, ρ, R, U, I, hm, q, u⟩ := h
  refine ⟨F, ρ, _, U, I, hm, fun as ρ1 vs F1 H1 I1 s1 r1 h1 => ?_, u⟩
  try dsimp only at h1
  split at h1
  · rename_i args ea
    refine sp_call mono I1 r1 ea (R := fun rv ρ' => match rv with | .o o => R o ρ' | .d _ => False | .g _ _ => False) h1 (fun rv ρ' v F' H' I' s' rv' hr => ?_) (u.mono s1)
    cases rv with
    | d d' => exact hr.elim
    | o o' =>
      obtain ⟨p, rfl, N⟩ := rv'
      exact q o' ρ' p F' H' I' (s1.trans s') N hr
    | g _ _ => first | exact hr.elim | cases ed
  · exact h1.elim
theorem d_callG {t : TE} (hr : Room k X.A) (hgd : X.A.guards = some []) (D : Fd Z.T X.prog X.w X.K X.mg X.base k f ps fd s) (hm : X.mg x = some (.ref f)) (hb : BindK X.K fd ps un) (hx : Pass X W) (ev : Ev X pos es kws un Z W ma)
    (ht : ∀ σ H Q, t σ H Q → tAs X.K Z W ma σ H (fun vs H1 => spOf Z.T X.K s vs H1 Q (fun cls d H' => W cls d σ H'))) (hg : Gl X x) (hdb : (x == ("__debug__" : Str)) = false) : PE X (.Call (.Name x p) es kws pos) t := by
  refine ⟨fun pins s σ H Q I h => ?_⟩
  refine wpAny_Call_Name_kw (ld_glob I hg hm ?_ hdb)
  refine ev (.ref f) [] pins s σ H _ _ D.kp I (ht σ H Q h) fun us vs H1 s1 I1 r h1 => ?_
  exact run_G (args := un us) D.ok hr hgd (fun s Ks hl => hb s us Ks hl) (hx σ) I1 r h1
theorem d_call (hr : Room k X.A) (hgd : X.A.guards = some []) (D : Fd Z.T X.prog X.w X.K X.mg X.base k f ps fd s) (hm : X.mg x = some (.ref f)) (hb : BindK X.K fd ps un) (hx : Pass X W) (ev : Ev X pos es kws un Z W ma) (hg : Gl X x := by rfl) (hdb : (x == ("__debug__" : Str)) = false := by decide) :
    DE X Z W (.Call (.Name x p) es kws pos) (dCall s ma) := d_callG hr hgd D hm hb hx ev (call_in D.mono) hg hdb
theorem d_callO (hr : Room k X.A) (hgd : X.A.guards = some []) (D : Fd Z.T X.prog X.w X.K X.mg X.base k f ps fd s) (hm : X.mg x = some (.ref f)) (hb : BindK X.K fd ps un) (hx : Pass X W) (ev : Ev X pos es kws un Z W ma) (hg : Gl X x := by rfl) (hdb : (x == ("__debug__" : Str)) = false := by decide) :
    DOk X Z W (.Call (.Name x p) es kws pos) (dCallO s ma) := d_callG hr hgd D hm hb hx ev (callO_in D.mono) hg hdb
/-! o.m(..), o a frozen instance of the class at C -/
def dMeth (C : Addr) (m : Str) (s : SpD) (o : DT) (a : DA) : DT := fun ρ R U => o ρ (fun x ρ0 => match x with
  | .ins C' fs => (C' = C ∧ fs.lookup m = none) ∧ a ρ0 (fun as ρ1 => match argsOf ρ1 (.d (.ins C' fs) :: as) with
    | some args => s args (fun rv outs => match rv.toD with
      | some d => R d (putOuts (.d (.ins C' fs) :: as) outs ρ1)
      | none => False) (fun y outs => U y (putOuts (.d (.ins C' fs) :: as) outs ρ1))
    | none => False) U
  | _ => False) U
/-! i.m(..), i an own instance's slot -/
/-! C(..) -/
def dMake (C : Addr) (s : SpD) (a : DA) : DO := fun ρ R U => a ρ (fun as ρ1 => match argsOf ρ1 as with
  | some args => ∀ p, p ∉ owns args → s (.own false p (.ins C []) :: args) (fun rv outs => match rv, outs with
    | .d .non, o :: outs => R o (putOuts as outs ρ1)
    | _, _ => False) (fun y outs => match outs with
    | _ :: outs => U y (putOuts as outs ρ1)
    | [] => False)
  | none => False) U
/-! o.f, a property; o a frozen instance -/
def dProp (C : Addr) (s : SpD) (o : DT) : DT := fun ρ R U => o ρ (fun x ρ0 => match x with
  | .ins C' fs => C' = C ∧ s [.dat (.ins C' fs)] (fun rv _ => match rv.toD with
    | some d => R d ρ0
    | none => False) (fun _ _ => False)
  | _ => False) U
end

/-! ### the def -/
section
variable {P : Program} {w : World} {K : PySem.W.Frag} {mg : Str → Option Value} {base : Heap} {T : List (Addr × Str)}
theorem outW_get {F H : Hp} : ∀ {args : List Sl} {ρ : En} {k : List MO → Prop}, (∀ (i : Nat) b p o, ρ[i]? = some (.own b p o) → F p = none ∧ ∃ ho, H p = some ho ∧ RepO K F ho o) → outW args ρ k → ∃ outs, k outs ∧ Outs K F H (owns args) outs
  | [], ρ, k, _, h => ⟨[], (by cases ρ <;> exact h), .nil⟩
  | .own b p o :: as, [], k, _, h => h.elim
  | .own b p o :: as, .no :: ρ, k, _, h => h.elim
  | .own b p o :: as, .dat d :: ρ, k, _, h => h.elim
  | .own b p o :: as, .exc _ _ _ _ :: ρ, k, _, h => h.elim
  | .own b p o :: as, .own c q o' :: ρ, k, hr, h => by
    obtain ⟨rfl, h⟩ := h
    obtain ⟨outs, hk, O⟩ := outW_get (args := as) (fun i b p o e => hr (i + 1) b p o (by simpa using e)) h
    exact ⟨o' :: outs, hk, .cons (hr 0 c p o' rfl) O⟩
  | .dat d :: as, [], k, _, h => h.elim
  | .dat d :: as, s :: ρ, k, hr, h => by
    obtain ⟨outs, hk, O⟩ := outW_get (args := as) (fun i b p o e => hr (i + 1) b p o (by simpa using e)) (by cases s <;> exact h)
    exact ⟨outs, hk, O⟩
  | .no :: as, [], k, _, h => h.elim
  | .no :: as, s :: ρ, k, hr, h => by
    obtain ⟨outs, hk, O⟩ := outW_get (args := as) (fun i b p o e => hr (i + 1) b p o (by simpa using e)) (by cases s <;> exact h)
    exact ⟨outs, hk, O⟩
  | .exc _ _ _ _ :: as, [], k, _, h => h.elim
  | .exc _ _ _ _ :: as, s :: ρ, k, hr, h => by
    obtain ⟨outs, hk, O⟩ := outW_get (args := as) (fun i b p o e => hr (i + 1) b p o (by simpa using e)) (by cases s <;> exact h)
    exact ⟨outs, hk, O⟩
theorem entry_get {n : Nat} {args : List Sl} {i : Nat} {s : Sl} (h : (entry n args)[i]? = some s) : (∃ t, args[i]? = some t ∧ s = lend t) ∨ s = .no := by
  unfold entry at h
  by_cases hi : i < (args.map lend).length
  · rw [List.getElem?_append_left hi, List.getElem?_map] at h
    cases e : args[i]? with
    | none => rw [e] at h; cases h
    | some t => rw [e] at h; exact .inl ⟨t, rfl, (Option.some.inj h).symm⟩
  · rw [List.getElem?_append_right (by omega), List.getElem?_replicate] at h
    split at h
    · exact .inr (Option.some.inj h).symm
    · cases h
theorem entry_own {n : Nat} {args : List Sl} {i : Nat} {b : Bool} {p : Addr} {o : MO} (h : (entry n args)[i]? = some (.own b p o)) : b = true ∧ ∃ c, args[i]? = some (.own c p o) := by
  rcases entry_get h with ⟨t, e, z⟩ | z
  · cases t with
    | no => cases z
    | dat d => cases z
    | exc q C d fs => cases z
    | own c q o' =>
      injection z with z1 z2 z3
      subst z2
      subst z3
      exact ⟨z1, c, e⟩
  · cases z
theorem mem_owns {args : List Sl} {i : Nat} {c : Bool} {p : Addr} {o : MO} (h : args[i]? = some (.own c p o)) : p ∈ owns args := by
  induction args generalizing i with
  | nil => simp at h
  | cons a r ih =>
    cases i with
    | zero =>
      obtain rfl := Option.some.inj h
      exact List.mem_cons_self
    | succ i =>
      have := ih (i := i) (by simpa using h)
      cases a with
      | own _ _ _ => exact List.mem_cons_of_mem _ this
      | no => exact this
      | dat _ => exact this
      | exc _ _ _ _ => exact this
theorem owns_dis {args : List Sl} (nd : (owns args).Nodup) {i j : Nat} {c d : Bool} {p q : Addr} {o o' : MO} (h : args[i]? = some (.own c p o)) (h' : args[j]? = some (.own d q o')) (n : i ≠ j) : p ≠ q := by
  induction args generalizing i j with
  | nil => simp at h
  | cons a r ih =>
    have key : ∀ {i j : Nat} {c d : Bool} {p q : Addr} {o o' : MO}, i = 0 → (a :: r)[i]? = some (.own c p o) → (a :: r)[j]? = some (.own d q o') → i ≠ j → p ≠ q := fun {i j c d p q o o'} i0 h h' n => by
      subst i0
      obtain rfl := Option.some.inj h
      cases j with
      | zero => exact absurd rfl n
      | succ j =>
        have hm := mem_owns (args := r) (i := j) (by simpa using h')
        have nd' : (p :: owns r).Nodup := nd
        intro z
        rw [← z] at hm
        exact (List.nodup_cons.mp nd').1 hm
    by_cases i0 : i = 0
    · exact key i0 h h' n
    · by_cases j0 : j = 0
      · exact (key j0 h' h fun z => n z.symm).symm
      · obtain ⟨i, rfl⟩ : ∃ i', i = i' + 1 := ⟨i - 1, by omega⟩
        obtain ⟨j, rfl⟩ : ∃ j', j = j' + 1 := ⟨j - 1, by omega⟩
        have nd' : (owns r).Nodup := by
          cases a with
          | own _ p _ => exact (List.nodup_cons.mp nd).2
          | no => exact nd
          | dat _ => exact nd
          | exc _ _ _ _ => exact nd
        exact ih nd' (i := i) (j := j) (by simpa using h) (by simpa using h') (by omega)
theorem di_entry {T : List (Addr × Str)} {F H : Hp} {vs : List V} {args : List Sl} {N : List Str} (sf : Same F H) (r : Paired (RepA K F H) vs args) (nd : (owns args).Nodup) (tb : LamX.Tabs T H ∧ ∀ t ∈ T, F t.1 = none) (hl : vs.length ≤ N.length) :
    DI K ⟨F, H, owns args ++ T.map (·.1), fun _ => none, T⟩ F H (L2.start N vs) (entry N.length args) := by
  have hva : vs.length = args.length := r.length
  have getA : ∀ (i : Nat) t, args[i]? = some t → ∃ v, vs[i]? = some v ∧ RepA K F H v t := by
    intro i t
    induction r generalizing i with
    | nil => intro h; simp at h
    | cons h t' ih =>
      intro e
      cases i with
      | zero =>
        obtain rfl := Option.some.inj e
        exact ⟨_, rfl, h⟩
      | succ i =>
        rename_i v0 t0 vs' as' 
        have nd' : (owns as').Nodup := by
          cases t0 with
          | own _ p _ => exact (List.nodup_cons.mp nd).2
          | no => exact nd
          | dat _ => exact nd
          | exc _ _ _ _ => exact nd
        obtain ⟨v, e1, e2⟩ := ih nd' (Nat.le_of_succ_le hl) t'.length i (by simpa using e)
        exact ⟨v, by simpa using e1, e2⟩
  refine { f0 := Same.refl F, fh := sf, fnew := fun a o e => .inl ⟨o, e⟩, keep := fun a o e => .inr e, bor := fun b hb => ?_, len := ?_, sl := fun i s e => ?_, ownB := fun i b p o e => ?_, dis := fun i j b c p o q o' e e' n => ?_, pin := fun a u e => (nomatch e), ownP := fun _ _ _ _ _ => rfl, tab := tb.1, tabB := fun t ht => List.mem_append_right _ (List.mem_map.mpr ⟨t, ht, rfl⟩), tabF := tb.2 }
  · have : ∀ {vs : List V} {as : List Sl}, Paired (RepA K F H) vs as → ∀ b ∈ owns as, ∃ o, H b = some o := fun {vs as} r => by
      induction r with
      | nil => intro b hb; cases hb
      | cons h t ih =>
        rename_i v a vs as
        intro b hb
        cases a with
        | own _ p _ =>
          rcases List.mem_cons.mp hb with rfl | hb
          · obtain ⟨_, _, ho, hh, _⟩ := h
            exact ⟨ho, hh⟩
          · exact ih b hb
        | no => exact ih b hb
        | dat _ => exact ih b hb
        | exc _ _ _ _ => exact ih b hb
    rcases List.mem_append.mp hb with hb | hb
    · exact this r b hb
    · obtain ⟨t, ht, rfl⟩ := List.mem_map.mp hb
      obtain ⟨ps, h1, _⟩ := tb.1 t ht
      exact ⟨_, h1⟩
  · unfold L2.start entry
    rw [List.length_append, List.length_append, List.length_map, List.length_map, List.length_replicate, List.length_replicate, hva]
  · have gs : ∀ v, vs[i]? = some v → (L2.start N vs)[i]? = some (some v) := fun v h => by
      unfold L2.start
      have hi : i < vs.length := (List.getElem?_eq_some_iff.mp h).1
      rw [List.getElem?_append_left (by rw [List.length_map]; exact hi), List.getElem?_map, h]
      rfl
    rcases entry_get e with ⟨t, et, rfl⟩ | rfl
    · obtain ⟨v, ev, rv⟩ := getA i t et
      refine ⟨some v, gs v ev, ?_⟩
      cases t with
      | no => trivial
      | dat d => exact ⟨v, rfl, rv⟩
      | exc q C d fs =>
        obtain ⟨rfl, z, x⟩ := rv
        exact ⟨rfl, z, x⟩
      | own c p o =>
        obtain ⟨rfl, fp, hh⟩ := rv
        exact ⟨rfl, fp, hh⟩
    · have hi : i < (L2.start N vs).length := by
        have := (List.getElem?_eq_some_iff.mp e).1
        unfold entry at this
        unfold L2.start
        rw [List.length_append, List.length_map, List.length_replicate] at this ⊢
        omega
      exact ⟨_, List.getElem?_eq_getElem hi, trivial⟩
  · obtain ⟨hb, c, e'⟩ := entry_own e
    exact .inl ⟨hb, List.mem_append_left _ (mem_owns e')⟩
  · obtain ⟨_, _, e1⟩ := entry_own e
    obtain ⟨_, _, e2⟩ := entry_own e'
    exact owns_dis nd e1 e2 n
/-- THE RULE: a def over data, by its body's reading over data -/
theorem fn_DC {x qual : Str} {params : Arguments} {body : List Stmt} {scope : Scope} {dvs : List V} {kws : List (Str × V)} {f : Addr} {fd : FuncData} {N ps : List Str} {k : Nat} {s : SpD} {m : DSt} (F : FunD K x qual params body scope dvs kws f fd) (S : FnScope N ps scope) (mono : Mono s) (hlen : ∀ args Q U, s args Q U → args.length = ps.length)
    (hbody : ∀ (cdv : Value), fd.code = cdv → ∀ (A : Around) (outer : List Env) (s : Shared) (H : Hp) (E : XK) (Z : Fm0), Room k (A.deeper (envOfC qual scope s.heap.objs.size f cdv)) → (A.deeper (envOfC qual scope s.heap.objs.size f cdv)).guards = some [] →
      DSs (cxOf (L2.CX P w) P w K mg base N qual scope f cdv A outer s H E) (Fm.of Z T) (fun cls d _ H' => E cls d H') body m)
    (math : ∀ args Q U, s args Q U → m (ends args Q U) (entry N.length args)) : Fd T P w K mg base (k + 1) f ps fd s := by
  have plen : ps.length ≤ N.length := by
    have := congrArg List.length S.pre
    rw [List.length_take] at this
    omega
  refine ⟨?_, mono, F.kp⟩
  obtain ⟨oc, od, dV, kV, doc, pm, an, cdv, ct, osl, rfl, lk, hcd, _, _⟩ := F.ex
  refine fn_ofG lk hcd S (fun vs H Q E ⟨Fz, args, sf, r, nd, tb, h⟩ => by rw [r.length]; exact hlen _ _ _ h) (fun A outer s' H vs Q E hr hgd h => ?_)
  obtain ⟨Fz, args, sf, r, nd, tb, h⟩ := h
  have hl : vs.length ≤ N.length := by
    rw [r.length, hlen _ _ _ h]
    exact plen
  refine ⟨_, hbody cdv rfl A outer s' H E ⟨Fz, H, owns args ++ T.map (·.1)⟩ hr hgd, Fz, entry N.length args, _, di_entry sf r nd tb hl, math _ _ _ h, ?_⟩
  have aft : ∀ {ρ' σ' F' H'}, DI K (Fm.of ⟨Fz, H, owns args ++ T.map (·.1)⟩ T) F' H' σ' ρ' → Aft T K Fz H (owns args) F' H' := fun {ρ' σ' F' H'} I => ⟨I.f0, I.fh, I.fnew, fun a o e => (I.keep a o e).elim (fun z => (List.mem_append.mp z).elim .inl fun z => .inr (.inl (let ⟨t, ht, e⟩ := List.mem_map.mp z; ⟨t, ht, e⟩))) fun z => .inr (.inr z), I.tab, I.tabF⟩
  have outs : ∀ {ρ' σ' F' H'} {k : List MO → Prop}, DI K (Fm.of ⟨Fz, H, owns args ++ T.map (·.1)⟩ T) F' H' σ' ρ' → outW args ρ' k → ∃ os, k os ∧ Outs K F' H' (owns args) os := fun {ρ' σ' F' H' k} I h => outW_get (k := k) (fun i b p o e => (I.slotO e).2) h
  exact { nx := fun ρ' σ' F' H' I s h => by
            obtain ⟨os, hq, O⟩ := outs I h
            exact hq _ F' H' (aft I) O .non
          rt := fun rv ρ' v σ' F' H' I s rv' h => by
            obtain ⟨os, hq, O⟩ := outs I h
            refine hq v F' H' (aft I) O ?_
            cases rv with
            | d d => exact rv'
            | o o =>
              obtain ⟨p, e, N⟩ := rv'
              exact ⟨p, e, N.fr, N.h0, N.at_⟩
            | g q o =>
              obtain ⟨e, e2, N⟩ := rv'
              exact ⟨e, e2, N.fr, N.h0, N.at_⟩
          bk := fun ρ' σ' F' H' I s h => h.elim
          ct := fun ρ' σ' F' H' I s h => h.elim
          ex := fun σ x ρ' F' H' d I s xa h => by
            obtain ⟨os, hq, O⟩ := outs I h
            exact hq d F' H' (aft I) O xa }
theorem fn_D {x qual : Str} {params : Arguments} {body : List Stmt} {scope : Scope} {dvs : List V} {kws : List (Str × V)} {f : Addr} {fd : FuncData} {N ps : List Str} {k : Nat} {s : SpD} {m : DSt} (F : FunD K x qual params body scope dvs kws f fd) (S : FnScope N ps scope) (mono : Mono s) (hlen : ∀ args Q U, s args Q U → args.length = ps.length)
    (hbody : ∀ (cdv : Value) (A : Around) (outer : List Env) (s : Shared) (H : Hp) (E : XK) (Z : Fm0), Room k (A.deeper (envOfC qual scope s.heap.objs.size f cdv)) → (A.deeper (envOfC qual scope s.heap.objs.size f cdv)).guards = some [] →
      DSs (cxOf (L2.CX P w) P w K mg base N qual scope f cdv A outer s H E) (Fm.of Z T) (fun cls d _ H' => E cls d H') body m)
    (math : ∀ args Q U, s args Q U → m (ends args Q U) (entry N.length args)) : Fd T P w K mg base (k + 1) f ps fd s := fn_DC F S mono hlen (fun cdv _ => hbody cdv) math
end
end DL

namespace DL
open PyProof.Rows hiding St
open PySem PySem.Spec L2

def Fits (n : Nat) : Prop := n ≤ 16777216
theorem Fits.line {n : Nat} (h : Fits n) : n ≤ sizeLine := by
  rw [sizeLine_eq]
  exact h
/-! ### arithmetic -/
def oAdd : O2 := fun x y k => match x, y with
  | .int i, .int j => k (.int (i + j))
  | .str a, .str b => Fits (a.length + b.length) ∧ k (.str (a ++ b))
  | .lst a, .lst b => Fits (a.length + b.length) ∧ k (.lst (a ++ b))
  | .tup a, .tup b => Fits (a.length + b.length) ∧ k (.tup (a ++ b))
  | _, _ => False
abbrev rAddA (K : PySem.W.Frag) : R2 := fun x y H Q => rI0 (fun i j => .int (i + j)) x y H Q ∨ ((∃ i j, x = .str i ∧ y = .str j ∧ i.length + j.length ≤ sizeLine ∧ Q (.str (i ++ j)) H) ∨ (rCat x y H Q ∨ rCatTN K x y H Q))
theorem opAddA {X : Cx} : OpR X (binaryOp .Add) (rAddA X.K) := OpR.or op_add (OpR.or op_add_str (OpR.or op_cat op_catN))
theorem str_app (a b : List Nat) : (⟨a.toArray⟩ : Str) ++ (⟨b.toArray⟩ : Str) = ⟨(a ++ b).toArray⟩ := by
  show (⟨a.toArray ++ b.toArray⟩ : Str) = _
  rw [List.append_toArray]
section
variable {K : PySem.W.Frag} {Z : Fm} {F H : Hp} {σ : St} {ρ : En}
theorem rt_lst (I : DI K Z F H σ ρ) {vs : List V} {ds : List Dt} {Q : VK} (r : Reps K F vs ds) (q : Rt1 K Z F σ ρ (.lst ds) Q) : ∀ p, H p = none → Q (.ref p) (upd H p (.lst vs)) := fun p np =>
  q _ _ _ (I.freshF np) (same_new (I.freeF np)) (.lst upd_same (r.mono (same_new (I.freeF np))))
theorem rt_tup (I : DI K Z F H σ ρ) {vs : List V} {ds : List Dt} {Q : VK} (r : Reps K F vs ds) (q : Rt1 K Z F σ ρ (.tup ds) Q) : NewT H Q vs := fun p o no np =>
  q _ _ _ (I.freshF np) (same_new (I.freeF np)) (.tup (.inl ⟨o, upd_same, no⟩) (r.mono (same_new (I.freeF np))))
theorem rt_here (I : DI K Z F H σ ρ) {v : V} {d : Dt} {Q : VK} (r : Rep K F v d) (q : Rt1 K Z F σ ρ d Q) : Q v H := q v F H I (Same.refl F) r
end
theorem Reps.nil_iff {K : PySem.W.Frag} {F : Hp} {vs : List V} {ds : List Dt} (r : Reps K F vs ds) : vs = [] ↔ ds = [] := by
  have := r.length
  constructor
  · intro e
    subst e
    exact List.eq_nil_of_length_eq_zero this.symm
  · intro e
    subst e
    exact List.eq_nil_of_length_eq_zero this
theorem v_add {K : PySem.W.Frag} : V2 K (rAddA K) oAdd := fun Z F H σ ρ x y dx dy k Q I rx ry h q => by
  cases rx with
  | int i =>
    cases ry with
    | int j => exact .inl ⟨i, j, rfl, rfl, rt_here I (.int _) (q _ h)⟩
    | _ => exact h.elim
  | str a ha =>
    cases ry with
    | str b hb =>
      obtain ⟨hf, h⟩ := h
      refine .inr (.inl ⟨_, _, rfl, rfl, ?_, ?_⟩)
      · show a.toArray.size + b.toArray.size ≤ sizeLine
        simpa using hf.line
      · rw [str_app]
        exact rt_here I (.str _ (by rw [List.length_append]; exact hf.line)) (q _ h)
    | _ => exact h.elim
  | lst ha ra =>
    cases ry with
    | lst hb rb =>
      obtain ⟨hf, h⟩ := h
      refine .inr (.inr (.inl ⟨_, _, _, _, rfl, rfl, I.fh _ _ ha, I.fh _ _ hb, ?_, rt_lst I (ra.app rb) (q _ h)⟩))
      rw [ra.length, rb.length]
      exact hf.line
    | _ => exact h.elim
  | tup ha ra =>
    cases ry with
    | tup hb rb =>
      obtain ⟨hf, h⟩ := h
      refine .inr (.inr (.inr ⟨_, _, _, _, rfl, rfl, sameT I.fh ha, sameT I.fh hb, ?_, fun e => ?_, fun _ e => ?_, fun _ _ => rt_tup I (ra.app rb) (q _ h)⟩))
      · rw [ra.length, rb.length]
        exact hf.line
      · obtain rfl := ra.nil_iff.mp e
        exact rt_here I (.tup hb rb) (q _ h)
      · obtain rfl := rb.nil_iff.mp e
        rw [List.append_nil] at h
        exact rt_here I (.tup ha ra) (q _ h)
    | _ => exact h.elim
  | _ => cases ry <;> exact h.elim
def oSub : O2 := fun x y k => match x, y with
  | .int i, .int j => k (.int (i - j))
  | _, _ => False
/-- one factor below 2 ^ 64 -/
def oMul : O2 := fun x y k => match x, y with
  | .int i, .int j => CMul i j ∧ k (.int (i * j))
  | .lst a, .int j => (0 ≤ j ∧ j ≤ 1000 ∧ a.length ≤ 1000) ∧ k (.lst (List.replicate j.toNat a).flatten)
  | .tup a, .int j => (a ≠ [] ∧ 2 ≤ j ∧ j ≤ 1000 ∧ a.length ≤ 1000) ∧ k (.tup (List.replicate j.toNat a).flatten)
  | _, _ => False
abbrev rMulA (K : PySem.W.Frag) : R2 := fun x y H Q => rI CMul (fun i j => .int (i * j)) x y H Q ∨ (rRep x y H Q ∨ rRepN K x y H Q)
theorem opMulA {X : Cx} : OpR X (binaryOp .Mult) (rMulA X.K) := OpR.or op_mul (OpR.or op_rep op_repN)
theorem Reps.rep {K : PySem.W.Frag} {F : Hp} {vs : List V} {ds : List Dt} (r : Reps K F vs ds) : ∀ n : Nat, Reps K F (List.replicate n vs).flatten (List.replicate n ds).flatten
  | 0 => .nil
  | n + 1 => by
    rw [List.replicate_succ, List.replicate_succ, List.flatten_cons, List.flatten_cons]
    exact r.app (Reps.rep r n)
theorem v_mul {K : PySem.W.Frag} : V2 K (rMulA K) oMul := fun Z F H σ ρ x y dx dy k Q I rx ry h q => by
  cases rx with
  | int i =>
    cases ry with
    | int j => exact .inl ⟨i, j, rfl, rfl, h.1, rt_here I (.int _) (q _ h.2)⟩
    | _ => exact h.elim
  | lst ha ra =>
    cases ry with
    | int j =>
      obtain ⟨⟨h1, h2, h3⟩, h⟩ := h
      refine .inr (.inl ⟨_, j, _, rfl, rfl, I.fh _ _ ha, by omega, by omega, ?_, rt_lst I (ra.rep _) (q _ h)⟩)
      rw [ra.length, sizeLine_eq]
      have : j.toNat ≤ 1000 := by omega
      have := Nat.mul_le_mul h3 this
      omega
    | _ => exact h.elim
  | tup ha ra =>
    cases ry with
    | int j =>
      obtain ⟨⟨h0, h1, h2, h3⟩, h⟩ := h
      exact .inr (.inr ⟨_, j, _, rfl, rfl, sameT I.fh ha, fun e => h0 (ra.nil_iff.mp e), h1, h2, by rw [ra.length]; exact h3, rt_tup I (ra.rep _) (q _ h)⟩)
    | _ => exact h.elim
  | _ => cases ry <;> exact h.elim
def oDiv : O2 := fun x y k => match x, y with
  | .int i, .int j => (0 < j ∧ j < 1073741824) ∧ k (.int (i / j))
  | _, _ => False
def oMod : O2 := fun x y k => match x, y with
  | .int i, .int j => 0 < j ∧ k (.int (i % j))
  | _, _ => False
theorem v_mod {K : PySem.W.Frag} : V2 K (rI (fun _ j => 0 < j) fun i j => .int (i % j)) oMod := fun Z F H σ ρ x y dx dy k Q I rx ry h q => by
  cases rx with
  | int i =>
    cases ry with
    | int j => exact ⟨i, j, rfl, rfl, h.1, rt_here I (.int _) (q _ h.2)⟩
    | _ => exact h.elim
  | _ => cases ry <;> exact h.elim
def oPow : O2 := fun x y k => match x, y with
  | .int i, .int j => CPow i j ∧ k (.int (i ^ j.toNat))
  | _, _ => False
theorem v_pow {K : PySem.W.Frag} : V2 K (rI CPow fun i j => .int (i ^ j.toNat)) oPow := fun Z F H σ ρ x y dx dy k Q I rx ry h q => by
  cases rx with
  | int i =>
    cases ry with
    | int j => exact ⟨i, j, rfl, rfl, h.1, rt_here I (.int _) (q _ h.2)⟩
    | _ => exact h.elim
  | _ => cases ry <;> exact h.elim
def oNeg : O1 := fun x k => match x with
  | .int i => k (.int (-i))
  | _ => False
theorem v_neg {K : PySem.W.Frag} : V1 K (rU fun i => .int (-i)) oNeg := fun Z F H σ ρ x dx k Q I rx h q => by
  cases rx with
  | int i => exact ⟨i, rfl, rt_here I (.int _) (q _ h)⟩
  | _ => exact h.elim

/-! ### order -/
def oCmp (p : Int → Int → Bool) (s : List Nat → List Nat → Bool) : O2 := fun x y k => match x, y with
  | .int i, .int j => k (.bl (p i j))
  | .str a, .str b => k (.bl (s a b))
  | _, _ => False
theorem v_cmp {K : PySem.W.Frag} {p : Int → Int → Bool} {s : List Nat → List Nat → Bool} : V2 K (fun x y H Q => rI0 (fun i j => .bl (p i j)) x y H Q ∨ ∃ i j, x = .str i ∧ y = .str j ∧ Q (.bl (s i.cps.toList j.cps.toList)) H) (oCmp p s) := fun Z F H σ ρ x y dx dy k Q I rx ry h q => by
  cases rx with
  | int i =>
    cases ry with
    | int j => exact .inl ⟨i, j, rfl, rfl, rt_here I (.bl _) (q _ h)⟩
    | _ => exact h.elim
  | str a ha =>
    cases ry with
    | str b hb => exact .inr ⟨_, _, rfl, rfl, rt_here I (.bl _) (q _ h)⟩
    | _ => exact h.elim
  | _ => cases ry <;> exact h.elim
abbrev oLt : O2 := oCmp (fun i j => decide (i < j)) (fun a b => decide (a < b))
abbrev oLe : O2 := oCmp (fun i j => decide (i ≤ j)) (fun a b => !decide (b < a))
abbrev oGt : O2 := oCmp (fun i j => decide (j < i)) (fun a b => decide (b < a))
abbrev oGe : O2 := oCmp (fun i j => decide (j ≤ i)) (fun a b => !decide (a < b))
section
variable {X : Cx}
theorem opLt : OpR X (compareOp .Lt) (fun x y H Q => rI0 (fun i j => .bl (decide (i < j))) x y H Q ∨ ∃ i j, x = .str i ∧ y = .str j ∧ Q (.bl (decide (i.cps.toList < j.cps.toList))) H) := OpR.or op_lt op_lt_str
theorem opGt : OpR X (compareOp .Gt) (fun x y H Q => rI0 (fun i j => .bl (decide (j < i))) x y H Q ∨ ∃ i j, x = .str i ∧ y = .str j ∧ Q (.bl (decide (j.cps.toList < i.cps.toList))) H) := OpR.or op_gt op_gt_str
theorem opGe : OpR X (compareOp .GtE) (fun x y H Q => rI0 (fun i j => .bl (decide (j ≤ i))) x y H Q ∨ ∃ i j, x = .str i ∧ y = .str j ∧ Q (.bl (!decide (i.cps.toList < j.cps.toList))) H) := OpR.or op_ge op_ge_str
end

/-! ### == of data -/
mutual
def eqD : Dt → Dt → Bool
  | .non, .non => true
  | .bl a, .bl b => a == b
  | .bl a, .int j => (if a then 1 else 0) == j
  | .int i, .bl b => i == (if b then 1 else 0)
  | .int i, .int j => i == j
  | .str x, .str y => x == y
  | .lst xs, .lst ys => eqDs xs ys
  | .tup xs, .tup ys => eqDs xs ys
  | _, _ => false
def eqDs : List Dt → List Dt → Bool
  | [], [] => true
  | x :: xs, y :: ys => eqD x y && eqDs xs ys
  | _, _ => false
end
theorem toPys_map : ∀ xs : List Dt, toPys xs = xs.map toPy
  | [] => by rw [toPys]; rfl
  | x :: xs => by rw [toPys, toPys_map xs]; rfl
theorem plains_iff : ∀ xs : List PyData, PyData.plainAll xs = true ↔ ∀ x ∈ xs, x.plain = true
  | [] => by simp [PyData.plainAll]
  | x :: xs => by
    simp only [PyData.plainAll, Bool.and_eq_true, plains_iff xs, List.mem_cons, forall_eq_or_imp]
theorem depths_le : ∀ (xs : List PyData) (n : Nat), (∀ x ∈ xs, x.depth ≤ n) → PyData.depthAll xs ≤ n
  | [], n, _ => by simp [PyData.depthAll]
  | x :: xs, n, h => by
    rw [PyData.depthAll]
    exact Nat.max_le.mpr ⟨h x List.mem_cons_self, depths_le xs n fun y hy => h y (List.mem_cons_of_mem _ hy)⟩
theorem plain_of : ∀ (n : Nat) {d : Dt}, Sh n d → (toPy d).plain = true ∧ (toPy d).depth ≤ n := by
  intro n
  induction n with
  | zero =>
    intro d h
    cases d with
    | tup _ => exact h.elim
    | lst _ => exact h.elim
    | scr _ => exact h.elim
    | dct _ => exact h.elim
    | ins _ _ => exact h.elim
    | _ => rw [toPy]; exact ⟨rfl, by simp [PyData.depth]⟩
  | succ n ih =>
    intro d h
    cases d with
    | tup xs =>
      rw [toPy]
      refine ⟨?_, ?_⟩
      · rw [PyData.plain, plains_iff, toPys_map]
        intro x hx
        obtain ⟨y, hy, rfl⟩ := List.mem_map.mp hx
        exact (ih (h y hy)).1
      · rw [PyData.depth, toPys_map]
        have := depths_le (xs.map toPy) n fun x hx => by
          obtain ⟨y, hy, rfl⟩ := List.mem_map.mp hx
          exact (ih (h y hy)).2
        omega
    | lst xs =>
      rw [toPy]
      refine ⟨?_, ?_⟩
      · rw [PyData.plain, plains_iff, toPys_map]
        intro x hx
        obtain ⟨y, hy, rfl⟩ := List.mem_map.mp hx
        exact (ih (h y hy)).1
      · rw [PyData.depth, toPys_map]
        have := depths_le (xs.map toPy) n fun x hx => by
          obtain ⟨y, hy, rfl⟩ := List.mem_map.mp hx
          exact (ih (h y hy)).2
        omega
    | scr _ => exact h.elim
    | dct _ => exact h.elim
    | ins _ _ => exact h.elim
    | _ => rw [toPy]; exact ⟨rfl, by simp [PyData.depth]⟩
theorem eqv_str (x y : List Nat) : ((⟨x.toArray⟩ : Str) == (⟨y.toArray⟩ : Str)) = (x == y) := by
  by_cases h : x = y
  · subst h
    simp
  · have : ¬ (⟨x.toArray⟩ : Str) = ⟨y.toArray⟩ := fun e => h (by simpa using congrArg (fun s => s.cps.toList) e)
    rw [beq_eq_false_iff_ne.mpr this, beq_eq_false_iff_ne.mpr h]
theorem eqv_eqD : ∀ (n : Nat) {x y : Dt}, Sh n x → (∃ m, Sh m y) → PyData.eqv (toPy x) (toPy y) = eqD x y := by
  intro n
  induction n with
  | zero =>
    intro x y hx ⟨m, hy⟩
    cases x <;> first | exact hx.elim | (cases y <;> first | (cases m <;> exact hy.elim) | simp [toPy, PyData.eqv, eqD, eqv_str])
  | succ n ih =>
    have all : ∀ (xs ys : List Dt), (∀ x ∈ xs, Sh n x) → (∃ m, ∀ y ∈ ys, Sh m y) → PyData.eqvAll (toPys xs) (toPys ys) = eqDs xs ys := by
      intro xs
      induction xs with
      | nil => intro ys _ _; cases ys <;> simp [toPys, PyData.eqvAll, eqDs]
      | cons x xs ihx =>
        intro ys h ⟨m, hm⟩
        cases ys with
        | nil => simp [toPys, PyData.eqvAll, eqDs]
        | cons y ys =>
          rw [toPys, toPys, PyData.eqvAll, eqDs, ih (h x List.mem_cons_self) ⟨m, hm y List.mem_cons_self⟩, ihx ys (fun z hz => h z (List.mem_cons_of_mem _ hz)) ⟨m, fun z hz => hm z (List.mem_cons_of_mem _ hz)⟩]
    intro x y hx ⟨m, hy⟩
    cases x with
    | tup xs =>
      cases y with
      | tup ys =>
        cases m with
        | zero => exact hy.elim
        | succ m => rw [toPy, toPy, PyData.eqv, eqD, all xs ys hx ⟨m, hy⟩]
      | scr _ => cases m <;> exact hy.elim
      | dct _ => cases m <;> exact hy.elim
      | ins _ _ => cases m <;> exact hy.elim
      | _ => simp [toPy, PyData.eqv, eqD]
    | lst xs =>
      cases y with
      | lst ys =>
        cases m with
        | zero => exact hy.elim
        | succ m => rw [toPy, toPy, PyData.eqv, eqD, all xs ys hx ⟨m, hy⟩]
      | scr _ => cases m <;> exact hy.elim
      | dct _ => cases m <;> exact hy.elim
      | ins _ _ => cases m <;> exact hy.elim
      | _ => simp [toPy, PyData.eqv, eqD]
    | scr _ => exact hx.elim
    | dct _ => exact hx.elim
    | ins _ _ => exact hx.elim
    | _ => cases y <;> first | (cases m <;> exact hy.elim) | simp [toPy, PyData.eqv, eqD, eqv_str]
def oEq : O2 := fun x y k => Sh 8 x ∧ Sh 8 y ∧ k (.bl (eqD x y))
def oNe : O2 := fun x y k => Sh 8 x ∧ Sh 8 y ∧ k (.bl (!eqD x y))
def rEqP (K : PySem.W.Frag) : R2 := fun x y H Q => ∃ d e, L2.Dp K H x d ∧ L2.Dp K H y e ∧ d.plain = true ∧ e.plain = true ∧ d.depth ≤ 8 ∧ Q (.bl (PyData.eqv d e)) H
def rNeP (K : PySem.W.Frag) : R2 := fun x y H Q => ∃ d e, L2.Dp K H x d ∧ L2.Dp K H y e ∧ d.plain = true ∧ e.plain = true ∧ d.depth ≤ 8 ∧ Q (.bl (!PyData.eqv d e)) H
section
variable {X : Cx}
theorem opEqP (hu : X.A.units + 64 < cLine) : OpR X (compareOp .Eq) (rEqP X.K) := by
  intro pins s σ H x y v u Q I rx ry h
  obtain ⟨d, e, hd, he, sd, se, dd, q⟩ := h
  obtain ⟨as, r1⟩ := Dp.reads I d x v hd rx
  obtain ⟨bs, r2⟩ := Dp.reads I e y u he ry
  exact SeqAt.eq_plain r1 r2 sd se (by omega) ⟨.bl _, H, I, rfl, q⟩
theorem opNeP (hu : X.A.units + 64 < cLine) : OpR X (compareOp .NotEq) (rNeP X.K) := by
  intro pins s σ H x y v u Q I rx ry h
  obtain ⟨d, e, hd, he, sd, se, dd, q⟩ := h
  obtain ⟨as, r1⟩ := Dp.reads I d x v hd rx
  obtain ⟨bs, r2⟩ := Dp.reads I e y u he ry
  exact SeqAt.ne_plain r1 r2 sd se (by omega) ⟨.bl _, H, I, rfl, q⟩
end
theorem v_eq {K : PySem.W.Frag} : V2 K (rEqP K) oEq := fun Z F H σ ρ x y dx dy k Q I rx ry ⟨h1, h2, h⟩ q => by
  refine ⟨toPy dx, toPy dy, Dp.of I.fh 8 rx h1, Dp.of I.fh 8 ry h2, (plain_of 8 h1).1, (plain_of 8 h2).1, (plain_of 8 h1).2, ?_⟩
  rw [eqv_eqD 8 h1 ⟨8, h2⟩]
  exact rt_here I (.bl _) (q _ h)
theorem v_ne {K : PySem.W.Frag} : V2 K (rNeP K) oNe := fun Z F H σ ρ x y dx dy k Q I rx ry ⟨h1, h2, h⟩ q => by
  refine ⟨toPy dx, toPy dy, Dp.of I.fh 8 rx h1, Dp.of I.fh 8 ry h2, (plain_of 8 h1).1, (plain_of 8 h2).1, (plain_of 8 h1).2, ?_⟩
  rw [eqv_eqD 8 h1 ⟨8, h2⟩]
  exact rt_here I (.bl _) (q _ h)
/-! in, not in: a list, a tuple, a text -/
def oIn (neg : Bool) : O2 := fun x y k => match y with
  | .lst ys => Sh 8 x ∧ (∀ y ∈ ys, Sh 7 y) ∧ k (.bl (xor neg (ys.any fun z => eqD z x)))
  | .tup ys => Sh 8 x ∧ (∀ y ∈ ys, Sh 7 y) ∧ k (.bl (xor neg (ys.any fun z => eqD z x)))
  | .str b => (match x with
    | .str [c] => k (.bl (xor neg (decide (c ∈ b))))
    | _ => False)
  | _ => False
/-! is None -/
def isN : Dt → Bool
  | .non => true
  | _ => false
def oIsN : O2 := fun x y k => match y with
  | .non => k (.bl (isN x))
  | _ => False
def oNotN : O2 := fun x y k => match y with
  | .non => k (.bl (!isN x))
  | _ => False
end DL

namespace DL
open PyProof.Rows hiding St
open PySem PySem.Spec L2

theorem str_len (l : List Nat) : (⟨l.toArray⟩ : Str).length = l.length := List.size_toArray
theorem str_leL {l : List Nat} (h : l.length ≤ sizeLine) : (⟨l.toArray⟩ : Str).length ≤ sizeLine := by rw [str_len]; exact h
theorem kilo_line {n : Nat} (h : n ≤ 1000) : n ≤ sizeLine := by rw [sizeLine_eq]; omega
def opt {α : Type} (o : Option α) (k : α → Prop) : Prop := match o with
  | some x => k x
  | none => False
theorem opt_get {α : Type} {o : Option α} {k : α → Prop} (h : opt o k) : ∃ x, o = some x ∧ k x := by
  cases o with
  | none => exact h.elim
  | some x => exact ⟨x, rfl, h⟩
def itemsD : Dt → Option (List Dt)
  | .lst ds => some ds
  | .tup ds => some ds
  | .scr ds => some ds
  | _ => none
section
variable {K : PySem.W.Frag} {Z : Fm} {F H : Hp} {σ : St} {ρ : En}
theorem Reps.atI {vs : List V} {ds : List Dt} {i : Int} {d : Dt} (r : Reps K F vs ds) (e : atI ds i = some d) : ∃ v, atI vs i = some v ∧ Rep K F v d := by
  unfold L2.atI at e ⊢
  rw [r.length]
  cases q : ixN ds.length i with
  | none => rw [q] at e; cases e
  | some j =>
    rw [q] at e
    exact r.get e
theorem items_sq (I : DI K Z F H σ ρ) {v : V} {d : Dt} {ds : List Dt} (r : Rep K F v d) (e : itemsD d = some ds) : ∃ a vs, v = .ref a ∧ (SqL K H a vs ∨ SqT K H a vs) ∧ Reps K F vs ds := by
  cases r with
  | lst h r =>
    obtain rfl := Option.some.inj e
    exact ⟨_, _, rfl, .inl (SqL.of (I.fh _ _ h)), r⟩
  | scr h r =>
    obtain rfl := Option.some.inj e
    exact ⟨_, _, rfl, .inl (I.fh.seq h), r⟩
  | tup h r =>
    obtain rfl := Option.some.inj e
    exact ⟨_, _, rfl, .inr (sameT I.fh h), r⟩
  | _ => cases e
end
/-! ### x[i] -/
def oIx : O2 := fun x y k => match y with
  | .int i => (match x with
    | .str l => opt (L2.atI l i) fun c => k (.str [c])
    | x => opt (itemsD x) fun ds => opt (L2.atI ds i) k)
  | _ => False
theorem v_ix {K : PySem.W.Frag} : V2 K (rIx K) oIx := fun Z F H σ ρ x y dx dy k Q I rx ry h q => by
  cases ry with
  | int i =>
    have gen : (opt (itemsD dx) fun ds => opt (L2.atI ds i) k) → rIx K x (.int i) H Q := fun h => by
      obtain ⟨ds, e, h⟩ := opt_get h
      obtain ⟨d, e2, h⟩ := opt_get h
      obtain ⟨a, vs, rfl, s, r⟩ := items_sq I rx e
      obtain ⟨v, e3, rv⟩ := r.atI e2
      rcases s with s | s
      · exact .inl ⟨a, vs, i, v, rfl, rfl, s, e3, rt_here I rv (q _ h)⟩
      · exact .inr (.inl ⟨a, vs, i, v, rfl, rfl, s, e3, rt_here I rv (q _ h)⟩)
    cases rx with
    | str l hl =>
      obtain ⟨c, e, h⟩ := opt_get h
      exact .inr (.inr ⟨_, i, c, rfl, rfl, str_leL hl, e, rt_here I (.str [c] (kilo_line (show 1 ≤ 1000 by decide))) (q _ h)⟩)
    | non => exact gen h
    | bl _ => exact gen h
    | int _ => exact gen h
    | tup a b => exact gen h
    | lst a b => exact gen h
    | scr a b => exact gen h
    | dct a b => exact gen h
    | ins a b => exact gen h
    | adr a => exact gen h
  | _ => exact h.elim
section
variable {X : Cx} {Z : Fm} {W : WX} {e a b c : Expr} {ma mb mc : DT} {pos : Pos}
theorem d_index (ha : DE X Z W a ma) (hb : DE X Z W b mb) (hs : PlainIx b := by exact fun _ _ => rfl) : DE X Z W (.Subscript a b pos) (dBin oIx ma mb) := d_ix ix_seq v_ix ha hb hs
/-! what an own object is asked: x stands in the slot i -/
/-- op(x, y), x own -/
def dOwn2 (i : Nat) (f : MO → Dt → (Dt → Prop) → Prop) (b : DT) : DT := fun ρ R U => match ρ[i]? with
  | some (.own _ _ _) => b ρ (fun y ρ2 => match ρ2[i]? with
    | some (.own _ _ o) => f o y (fun z => R z ρ2)
    | _ => False) U
  | _ => False
def VO2 (K : PySem.W.Frag) (r : R2) (f : MO → Dt → (Dt → Prop) → Prop) : Prop := ∀ (Z : Fm) (F H : Hp) (σ : St) (ρ : En) (p : Addr) (ho : HO) (y : V) (o : MO) (dy : Dt) (k : Dt → Prop) (Q : VK), DI K Z F H σ ρ → H p = some ho → RepO K F ho o → Rep K F y dy → f o dy k → (∀ dz, k dz → Rt1 K Z F σ ρ dz Q) → r (.ref p) y H Q
theorem own2_in {r : R2} {f : MO → Dt → (Dt → Prop) → Prop} {i : Nat} (hv : VO2 X.K r f) (σ : St) (H : Hp) (Q : VK) (h : tE X.K Z W (dOwn2 i f mb) σ H Q) : tOp r (tVar i) (tE X.K Z W mb) σ H Q := by
  obtain ⟨F, ρ, R, U, I, hm, q, u⟩ := h
  unfold dOwn2 at hm
  split at hm
  · rename_i b p o e
    obtain ⟨e1, _⟩ := I.slotO e
    refine ⟨_, e1, F, ρ, _, U, I, hm, fun y ρ2 w F2 H2 I2 s2 r2 h2 => ?_, u⟩
    try dsimp only at h2
    split at h2
    · rename_i b2 p2 o2 e2
      obtain ⟨e3, _, ho, hh, ro⟩ := I2.slotO e2
      rw [e1] at e3
      obtain rfl : p = p2 := by injection e3 with e3; injection e3 with e3; injection e3
      exact hv Z F2 H2 σ ρ2 p ho w o2 y _ Q I2 hh ro r2 h2 fun z hz v' F' H' I' s' r' => q z ρ2 v' F' H' I' (s2.trans s') r' hz
    · exact h2.elim
  · exact hm.elim
/-- op(x), x own -/
def dOwn1 (i : Nat) (f : MO → (Dt → Prop) → Prop) : DT := fun ρ R _ => match ρ[i]? with
  | some (.own _ _ o) => f o (fun z => R z ρ)
  | _ => False
def fIx (o : MO) (y : Dt) (k : Dt → Prop) : Prop := match o, y with
  | .lst ds, .int i => opt (L2.atI ds i) k
  | _, _ => False
theorem vo_ix {K : PySem.W.Frag} : VO2 K (rIx K) fIx := fun Z F H σ ρ p ho y o dy k Q I hh ro ry h q => by
  cases ro with
  | lst r =>
    cases ry with
    | int i =>
      obtain ⟨d, e2, h⟩ := opt_get h
      obtain ⟨v, e3, rv⟩ := r.atI e2
      exact .inl ⟨p, _, i, v, rfl, rfl, SqL.of hh, e3, rt_here I rv (q _ h)⟩
    | _ => exact h.elim
  | _ => cases ry <;> exact h.elim
abbrev dIxO (i : Nat) (b : DT) : DT := dOwn2 i fIx b
theorem d_indexO (i : Nat) {x : Str} {pos' : Pos} (hb : DE X Z W b mb) (hN : X.N[i]? = some x := by rfl) (hv : Vis X.env.scope x := by first | exact Or.inl rfl | exact Or.inr (Or.inl rfl) | exact Or.inr (Or.inr rfl)) (hd : (x == ("__debug__" : Str)) = false := by decide)
    (hcd : (x == ("__classdict__" : Str)) = false := by decide) (hs : PlainIx b := by exact fun _ _ => rfl) : DE X Z W (.Subscript (.Name x pos') b pos) (dIxO i mb) :=
  PE.imp (pe_ix ix_seq (pe_var hN hv hd hcd) hb hs) (own2_in vo_ix)

/-! ### slices -/
abbrev DP := En → (Option Int → En → Prop) → XP → Prop
def tP (K : PySem.W.Frag) (Z : Fm) (W : WX) (m : DP) : TO := fun σ H Q => ∃ F ρ R U, DI K Z F H σ ρ ∧ m ρ R U ∧ (∀ o ρ' F' H', DI K Z F' H' σ ρ' → Same F F' → R o ρ' → Q o H') ∧ PX K Z W F σ U
def DPt (X : Cx) (Z : Fm) (W : WX) (e : Option Expr) (m : DP) : Prop := PO X e (tP X.K Z W m)
def pNo : DP := fun ρ R _ => R none ρ
def pSo (a : DT) : DP := fun ρ R U => a ρ (fun x ρ1 => match x with
  | .int i => R (some i) ρ1
  | _ => False) U
theorem p_no : DPt X Z W none pNo := ⟨fun pins s σ H Q I ⟨F, ρ, R, U, Id, hm, q, u⟩ => po_none.run pins s σ H Q I (q none ρ F H Id (Same.refl F) hm)⟩
theorem p_so (ha : DE X Z W a ma) : DPt X Z W (some a) (pSo ma) := ⟨fun pins s σ H Q I ⟨F, ρ, R, U, Id, hm, q, u⟩ => (po_some ha).run pins s σ H Q I
  ⟨F, ρ, _, U, Id, hm, fun x ρ1 v F1 H1 I1 s1 r1 h1 => by
    cases r1 with
    | int i => exact ⟨i, rfl, q _ ρ1 F1 H1 I1 s1 h1⟩
    | _ => exact h1.elim, u⟩⟩
def cutD {α : Type} (xs : List α) (lo hi : Option Int) : List α := (xs.drop (HT.sIx xs.length 0 lo)).take (HT.sIx xs.length xs.length hi - HT.sIx xs.length 0 lo)
def oSl (lo hi : Option Int) : O1 := fun x k => match x with
  | .str l => k (.str (cutD l lo hi))
  | .tup l => k (.tup (cutD l lo hi))
  | .lst l => k (.lst (cutD l lo hi))
  | .scr l => k (.lst (cutD l lo hi))
  | _ => False
theorem Reps.cut {K : PySem.W.Frag} {F : Hp} {vs : List V} {ds : List Dt} (r : Reps K F vs ds) (lo hi : Option Int) : Reps K F (cutV vs lo hi) (cutD ds lo hi) := by
  unfold cutV cutD
  rw [r.length]
  exact (r.drop _).take _
theorem cut_len {α : Type} (xs : List α) (lo hi : Option Int) : (cutD xs lo hi).length ≤ xs.length := by
  unfold cutD
  rw [List.length_take, List.length_drop]
  omega
abbrev rSlX (K : PySem.W.Frag) : V → Option Int → Option Int → Hp → VK → Prop := fun x lo hi H Q => rSlL K x lo hi H Q ∨ (rSlN K x lo hi H Q ∨ rSlS x lo hi H Q)
theorem slX : L2.SlR X (rSlX X.K) := SlR.or sl_list (SlR.or sl_tupN sl_str)
theorem v_sl {K : PySem.W.Frag} {lo hi : Option Int} : V1 K (fun x H Q => rSlX K x lo hi H Q) (oSl lo hi) := fun Z F H σ ρ x dx k Q I rx h q => by
  cases rx with
  | str l hl =>
    refine .inr (.inr ⟨_, rfl, str_leL hl, ?_⟩)
    have e : cutS (⟨l.toArray⟩ : Str) lo hi = ⟨(cutD l lo hi).toArray⟩ := by
      unfold cutS cutD
      rfl
    rw [e]
    exact rt_here I (.str _ (Nat.le_trans (cut_len l lo hi) hl)) (q _ h)
  | lst hh r => exact .inl ⟨_, _, rfl, SqL.of (I.fh _ _ hh), rt_lst I (r.cut lo hi) (q _ h)⟩
  | scr hh r => exact .inl ⟨_, _, rfl, I.fh.seq hh, rt_lst I (r.cut lo hi) (q _ h)⟩
  | tup hh r =>
    refine .inr (.inl ⟨_, _, rfl, sameT I.fh hh, fun e => ?_, fun _ => rt_tup I (r.cut lo hi) (q _ h)⟩)
    rename_i a vs ds
    have e2 : cutD ds lo hi = ds := by
      unfold cutD
      rw [r.length] at e
      rw [e.1, e.2, List.drop_zero, Nat.sub_zero, List.take_length]
    have h : k (.tup (cutD ds lo hi)) := h
    rw [e2] at h
    exact rt_here I (.tup hh r) (q _ h)
  | _ => exact h.elim
def dSl (lo hi : DP) (a : DT) : DT := fun ρ R U => a ρ (fun x ρ1 => lo ρ1 (fun l ρ2 => hi ρ2 (fun u ρ3 => oSl l u x (fun z => R z ρ3)) U) U) U
theorem d_sl {lo hi : Option Expr} {ml mh : DP} {p2 : Pos} (ha : DE X Z W a ma) (hl : DPt X Z W lo ml) (hu : DPt X Z W hi mh) : DE X Z W (.Subscript a (.Slice lo hi none p2) pos) (dSl ml mh ma) :=
  PE.imp (pe_slice slX ha hl hu) fun σ H Q ⟨F, ρ, R, U, I, hm, q, u⟩ => ⟨F, ρ, _, U, I, hm, fun x ρ1 v F1 H1 I1 s1 r1 h1 => ⟨F1, ρ1, _, U, I1, h1, fun l ρ2 F2 H2 I2 s2 h2 => ⟨F2, ρ2, _, U, I2, h2, fun u ρ3 F3 H3 I3 s3 h3 =>
    v_sl Z F3 H3 σ ρ3 v x _ Q I3 (r1.mono (s2.trans s3)) h3 fun z hz v' F' H' I' s' r' => q z ρ3 v' F' H' I' (((s1.trans s2).trans s3).trans s') r' hz, (u.mono s1).mono s2⟩, u.mono s1⟩, u⟩

/-! ### built-in calls -/
def one (f : O1) : OL := fun ds k => match ds with
  | [x] => f x k
  | _ => False
def lenD : Dt → Option Nat
  | .str l => some l.length
  | .dct l => some l.length
  | x => (itemsD x).map List.length
def oLen : O1 := fun x k => opt (lenD x) fun n => k (.int n)
abbrev rLen (K : PySem.W.Frag) : List V → Hp → VK → Prop := fun xs H Q => (∃ p ys, xs = [.ref p] ∧ (SqL K H p ys ∨ SqT K H p ys) ∧ Q (.int ys.length) H) ∨ ((∃ z : Str, xs = [.str z] ∧ z.length ≤ sizeLine ∧ Q (.int z.length) H) ∨ (∃ a kvs, xs = [V.ref a] ∧ H a = some (.dK kvs) ∧ Q (.int kvs.length) H))
theorem call_lenX : CallR X (.builtin "len") (rLen X.K) := CallR.or call_len_seq (CallR.or call_len_str call_lenD)
theorem v_len {K : PySem.W.Frag} : VL K (rLen K) (one oLen) := fun Z F H σ ρ xs ds k Q I r h q => by
  cases r with
  | nil => exact h.elim
  | cons r1 r2 =>
    cases r2 with
    | cons _ _ => exact h.elim
    | nil =>
      obtain ⟨n, e, h⟩ := opt_get (show opt (lenD _) _ from h)
      cases r1 with
      | str l hl =>
        obtain rfl := Option.some.inj e
        refine .inr (.inl ⟨_, rfl, str_leL hl, ?_⟩)
        rw [str_len]
        exact rt_here I (.int _) (q _ h)
      | dct hh rk =>
        obtain rfl := Option.some.inj e
        refine .inr (.inr ⟨_, _, rfl, I.fh _ _ hh, ?_⟩)
        rw [rk.length]
        exact rt_here I (.int _) (q _ h)
      | lst hh r =>
        obtain rfl := Option.some.inj e
        refine .inl ⟨_, _, rfl, .inl (SqL.of (I.fh _ _ hh)), ?_⟩
        rw [r.length]
        exact rt_here I (.int _) (q _ h)
      | scr hh r =>
        obtain rfl := Option.some.inj e
        refine .inl ⟨_, _, rfl, .inl (I.fh.seq hh), ?_⟩
        rw [r.length]
        exact rt_here I (.int _) (q _ h)
      | tup hh r =>
        obtain rfl := Option.some.inj e
        refine .inl ⟨_, _, rfl, .inr (sameT I.fh hh), ?_⟩
        rw [r.length]
        exact rt_here I (.int _) (q _ h)
      | _ => cases e
def fLen (o : MO) (k : Dt → Prop) : Prop := match o with
  | .lst ds => k (.int ds.length)
  | .dK ds => k (.int ds.length)
  | _ => False
def oAbs : O1 := fun x k => match x with
  | .int i => k (.int (if i < 0 then -i else i))
  | _ => False
theorem v1L {K : PySem.W.Frag} {r : List V → Hp → VK → Prop} {f : O1} (h : V1 K (fun x H Q => r [x] H Q) f) : VL K r (one f) := fun Z F H σ ρ xs ds k Q I rr hf q => by
  cases rr with
  | nil => exact hf.elim
  | cons r1 r2 =>
    cases r2 with
    | cons _ _ => exact hf.elim
    | nil => exact h Z F H σ ρ _ _ k Q I r1 hf q
theorem v_abs {K : PySem.W.Frag} : VL K (fun xs H Q => ∃ i, xs = [.int i] ∧ Q (.int (if i < 0 then -i else i)) H) (one oAbs) := v1L fun Z F H σ ρ x dx k Q I rx h q => by
  cases rx with
  | int i => exact ⟨i, rfl, rt_here I (.int _) (q _ h)⟩
  | _ => exact h.elim
def oInt : O1 := fun x k => match x with
  | .int i => k (.int i)
  | .bl b => k (.int (if b then 1 else 0))
  | _ => False
theorem v_int {K : PySem.W.Frag} : VL K (fun xs H Q => (∃ i, xs = [.int i] ∧ Q (.int i) H) ∨ ∃ k, xs = [.bl k] ∧ Q (.int (if k then 1 else 0)) H) (one oInt) := v1L fun Z F H σ ρ x dx k Q I rx h q => by
  cases rx with
  | int i => exact .inl ⟨i, rfl, rt_here I (.int _) (q _ h)⟩
  | bl b => exact .inr ⟨b, rfl, rt_here I (.int _) (q _ h)⟩
  | _ => exact h.elim
def oBool : O1 := fun x k => match x with
  | .int i => k (.bl (i != 0))
  | .bl b => k (.bl b)
  | _ => False
def two (f : O2) : OL := fun ds k => match ds with
  | [x, y] => f x y k
  | _ => False
theorem v2L {K : PySem.W.Frag} {r : List V → Hp → VK → Prop} {f : O2} (h : V2 K (fun x y H Q => r [x, y] H Q) f) : VL K r (two f) := fun Z F H σ ρ xs ds k Q I rr hf q => by
  cases rr with
  | nil => exact hf.elim
  | cons r1 r2 =>
    cases r2 with
    | nil => exact hf.elim
    | cons r3 r4 =>
      cases r4 with
      | cons _ _ => exact hf.elim
      | nil => exact h Z F H σ ρ _ _ _ _ k Q I r1 r3 hf q
def oInts (f : Int → Int → Int) : O2 := fun x y k => match x, y with
  | .int i, .int j => k (.int (f i j))
  | _, _ => False
theorem v_ints {K : PySem.W.Frag} {f : Int → Int → Int} : VL K (fun xs H Q => ∃ i j, xs = [.int i, .int j] ∧ Q (.int (f i j)) H) (two (oInts f)) := v2L fun Z F H σ ρ x y dx dy k Q I rx ry h q => by
  cases rx with
  | int i =>
    cases ry with
    | int j => exact ⟨i, j, rfl, rt_here I (.int _) (q _ h)⟩
    | _ => exact h.elim
  | _ => cases ry <;> exact h.elim
abbrev minI (i j : Int) : Int := if j < i then j else i
abbrev maxI (i j : Int) : Int := if j > i then j else i
/-- tuple(x), x a list or a tuple -/
def oTuple : O1 := fun x k => opt (itemsD x) fun ds => k (.tup ds)
/-- all and any of a list of True and False; sum of ints -/
def bls : List Dt → Option (List Bool)
  | [] => some []
  | .bl b :: r => (bls r).map (b :: ·)
  | _ :: _ => none
def intsD : List Dt → Option (List Int)
  | [] => some []
  | .int b :: r => (intsD r).map (b :: ·)
  | _ :: _ => none
def strsD : List Dt → Option (List (List Nat))
  | [] => some []
  | .str b :: r => (strsD r).map (b :: ·)
  | _ :: _ => none
theorem bls_map (bs : List Bool) : bls (bs.map Dt.bl) = some bs := by
  induction bs with
  | nil => rfl
  | cons b bs ih => simp [bls, ih]
theorem bls_of : ∀ {ds : List Dt} {bs : List Bool}, bls ds = some bs → ds = bs.map Dt.bl
  | [], _, e => by obtain rfl := Option.some.inj e; rfl
  | .bl b :: r, bs, e => by
    have e' : (bls r).map (b :: ·) = some bs := e
    cases q : bls r with
    | none => rw [q] at e'; cases e'
    | some l =>
      rw [q] at e'
      obtain rfl := Option.some.inj e'
      rw [bls_of q]
      rfl
  | .non :: _, _, e => by cases e
  | .int _ :: _, _, e => by cases e
  | .str _ :: _, _, e => by cases e
  | .tup _ :: _, _, e => by cases e
  | .lst _ :: _, _, e => by cases e
  | .scr _ :: _, _, e => by cases e
  | .dct _ :: _, _, e => by cases e
  | .ins _ _ :: _, _, e => by cases e
theorem bls_list {K : PySem.W.Frag} {Z : Fm} {F H : Hp} {σ : St} {ρ : En} (I : DI K Z F H σ ρ) {v : V} {ds : List Dt} {bs : List Bool} (r : Rep K F v (.lst ds)) (e : bls ds = some bs) : ∃ a, v = .ref a ∧ SqL K H a (bs.map V.bl) := by
  obtain rfl := bls_of e
  cases r with
  | lst hh r =>
    obtain rfl := r.bls
    exact ⟨_, rfl, SqL.of (I.fh _ _ hh)⟩
def oAll : O1 := fun x k => match x with
  | .lst ds => opt (bls ds) fun bs => k (.bl (bs.all id))
  | _ => False
def oAny : O1 := fun x k => match x with
  | .lst ds => opt (bls ds) fun bs => k (.bl (bs.any id))
  | _ => False
def oSum : O1 := fun x k => match x with
  | .lst ds => opt (intsD ds) fun bs => k (.int bs.sum)
  | _ => False
theorem v_all {K : PySem.W.Frag} : VL K (rAll K) (one oAll) := v1L fun Z F H σ ρ x dx k Q I rx h q => by
  cases rx with
  | lst hh r =>
    obtain ⟨bs, e, h⟩ := opt_get (show opt (bls _) (fun bs => k (.bl (bs.all id))) from h)
    obtain ⟨a, e2, s⟩ := bls_list I (.lst hh r) e
    exact ⟨a, bs, by rw [e2], s, rt_here I (.bl _) (q _ h)⟩
  | _ => exact h.elim
end
end DL

namespace DL
open PyProof.Rows hiding St
open PySem PySem.Spec L2

/-! ### texts sorted -/
def insL (x : List Nat) : List (List Nat) → List (List Nat)
  | [] => [x]
  | y :: r => if y < x then y :: insL x r else x :: y :: r
def srtL : List (List Nat) → List (List Nat)
  | [] => []
  | x :: r => insL x (srtL r)
abbrev mkS (l : List Nat) : Str := ⟨l.toArray⟩
/-! ### a new object, by values -/
abbrev OLO := List Dt → (MO → Prop) → Prop
def dCBO (f : OLO) (a : DA) : DO := fun ρ R U => a ρ (fun as ρ1 => match dats as with
  | some ds => f ds (fun z => R z ρ1)
  | none => False) U
section
variable {X : Cx} {Z : Fm} {W : WX} {e a b c : Expr} {ma mb mc : DT} {pos : Pos}
end
def oneO (f : Dt → (MO → Prop) → Prop) : OLO := fun ds k => match ds with
  | [x] => f x k
  | _ => False
/-! ### sorted(v): v is gathered into texts first -/
/-! ### sorted(a text), list(a text) -/
def oSorted (x : Dt) (k : MO → Prop) : Prop := match x with
  | .str l => l.length < 64 ∧ k (.lst ((srtL (l.map fun c => [c])).map Dt.str))
  | .lst ds => opt (strsD ds) fun ls => ls.length < 64 ∧ k (.lst ((srtL ls).map Dt.str))
  | _ => False
def oList (x : Dt) (k : MO → Prop) : Prop := match x with
  | .str l => k (.lst (l.map fun c => Dt.str [c]))
  | x => opt (itemsD x) fun ds => k (.lst ds)
/-! ### sep.join(texts) -/
def jn (sep : List Nat) : List (List Nat) → List Nat
  | [] => []
  | [p] => p
  | p :: q :: r => p ++ (sep ++ jn sep (q :: r))
def lens : List (List Nat) → Nat
  | [] => 0
  | p :: r => p.length + lens r
def oJoin : O2 := fun x y k => match x with
  | .str s => opt (itemsD y) fun ds => opt (strsD ds) fun ls => Fits (lens ls + ls.length * s.length) ∧ k (.str (jn s ls))
  | _ => False
/-! ### methods of data: o.name(e) -/
def dMt1 (f : O2) (o a : DT) : DT := fun ρ R U => o ρ (fun x ρ1 => match x with
  | .str l => a ρ1 (fun y ρ2 => f (.str l) y (fun z => R z ρ2)) U
  | _ => False) U
section
variable {X : Cx} {Z : Fm} {W : WX} {e a b c o : Expr} {ma mb mc mo : DT} {pos : Pos}
/-! ### methods of an own list -/
/-- the slot's object becomes another -/
def put (i : Nat) (o : MO) (ρ : En) (k : En → Prop) : Prop := match ρ[i]? with
  | some (.own b p _) => k (ρ.set i (.own b p o))
  | _ => False
def dApp (i : Nat) (a : DT) : DT := fun ρ R U => match ρ[i]? with
  | some (.own _ _ (.lst _)) => a ρ (fun y ρ1 => match ρ1[i]? with
    | some (.own b p (.lst ds)) => Fits (ds.length + 1) ∧ R .non (ρ1.set i (.own b p (.lst (ds ++ [y]))))
    | _ => False) U
  | _ => False
theorem own_ty {i : Nat} {σ : St} {F H : Hp} {ρ : En} {b : Bool} {p : Addr} {ds : List Dt} {K : PySem.W.Frag} (I : DI K Z F H σ ρ) (e : ρ[i]? = some (.own b p (.lst ds))) : ∃ vs, σ[i]? = some (some (.ref p)) ∧ H p = some (.lst vs) ∧ Reps K F vs ds ∧ tyV K "list" (.ref p) H := by
  obtain ⟨e1, _, ho, hh, ro⟩ := I.slotO e
  cases ro with
  | lst r => exact ⟨_, e1, hh, r, .inl ⟨rfl, _, SqL.of hh⟩⟩
theorem d_append (i : Nat) {x : Str} {p1 apos : Pos} (ha : DE X Z W a ma) (hN : X.N[i]? = some x := by rfl) (hv : Vis X.env.scope x := by first | exact Or.inl rfl | exact Or.inr (Or.inl rfl) | exact Or.inr (Or.inr rfl)) (hd : (x == ("__debug__" : Str)) = false := by decide) (hcd : (x == ("__classdict__" : Str)) = false := by decide)
    (hbase : attributeBase (.Name x p1) "append" X.env (eval (.Name x p1) X.env) = eval (.Name x p1) X.env := by rfl)
    (hfew : ((backTo pos (starEach [a] X.env)).all (fun x => !x.1) && (backToKw pos (keywordEach [] X.env)).all (fun x => x.1.isSome)
      && decide (([a] : List Expr).length + ([] : List Keyword).length + (if ([] : List Keyword).isEmpty then 0 else 1) < 30)) = true := by rfl)
    (hline : (apos.endLine == pos.line) = true := by rfl) (hs : starEach [a] X.env = (false, eval a X.env) :: starEach [] X.env := by rfl) : DE X Z W (.Call (.Attribute (.Name x p1) "append" apos) [a] [] pos) (dApp i ma) :=
  PE.imp (pe_bm PySem.F.plainAttrs_list PySem.F.slot_list_append PySem.F.type_list_append mt_append (pe_var hN hv hd hcd) (pa_cons ha pa_nil hs) hbase hfew hline hs rfl) fun σ H Q ⟨F, ρ, R, U, I, h, q, u⟩ => by
    unfold dApp at h
    split at h
    · rename_i b p ds e
      obtain ⟨vs, e1, _, _, ty⟩ := own_ty I e
      refine ⟨_, e1, ty, F, ρ, _, U, I, h, fun y ρ1 w F1 H1 I1 s1 r1 h1 => ?_, u⟩
      try dsimp only at h1
      split at h1
      · rename_i b1 p1 ds1 e1'
        obtain ⟨hf, h1⟩ := h1
        obtain ⟨vs1, e3, hh, r, _⟩ := own_ty I1 e1'
        rw [e1] at e3
        obtain rfl : p = p1 := by injection e3 with e3; injection e3 with e3; injection e3
        have hl : vs1.length < sizeLine := by
          rw [r.length, sizeLine_eq]
          have : ds1.length + 1 ≤ 16777216 := hf
          omega
        exact ⟨p, vs1, w, rfl, rfl, hh, hl, q _ _ .non F1 _ (I1.write e1' (.lst (r.app (.cons r1 .nil)))) s1 .non h1⟩
      · exact h1.elim
    · exact h.elim
/-- x.pop(i) -/
def dPopAt (i : Nat) (a : DT) : DT := fun ρ R U => match ρ[i]? with
  | some (.own _ _ (.lst _)) => a ρ (fun y ρ1 => match ρ1[i]? with
    | some (.own b p (.lst ds)) => (match y with
      | .int n => (-(2 ^ 63) ≤ n ∧ n < 2 ^ 63) ∧ opt (seqIndex? n ds.length) fun j => opt ds[j]? fun d => R d (ρ1.set i (.own b p (.lst (ds.eraseIdx j))))
      | _ => False)
    | _ => False) U
  | _ => False
/-- x[b] = a -/
def dPut (i : Nat) (b a : DT) : DSt := fun D ρ => a ρ (fun v ρ1 => match ρ1[i]? with
  | some (.own _ _ (.lst _)) => b ρ1 (fun y ρ2 => match ρ2[i]? with
    | some (.own c p (.lst ds)) => (match y with
      | .int n => opt (ixN ds.length n) fun j => D.nx (ρ2.set i (.own c p (.lst (ds.set j v))))
      | _ => False)
    | _ => False) (fun _ _ => False)
  | _ => False) D.ex
theorem ds_put (i : Nat) {x : Str} {p1 tpos : Pos} (ha : DE X Z W a ma) (hb : DE X Z W b mb) (hN : X.N[i]? = some x := by rfl) (hv : Vis X.env.scope x := by first | exact Or.inl rfl | exact Or.inr (Or.inl rfl) | exact Or.inr (Or.inr rfl)) (hd : (x == ("__debug__" : Str)) = false := by decide) (hcd : (x == ("__classdict__" : Str)) = false := by decide)
    (hset : ∀ v, assign (.Subscript (.Name x p1) b tpos) X.env v = (do
      let ov ← holding [v] (eval (.Name x p1) X.env)
      let iv ← holding [v, ov] (eval b X.env)
      standAt tpos
      holding [v, ov, iv] (setItem ov iv v)
      release [v, ov, iv] []) := by intro _; rfl)
    (hs : swapsWithSole [.Subscript (.Name x p1) b tpos] a pos.line X.env = pure false := by rfl) (hw : swappedStores [.Subscript (.Name x p1) b tpos] a X.env = pure none := by rfl)
    (h1 : (assignEach [.Subscript (.Name x p1) b tpos] X.env).map (·.2) = [assign (.Subscript (.Name x p1) b tpos) X.env] := by rfl) : DS X Z W (.Assign [.Subscript (.Name x p1) b tpos] a pos) (dPut i mb ma) :=
  PS.imp (ps_asg ha (pg_sub (pe_var hN hv hd hcd) hb set_list hset) hs hw h1) fun D' σ H ⟨F, ρ, D, I, hm, r⟩ => ⟨F, ρ, _, _, I, hm, fun v ρ1 w F1 H1 I1 s1 r1 h1 => by
    try dsimp only at h1
    split at h1
    · rename_i c p ds e
      obtain ⟨vs, e1, _, _, _⟩ := own_ty I1 e
      refine ⟨_, e1, F1, ρ1, _, _, I1, h1, fun y ρ2 u F2 H2 I2 s2 r2 h2 => ?_, fun _ _ _ _ _ _ _ _ z => z.elim⟩
      try dsimp only at h2
      split at h2
      · rename_i c2 p2 ds2 e2
        split at h2
        · rename_i n
          obtain ⟨j, ej, h2⟩ := opt_get h2
          obtain ⟨vs2, e3, hh, rl, _⟩ := own_ty I2 e2
          rw [e1] at e3
          obtain rfl : p = p2 := by injection e3 with e3; injection e3 with e3; injection e3
          cases r2
          rw [← rl.length] at ej
          exact ⟨p, vs2, n, j, rfl, rfl, hh, ej, r.nx _ σ F2 _ (I2.write e2 (.lst (Reps.set (r1.mono s2) j rl))) (s1.trans s2) h2⟩
        · exact h2.elim
      · exact h2.elim
    · exact h1.elim, r.ex σ⟩
end
end DL

namespace DL
open PyProof.Rows hiding St
open PySem PySem.Spec L2

/-! ### sets of texts: the members in a list -/
def txOf (e : Int × Value) : Str := match e.2 with
  | .str k _ => k
  | _ => Str.empty
def TxS (P : Program) (w : World) (h : Heap) (a : Addr) (L : List Str) : Prop := ∃ ob es ep tb, h.get? a = some ob ∧ ob.ExactSet ∧ ob.data = .set es ep tb ∧ ElemsOf (PySem.strKind P w) es.toList ∧ (es.toList.map txOf).Perm L ∧
  es.size < scanBound ∧ tb.fits es.size = true ∧ Ris tb.place.toList ∧ (w.params.followText "set-order" = true ∨ tb.led = true)
theorem TxS.there {P : Program} {w : World} {h h' : Heap} {a : Addr} {L : List Str} (T : TxS P w h a L) (k : ∀ u, h.get? a = some u → h'.get? a = some u) : TxS P w h' a L := by
  obtain ⟨ob, es, ep, tb, e, rest⟩ := T
  exact ⟨ob, es, ep, tb, k _ e, rest⟩
section
variable {P : Program} {w : World} {A : Around} {E : Value → Shared → Prop} {s : Shared} {a : Addr} {L : List Str}
end
section
variable {P : Program} {w : World} {A : Around} {E : Value → Shared → Prop} {s : Shared}
end
section
variable {P : Program} {w : World} {A : Around} {E : Value → Shared → Prop} {s : Shared}
end
section
variable {P : Program} {w : World} {A : Around} {E : Value → Shared → Prop} {s : Shared}
set_option maxHeartbeats 3200000 in
set_option maxHeartbeats 3200000 in
end
section
variable {X : Cx}
end
/-- sorted(set(texts)) -/
def tx (L : List (List Nat)) (x : List Nat) : List (List Nat) := if x ∈ L then L else x :: L
def dd (ls : List (List Nat)) : List (List Nat) := ls.foldl tx []
def dSortSet (a : DT) : DO := fun ρ R U => a ρ (fun x ρ1 => opt (itemsD x) fun ds => opt (strsD ds) fun ls => ls.length < 64 ∧ R (.lst ((srtL (dd ls)).map Dt.str)) ρ1) U
end DL

namespace DL
open PyProof.Rows hiding St
open PySem PySem.Spec L2

/-! ### f(e), e a new object -/
theorem DI.afterT {K : PySem.W.Frag} {Z : Fm} {F H F' H' : Hp} {σ : St} {ρ : En} {p : Addr} {o : MO} (I : DI K Z F H σ ρ) (N : NewAt K Z F H ρ p o) (A : Aft Z.T K F H [p] F' H') : DI K Z F' H' σ ρ := by
  obtain ⟨hp, atp, _⟩ := N.at_
  have keep : ∀ a u, a ≠ p → H a = some u → (∃ t ∈ Z.T, t.1 = a) ∨ H' a = some u := fun a u n e => by
    rcases A.keep a u e with y | y
    · exact absurd (List.mem_singleton.mp y) n
    · exact y
  have clear : ∀ a u, F a = none → H a = some u → F' a = none := fun a u f e => by
    cases q : F' a with
    | none => rfl
    | some u' =>
      rcases A.fnew a u' q with ⟨u2, z⟩ | z
      · rw [f] at z
        cases z
      · rw [e] at z
        cases z
  exact { f0 := I.f0.trans A.f0, fh := A.fh
          fnew := fun a o h => (A.fnew a o h).elim (fun ⟨o', h'⟩ => I.fnew a o' h') fun h' => .inr (I.free0 h')
          keep := fun a o h => (I.keep a o h).elim .inl fun z => (keep a o (fun e => by rw [e, N.h0] at h; cases h) z).imp_left fun ⟨t, ht, e⟩ => e ▸ I.tabB t ht
          bor := fun b hb => by
            obtain ⟨o, h⟩ := I.bor b hb
            rcases keep b o (fun e => N.nb (e ▸ hb)) h with ⟨t, ht, rfl⟩ | y
            · obtain ⟨ps, h1, _⟩ := A.tab t ht
              exact ⟨_, h1⟩
            · exact ⟨o, y⟩
          len := I.len
          sl := fun i s h => by
            obtain ⟨ov, e1, r⟩ := I.sl i s h
            subst_vars
            cases s with
            | no => exact ⟨ov, e1, trivial⟩
            | exc q C d fs =>
              obtain ⟨e2, z, x⟩ := r
              exact ⟨ov, e1, e2, z, x.mono A.f0⟩
            | dat d =>
              obtain ⟨v, e2, rv⟩ := r
              exact ⟨ov, e1, v, e2, rv.mono A.f0⟩
            | own b q o' =>
              obtain ⟨e2, fq, ho, hq, rq⟩ := r
              rcases keep q ho (N.ne i b q o' h) hq with ⟨t, ht, rfl⟩ | y
              · obtain ⟨ps, h1, _⟩ := I.tab t ht
                rw [h1] at hq
                exact absurd (Option.some.inj hq).symm ((NoTab.rep rq).1 ps)
              · exact ⟨ov, e1, e2, clear q ho fq hq, ho, y, rq.mono A.f0⟩
          ownB := I.ownB, dis := I.dis
          pin := fun a u h => by
            obtain ⟨h1, h2, h3, h4⟩ := I.pin a u h
            rcases keep a u (fun e => by rw [e, N.np] at h; cases h) h1 with ⟨t, ht, rfl⟩ | y
            · exact absurd (I.tabB t ht) h3
            · exact ⟨y, clear a u h2 h1, h3, h4⟩
          ownP := I.ownP, tab := A.tab, tabB := I.tabB, tabF := A.tabF }
def dCallT (s : SpD) (o : DO) : DT := fun ρ R U => o ρ (fun x ρ1 => ∀ p, s [.own false p x] (fun rv _ => match rv.toD with
  | some d => R d ρ1
  | none => False) (fun x _ => U x ρ1)) U
section
variable {X : Cx} {Z : Fm} {W : WX} {k : Nat} {f C : Addr} {fd : FuncData} {ps : List Str} {s : SpD} {x m : Str} {p pos apos : Pos} {e o a b c : Expr} {es : List Expr} {ma mb mo : DT} {mO : DO}
theorem d_callT (hr : Room k X.A) (hgd : X.A.guards = some []) (D : Fd Z.T X.prog X.w X.K X.mg X.base k f ps fd s) (hm : X.mg x = some (.ref f)) (hb : BindK X.K fd ps mkP) (hx : Pass X W) (he : DOk X Z W e mO) (hg : Gl X x := by rfl) (hdb : (x == ("__debug__" : Str)) = false := by decide)
    (hs : starEach [e] X.env = (false, eval e X.env) :: starEach [] X.env := by rfl) : DE X Z W (.Call (.Name x p) [e] [] pos) (dCallT s mO) := by
  refine ⟨fun pins s0 σ H Q I ⟨F, ρ, R, U, Id, hd, q, u⟩ => ?_⟩
  refine wpAny_Call_Name_kw (ld_glob I hg hm ?_ hdb)
  refine PySem.W.callWith_K (h₀ := X.base) I.ok.mod.kin D.kp (thn ((pa_cons he pa_nil hs).run pos pins s0 σ H (fun vs H1 => spOf Z.T X.K s vs H1 Q (fun cls d H' => W cls d σ H')) I ?_) fun us s1 ⟨vs, H1, I1, r, h1⟩ => ⟨I1.kIn, ?_⟩) hs rfl
  · refine ⟨F, ρ, _, U, Id, hd, fun x ρ1 p F1 H1 I1 s1 N h1 => ?_, u⟩
    refine ⟨F1, [.own false p x], I1.fh, .cons ⟨rfl, N.fr, N.at_⟩ .nil, by simp [owns], ⟨I1.tab, I1.tabF⟩, D.mono _ _ _ _ _ (fun rv outs hr => ?_) (fun y outs hu => ?_) (h1 p)⟩
    · intro v F' H' A O rv'
      have A' : Aft Z.T X.K F1 H1 [p] F' H' := A
      have I' := I1.afterT N A'
      cases rv with
      | d d' => exact q d' ρ1 v F' H' I' (s1.trans A.f0) rv' hr
      | o o' =>
        obtain ⟨p', rfl, f', h', at'⟩ := rv'
        have hr' : (match o'.toD with | some d => R d ρ1 | none => False) := hr
        have N' : NewAt X.K Z F' H' ρ1 p' o' := ⟨f', at', I1.free0 h', I1.freeB h', I1.freeP h', fun i b q2 o2 e2 => by
          obtain ⟨_, _, ho, hh, _⟩ := I1.slotO e2
          exact ne_of_none hh h'⟩
        split at hr'
        · rename_i d ed
          obtain ⟨ho, I3, s3, r⟩ := I'.freeze N' ed
          exact q d ρ1 _ _ H' I3 (s1.trans (A.f0.trans s3)) r hr'
        · exact hr'.elim
      | g _ _ => first | exact hr.elim | cases ed
    · intro d F' H' A O xa
      have A' : Aft Z.T X.K F1 H1 [p] F' H' := A
      exact u y ρ1 F' H' d (I1.afterT N A') (s1.trans A.f0) xa hu
  · exact run_G (args := mkP us) D.ok hr hgd (fun s Ks hl => hb s us Ks hl) (hx σ) I1 r h1

/-! ### constants of the module -/
theorem d_glob {v : V} {u : Value} {d : Dt} (hm : X.mg x = some u) (r : RelV v u) (rp : ∀ F, Rep X.K F v d) (hg : Gl X x := by rfl) (hdb : (x == ("__debug__" : Str)) = false := by decide) : DE X Z W (.Name x pos) (dC d) := DE.const (pe_glob hg hm r hdb) rp
theorem d_globI {i : Int} {t : Tok} (hm : X.mg x = some (.int i t)) (hg : Gl X x := by rfl) (hdb : (x == ("__debug__" : Str)) = false := by decide) : DE X Z W (.Name x pos) (dC (.int i)) := d_glob (v := .int i) hm ⟨t, rfl⟩ (fun _ => .int i) hg hdb
/-! ### fields -/
def dFld (Cs : List Addr) (f : Str) (a : DT) : DT := fun ρ R U => a ρ (fun x ρ1 => match x with
  | .ins C fs => C ∈ Cs ∧ opt (fs.lookup f) fun d => R d ρ1
  | _ => False) U
/-- the field of an own instance -/
def dFldO (i : Nat) (Cs : List Addr) (f : Str) : DT := fun ρ R _ => match ρ[i]? with
  | some (.own _ _ (.ins C fs)) => C ∈ Cs ∧ opt (fs.lookup f) fun d => R d ρ
  | _ => False
/-- x.f = e, x an own instance -/
def dFldSet (i : Nat) (Cs : List Addr) (f : Str) (a : DT) : DSt := fun D ρ => a ρ (fun v ρ1 => match ρ1[i]? with
  | some (.own b p (.ins C fs)) => (C ∈ Cs ∧ fs.length < 1000) ∧ D.nx (ρ1.set i (.own b p (.ins C (putD f v fs))))
  | _ => False) D.ex
/-! ### isinstance -/
def dIsi (g : Dt → Option Bool) (a : DT) : DT := fun ρ R U => a ρ (fun x ρ1 => opt (g x) fun b => R (.bl b) ρ1) U
/-! ### repr -/
mutual
theorem plain_no : ∀ d : PyData, d.plain = true → d.hasDict = false
  | .none, _ => rfl
  | .bool _, _ => rfl
  | .int _, _ => rfl
  | .str _, _ => rfl
  | .list xs, h => by
    rw [PyData.plain] at h
    rw [PyData.hasDict]
    exact plain_nos xs h
  | .tuple xs, h => by
    rw [PyData.plain] at h
    rw [PyData.hasDict]
    exact plain_nos xs h
  | .dict _, h => by simp [PyData.plain] at h
theorem plain_nos : ∀ xs : List PyData, PyData.plainAll xs = true → PyData.hasDictAll xs = false
  | [], _ => rfl
  | x :: xs, h => by
    rw [PyData.plainAll, Bool.and_eq_true] at h
    rw [PyData.hasDictAll, plain_no x h.1, plain_nos xs h.2]
    rfl
end
def rRepr (K : PySem.W.Frag) : List V → Hp → VK → Prop := fun xs H Q => ∃ x d, xs = [x] ∧ Dp K H x d ∧ d.plain = true ∧ d.showable = true ∧ d.depth ≤ 8 ∧ d.shown.length ≤ sizeLine ∧ Q (.str d.shown) H
theorem cr_repr (hgd : X.A.guards = some []) (hu : X.A.units + 64 < cLine) : CallR X (.builtin "repr") (rRepr X.K) := by
  intro pins s0 σ H xs us Q I r ⟨x, d, e, hd, hp, hs, hk, hz, q⟩
  subst e
  obtain ⟨u, rfl, ru⟩ := vals1 r
  have h0 := hd
  cases hd with
  | non => obtain rfl : u = .none := ru; exact P.repr_of_none ⟨.str _, H, I.tok _, ⟨_, rfl⟩, q⟩
  | bl b => obtain rfl : u = .bool b := ru; exact P.repr_of_bool ⟨.str _, H, I.tok _, ⟨_, rfl⟩, by cases b <;> exact q⟩
  | int i =>
    obtain ⟨t, rfl⟩ := ru
    have hs' : decide (i.natAbs.log2 < 1920) = true := hs
    exact P.repr_of_int (of_decide_eq_true hs') ⟨.str _, H, I.tok _, ⟨_, rfl⟩, q⟩
  | str z =>
    obtain ⟨t, rfl⟩ := ru
    exact P.repr_of_str ⟨.str _, H, I.tok _, ⟨_, rfl⟩, q⟩ hz
  | lst sq al =>
    obtain ⟨as, rd⟩ := Dp.reads I _ _ u h0 ru
    cases ru
    exact repr_of_reads' rd hs (PyData.noDict_hsm (plain_no _ hp)) hgd (by omega) (fun _ _ e => e) (fun h' t tk keep => ⟨.str _, H, I.kept keep, ⟨t, rfl⟩, q⟩) hz
  | tup sq al =>
    obtain ⟨as, rd⟩ := Dp.reads I _ _ u h0 ru
    cases ru
    exact repr_of_reads' rd hs (PyData.noDict_hsm (plain_no _ hp)) hgd (by omega) (fun _ _ e => e) (fun h' t tk keep => ⟨.str _, H, I.kept keep, ⟨t, rfl⟩, q⟩) hz
end
/-! ### a, b = e, e' with new objects -/
section
variable {K : PySem.W.Frag} {Z : Fm} {F H F' H' : Hp} {σ : St} {ρ ρ' : En} {p : Addr} {o : MO}
end
/-- a new object first, then data -/
def dParOD (i j : Nat) (a : DO) (b : DT) : DSt := fun D ρ => a ρ (fun o ρ1 => ∀ p, b ρ1 (fun y ρ2 => D.nx ((ρ2.set i (.own false p o)).set j (.dat y))) (fun _ _ => False)) D.ex
/-- two new objects -/
def dParOO (i j : Nat) (a b : DO) : DSt := fun D ρ => a ρ (fun o ρ1 => ∀ p, b ρ1 (fun o2 ρ2 => ∀ p2, D.nx ((ρ2.set i (.own false p o)).set j (.own false p2 o2))) (fun _ _ => False)) D.ex
/-- data first, then a new object -/
def dParDO (i j : Nat) (a : DT) (b : DO) : DSt := fun D ρ => a ρ (fun y ρ1 => b ρ1 (fun o ρ2 => ∀ p, D.nx ((ρ2.set i (.dat y)).set j (.own false p o))) D.ex) D.ex
section
variable {X : Cx} {Z : Fm} {W : WX} {i j l : Nat} {x y z : Str} {a b c : Expr} {ma mb mc : DT} {oa ob : DO} {pos px py pz pt pt2 : Pos} {kt k2 : Nat}
/-- a, b, c = data -/
def dPar3 (i j l : Nat) (a b c : DT) : DSt := fun D ρ => a ρ (fun x ρ1 => b ρ1 (fun y ρ2 => c ρ2 (fun z ρ3 => D.nx (((ρ3.set i (.dat x)).set j (.dat y)).set l (.dat z))) D.ex) D.ex) D.ex
end
end DL

namespace DL
open PyProof.Rows hiding St
open PySem PySem.Spec L2

/-! ### the law's end -/
/-- the script as a tracked thing: frozen, where it is not the text's own -/
def scrH (a : Addr) (vs : List Value) (ns : List Int) : Hp := fun b => if b = a then some (.frz { cls := .type "list", data := .seq vs.toArray } (.lst (ns.map V.int))) else none
theorem law_run {P : Program} {w : World} {K : PySem.W.Frag} {mg mb : Str → Option Value} {k : Nat} {fa a : Addr} {fd : FuncData} {x : Str} {s : SpD} {s₁ : Shared} {vs : List Value} {ns : List Int} (KX : K.In s₁.heap) (g : s₁.heap.Ns mainGlobals mg) (b : s₁.heap.Ns builtinsNs mb)
    (bb : ∀ x : Str, x ≠ "__name__" → mb x = bootBuiltins x) (nl : s₁.heap.NoLimit) (gens : s₁.gens = #[]) (at_ : s₁.heap.get? a = some { cls := .type "list", data := .seq vs.toArray }) (is : IntsAre vs ns) (len : ns.length ≤ sizeLine) (room : Room k callerA)
    (D : ∀ base : Heap, K.In base → base.Ns mainGlobals mg → Fd [] P w K mg base k fa [x] fd s) (bind : ∀ (t : Shared) (u : Value), BindsTo t fd ⟨[u], []⟩ [(x, u)])
    (math : s [.dat (.scr (ns.map Dt.int))] (fun rv _ => rv = .d (.bl true)) fun _ _ => False) :
    codeAny (model P w) callerA (.call (.ref fa) ⟨[.ref a], []⟩) (fun r s' => r = .ok (.ret (.bool true)) ∧ OldK s₁.heap s'.heap ∧ s'.os = s₁.os ∧ AllBare s'.gens) s₁ := by
  have main : ∀ H : Hp, (∀ c u, H c = some u → c = a ∧ K.lookup a = none ∧ u = .frz { cls := .type "list", data := .seq vs.toArray } (.lst (ns.map V.int))) → SqL K H a (ns.map V.int) → HOk P w H s₁.heap →
      codeAny (model P w) callerA (.call (.ref fa) ⟨[.ref a], []⟩) (fun r s' => r = .ok (.ret (.bool true)) ∧ OldK s₁.heap s'.heap ∧ s'.os = s₁.os ∧ AllBare s'.gens) s₁ := by
    intro H only sq hok
    have shown : ∀ {c : Addr} {o : Obj}, s₁.heap.get? c = some o → (∀ vs, o.data ≠ .seq vs 0 ∨ c ≠ a) → (hidT s₁.heap H).get? c = some o := fun {c o} e n => hidT_get e (by
      cases q : H c with
      | none => rfl
      | some u =>
        obtain ⟨rfl, _, _⟩ := only c u q
        rw [at_] at e
        cases e
        rcases n vs.toArray with z | z
        · exact absurd rfl z
        · exact absurd rfl z)
    have names : ∀ {c : Addr} {m : Str → Option Value}, s₁.heap.Ns c m → (hidT s₁.heap H).Ns c m := fun {c m} ⟨o, es, ep, e, d, r⟩ => ⟨o, es, ep, shown e (fun z => .inl (by rw [d]; exact fun q => nomatch q)), d, r⟩
    have inK : K.In (hidT s₁.heap H) := fun c o e => hidT_get (KX c o e) (by
      cases q : H c with
      | none => rfl
      | some u =>
        obtain ⟨rfl, z, _⟩ := only c u q
        rw [z] at e
        cases e)
    have env : Env0 P w K mg (hidT s₁.heap H) callerA [] s₁ H :=
      { frames := rfl, mod := ⟨inK, names g, ⟨mb, names b, bb⟩, let ⟨m, h1, h2⟩ := nl; ⟨m, names h1, h2⟩⟩, bs := fun c o e => of_hidT e, bsz := Nat.le_of_eq (hidT_size _ _), funs := trivial, frf := fun c hc => (nomatch hc), hok := hok, bare := .of_eq gens }
    have asked : spOf [] K s [.ref a] H (fun v _ => v = .bl true) (fun _ _ _ => False) :=
      ⟨H, [.dat (.scr (ns.map Dt.int))], Same.refl H, .cons (show Rep K H (.ref a) (.scr (ns.map Dt.int)) from .scr sq Reps.of_ints)   .nil, List.nodup_nil, ⟨(fun t h => nomatch h), (fun t h => nomatch h)⟩, (D _ inK (names g)).mono _ _ _ _ _ (fun rv outs e v F' H' _ _ r => by
        subst e
        have r' : Rep K F' v (.bl true) := r
        cases r'
        rfl) (fun _ _ z => z.elim) math⟩
    refine codeAny_mono ((D _ inK (names g)).ok.run callerA [] s₁ H ⟨[.ref a], []⟩ [.ref a] [.ref a] _ _ room rfl env (bind s₁ (.ref a)) (.cons rfl .nil) asked) fun r s' h => ?_
    match r, h with
    | .error e, h =>
      obtain ⟨_, _, _, _, _, _, _, _, _, _, _, _, z⟩ := h
      exact False.elim z
    | .ok .next, h => exact False.elim h
    | .ok .brk, h => exact False.elim h
    | .ok .cont, h => exact False.elim h
    | .ok (.ret u), ⟨v, H', os, bare, un, hok', ru, q⟩ =>
      obtain rfl : v = V.bl true := q
      obtain rfl : u = Value.bool true := ru
      refine ⟨rfl, OldK.of_keep fun c o e => ?_, os, bare⟩
      cases q : H c with
      | none => exact un.keep c o e q (fun z => by cases z) (by simp)
      | some u =>
        obtain ⟨rfl, _, rfl⟩ := only c u q
        obtain ⟨e2, _⟩ := hok' c _ (un.frzs c _ _ q)
        obtain ⟨e1, _⟩ := hok c _ q
        rw [e] at e1
        cases e1
        exact e2
  cases inK : K.lookup a with
  | some o =>
    have e := KX a o inK
    rw [at_] at e
    cases e
    exact main (fun _ => none) (fun c u z => nomatch (show (none : Option HO) = some u from z)) (.inr ⟨_, vs.toArray, _, inK, rfl, rfl, rfl, by rw [List.size_toArray, is.length]; exact len, by simpa using vals_ints is⟩) (fun c u z => nomatch (show (none : Option HO) = some u from z))
  | none =>
    have here : scrH a vs ns a = some (.frz { cls := .type "list", data := .seq vs.toArray } (.lst (ns.map V.int))) := if_pos rfl
    have away : ∀ c u, scrH a vs ns c = some u → c = a ∧ u = .frz { cls := .type "list", data := .seq vs.toArray } (.lst (ns.map V.int)) := fun c u z => by
      by_cases e : c = a
      · subst e
        rw [here] at z
        exact ⟨rfl, (Option.some.inj z).symm⟩
      · have n : scrH a vs ns c = none := if_neg e
        rw [n] at z
        cases z
    refine main (scrH a vs ns) (fun c u z => ⟨(away c u z).1, inK, (away c u z).2⟩) (.inl (.inr ⟨_, here⟩)) fun c u z => ?_
    obtain ⟨rfl, rfl⟩ := away c u z
    exact ⟨at_, by rw [List.length_map]; exact len, vs, _, vals_ints is, at_⟩
theorem law_end {l : PySem.W.OpenLaw} {n k : Nat} {q : Program} {loose : List Str} {XP : (Str → Option Value) → Heap → Prop} {YP : World → Heap → Prop} {d : DefRec} {x : Str} (most : l.most = some n) (line : n ≤ sizeLine) (bare : d.params.defaults = []) (room : Room k callerA)
    (F : ∀ (w : World) (mg : Str → Option Value) (fa : Addr) (h : Heap), YP w h → h.Ns mainGlobals mg → mg d.name = some (.ref fa) → ∃ (K : PySem.W.Frag) (fd : FuncData) (s : SpD), K.In h ∧ (∀ (t : Shared) (u : Value), BindsTo t fd ⟨[u], []⟩ [(x, u)]) ∧
      (∀ ns : List Int, ns.length ≤ n → s [.dat (.scr (ns.map Dt.int))] (fun rv _ => rv = .d (.bl true)) fun _ _ => False) ∧ ∀ base : Heap, K.In base → base.Ns mainGlobals mg → Fd [] l.prog w K mg base k fa [x] fd s) :
    PySem.W.WalkO q loose XP YP l.row.toRowW d [] (fun f vs => PySem.call f vs) :=
  Att.attach_call most bare fun w s₀ s₁ mg mb fa o pm cd doc a vs ns G Y ho hd hcd hmg hobj hints hlen hg => by
    obtain ⟨K, fd, s, KX, bind, math, D⟩ := F w mg fa _ Y G.T.g hmg
    exact law_run KX G.T.g G.T.b G.T.builtins G.T.nolimit hg hobj hints (Nat.le_trans hlen line) room D bind (math ns hlen)

/-! ### what the head tells: defs by their places in the written part -/
end DL

namespace DL
open PyProof.Rows hiding St
open PySem PySem.Spec L2
section
variable {P : Program} {w : World} {K : PySem.W.Frag} {mg : Str → Option Value} {base : Heap} {N : List Str} {qual : Str} {scope : Scope} {f : Addr} {cd : Value} {A : Around} {outer : List Env} {s : Shared} {H : Hp} {E : XK}
theorem takes_cx : Takes (cxOf (L2.CX P w) P w K mg base N qual scope f cd A outer s H E) (fun cls d _ H' => E cls d H') := takes_of (E := E) (E₁ := fun e' s'' => L2.CX P w outer H s E e' s'') rfl rfl rfl rfl
theorem owns_cx : PassesOwn (model P w) (cxOf (L2.CX P w) P w K mg base N qual scope f cd A outer s H E).A (cxOf (L2.CX P w) P w K mg base N qual scope f cd A outer s H E).env (cxOf (L2.CX P w) P w K mg base N qual scope f cd A outer s H E).xe :=
  passes_of (X := cxOf (L2.CX P w) P w K mg base N qual scope f cd A outer s H E) (K := fun e s'' => L2.CX P w outer H s E e s'') (E₁ := fun e s'' => L2.CX P w outer H s E e s'') rfl
theorem pass_cx : Pass (cxOf (L2.CX P w) P w K mg base N qual scope f cd A outer s H E) (fun cls d _ H' => E cls d H') := pass_of takes_cx
end
end DL

namespace DL
open PyProof.Rows hiding St
open PySem PySem.Spec L2

/-! ### how given values reach a def's parameters -/
section
variable {K : PySem.W.Frag} {x qual : Str} {params : Arguments} {body : List Stmt} {scope : Scope} {kws : List (Str × V)} {f : Addr} {fd : FuncData} {ps : List Str}
theorem bindU {un : List Value → Args} (F : FunD K x qual params body scope [] kws f fd) (h : ∀ (kV doc pm : Value) (an : Option Addr) (cdv ct : Value) (us : List Value), us.length = ps.length → bindArgs (PySem.W.fnOf x qual params body scope .none kV doc pm an cdv ct) (un us) = pure (ps.zip us)) : BindK K fd ps un := by
  obtain ⟨oc, od, dV, kV, doc, pm, an, cdv, ct, osl, rfl, lk, hcd, hd, hk⟩ := F.ex
  intro s us Ks hl
  rcases hd with ⟨_, rfl⟩ | ⟨h1, _⟩
  · intro M A E Q hq
    first
      | exact wpAny_of_eq (h kV doc pm an cdv ct us hl) hq
      | (rw [h kV doc pm an cdv ct us hl]; exact wpAny_pure hq)
  · exact absurd rfl h1
theorem bindP (F : FunD K x qual params body scope [] kws f fd) (h : ∀ (kV doc pm : Value) (an : Option Addr) (cdv ct : Value) (us : List Value), us.length = ps.length → bindArgs (PySem.W.fnOf x qual params body scope .none kV doc pm an cdv ct) ⟨us, []⟩ = pure (ps.zip us)) : BindK K fd ps mkP := fun s us _ hl => FunD.bindsA F h s us hl
end
section
variable {X : Cx} {Z : Fm} {W : WX} {x : Str} {pos : Pos}
theorem d_gI {i : Int} (hm : ∃ t, X.mg x = some (.int i t)) (hg : Gl X x := by rfl) (hdb : (x == ("__debug__" : Str)) = false := by decide) : DE X Z W (.Name x pos) (dC (.int i)) := by
  obtain ⟨t, h⟩ := hm
  exact d_globI h hg hdb
end
/-! ### facts that the head tells, as tests -/
theorem oEqB_ok {a b : Option Bool} (h : oEqB a b = true) : a = b := by
  cases a with
  | none => cases b with
    | none => rfl
    | some _ => cases h
  | some x => cases b with
    | none => cases h
    | some y => exact congrArg some (eq_of_beq h)
/-! ### promises of one form -/
end DL

namespace DL
open PyProof.Rows hiding St
open PySem PySem.Spec L2

/-! ### a text backwards: a[::-1] -/
section
variable {X : Cx} {Z : Fm} {W : WX} {e a b c : Expr} {ma mb mc : DT} {te : TE} {pos p1 p2 p3 : Pos} {k : Nat}
/-! ### [texts].index(text) -/
end
end DL
namespace DL
open PyProof.Rows hiding St
open PySem PySem.Spec L2
/-! ### len(set(texts)) -/
section
variable {X : Cx}
variable {Z : Fm} {W : WX} {a : Expr} {ma : DT} {p1 p2 p3 pos : Pos}
end
end DL

namespace DL
open PyProof.Rows hiding St
open PySem PySem.Spec L2
/-! ### a tuple of the module; a dict of the module with text keys -/
section
variable {X : Cx} {Z : Fm} {W : WX} {x : Str} {pos : Pos}
end

/-! ### [elt for tg in iter if .. for tg1 in iter1 if ..] -/
section
variable {X : Cx} {Z : Fm} {W : WX} {elt tg iter tg1 iter1 : Expr} {ifs ifs1 : List Expr} {scope : Scope} {own : List (Str × Nat)} {pos : Pos} {mi mi1 : DI'} {ts ts1 : List Nat} {g g1 : DG} {tt tt1 : DB} {me : DT}
end

/-! ### the head's hook, with tables -/
theorem lookB_eq {n : Nat} {fn : List DefA} {ex : PySem.W.Frag → Bool} {ts : List TabN} (s : PySem.W.SharedT) : lookB n fn ex ts s = (hookB n fn ex ts).obs s.abs := by
  have e : HandSHeadRun.getT s = s.abs.heap.get? := funext (HandSHeadRun.getT_eq s)
  unfold lookB
  rw [e]
  rfl
end DL

namespace DL
open PyProof.Rows hiding St
open PySem PySem.Spec L2
/-! ### a text into names: a, b, c = text -/
section
variable {prog : Program} {w : World} {A : Around} {E : Value → Shared → Prop}
end
end DL

namespace DL
open PyProof.Rows hiding St
open PySem PySem.Spec L2
/-! ### text.index(sign), the sign is there -/
section
variable {X : Cx} {Z : Fm} {W : WX} {o a b : Expr} {mo ma mb : DT} {pos : Pos}
/-! ### divmod -/
/-! ### x[b] as a target among others -/
/-! ### a, b = a list of data -/
/-! ### own.extend(list) -/
end
/-! ### own __contains__, __len__ -/
section
variable {prog : Program} {w : World} {A : Around} {E : Value → Shared → Prop} {s : Shared} {K : PySem.W.Frag} {x C f : Addr} {ox : Obj} {od : Option Obj} {name : Str}
end
section
variable {X : Cx} {T : List (Addr × Str)} {k : Nat} {f C : Addr} {fd : FuncData} {ps : List Str} {sp : SpD}
def ownB (K : PySem.W.Frag) (x name : Str) : Bool := He.eqO (PySem.W.findIn K (.ref (He.ga K x)) name) (some (some (.ref (He.ma K (He.ga K x) name)))) && PySem.W.isFn K (.ref (He.ma K (He.ga K x) name))
/-! ### readings at the frames of some tables -/
end
section
variable {X : Cx} {Z : Fm} {W : WX} {a b : Expr} {ma mb : DT} {pos : Pos}
end
/-! ### products of great numbers -/
end DL

namespace DL
open PyProof.Rows hiding St
open PySem PySem.Spec L2
/-! ### own dicts with text keys -/
def keyD : Dt → Option Key
  | .str l => some (.inr ⟨l.toArray⟩)
  | .int i => some (.inl i)
  | _ => none
def getK (kvs : List (Key × Dt)) (k : Key) : Option Dt := (kvs.find? fun kv => decide (kv.1 = k)).map (·.2)
def putKD (kvs : List (Key × Dt)) (k : Key) (v : Dt) : List (Key × Dt) :=
  if (kvs.any fun kv => decide (kv.1 = k)) = true then kvs.map fun kv => if kv.1 = k then (kv.1, v) else kv else kvs ++ [(k, v)]
section
variable {K : PySem.W.Frag} {F : Hp}
theorem RepK.get {k : Key} {d : Dt} : ∀ {vs : List (Key × V)} {ds : List (Key × Dt)}, RepK K F vs ds → getK ds k = some d → ∃ v, valV vs k = some v ∧ Rep K F v d
  | _, _, .nil, e => by cases e
  | _, _, .cons (k := k') (v := v) (d := d') (vs := vs) (ds := ds) h t, e => by
    unfold getK at e
    rw [List.find?_cons] at e
    by_cases q : k' = k
    · rw [show decide (((k', d') : Key × Dt).1 = k) = true from decide_eq_true q] at e
      obtain rfl := Option.some.inj e
      exact ⟨v, valV_pos q, h⟩
    · rw [show decide (((k', d') : Key × Dt).1 = k) = false from decide_eq_false q] at e
      obtain ⟨v', e', r⟩ := RepK.get t (show getK ds k = some d from e)
      exact ⟨v', by rw [valV_neg q]; exact e', r⟩
theorem RepK.any {k : Key} : ∀ {vs : List (Key × V)} {ds : List (Key × Dt)}, RepK K F vs ds → (vs.any fun kv => decide (kv.1 = k)) = ds.any fun kv => decide (kv.1 = k)
  | _, _, .nil => rfl
  | _, _, .cons h t => by rw [List.any_cons, List.any_cons, RepK.any t]
theorem RepK.repl {k : Key} {v : V} {d : Dt} (h : Rep K F v d) : ∀ {vs : List (Key × V)} {ds : List (Key × Dt)}, RepK K F vs ds → RepK K F (vs.map fun kv => if kv.1 = k then (kv.1, v) else kv) (ds.map fun kv => if kv.1 = k then (kv.1, d) else kv)
  | _, _, .nil => .nil
  | _, _, .cons (k := k') r t => by
    rw [List.map_cons, List.map_cons]
    by_cases q : k' = k
    · rw [if_pos q, if_pos q]; exact .cons h (RepK.repl h t)
    · rw [if_neg q, if_neg q]; exact .cons r (RepK.repl h t)
theorem RepK.snoc {k : Key} {v : V} {d : Dt} (h : Rep K F v d) : ∀ {vs : List (Key × V)} {ds : List (Key × Dt)}, RepK K F vs ds → RepK K F (vs ++ [(k, v)]) (ds ++ [(k, d)])
  | _, _, .nil => .cons h .nil
  | _, _, .cons r t => .cons r (RepK.snoc h t)
theorem RepK.put {k : Key} {v : V} {d : Dt} {vs : List (Key × V)} {ds : List (Key × Dt)} (r : RepK K F vs ds) (h : Rep K F v d) : RepK K F (putK vs k v) (putKD ds k d) := by
  unfold putK putKD
  rw [RepK.any r]
  split
  · exact r.repl h
  · exact r.snoc h
end
section
variable {X : Cx} {Z : Fm} {W : WX} {a b o : Expr} {ma mb mo : DT} {pos : Pos}
def dDict0 : DO := fun ρ R _ => R (.dK []) ρ
theorem d_dict0 : DOk X Z W (.Dict [] [] pos) dDict0 :=
  PE.imp pe_dnewK fun σ H Q ⟨F, ρ, R, U, I, hm, q, u⟩ => fun p np => q _ ρ p F _ (I.freshO (ho := .dK []) np) (Same.refl F) (I.newAt np (.dK .nil)) hm
/-- d[k], d frozen -/
def dGet (a b : DT) : DT := fun ρ R U => a ρ (fun x ρ1 => b ρ1 (fun y ρ2 => match x with
  | .dct kvs => opt (keyD y) fun k => opt (getK kvs k) fun d => R d ρ2
  | _ => False) U) U
/-- x[b] = a, x an own dict -/
def dDPut (i : Nat) (b a : DT) : DSt := fun D ρ => a ρ (fun v ρ1 => match ρ1[i]? with
  | some (.own _ _ (.dK _)) => b ρ1 (fun y ρ2 => match ρ2[i]? with
    | some (.own c p (.dK kvs)) => opt (keyD y) fun k => kvs.length < 1000 ∧ D.nx (ρ2.set i (.own c p (.dK (putKD kvs k v))))
    | _ => False) (fun _ _ => False)
  | _ => False) D.ex
/-! ### zip of two tuples, or of two lists -/
end
/-! ### a, b, .. = e, f, ..: the tuple between is not tracked -/
def dPar3DDO (i j l : Nat) (a b : DT) (c : DO) : DSt := fun D ρ => a ρ (fun x ρ1 => b ρ1 (fun y ρ2 => c ρ2 (fun o ρ3 => ∀ p, D.nx (((ρ3.set i (.dat x)).set j (.dat y)).set l (.own false p o))) D.ex) D.ex) D.ex
/-! ### // by a divisor of less than 9000 bits -/
def CDivQ (i j : Int) : Prop := 0 < j ∧ Builtin.divisionGoesByPylong i j = false
theorem divq {i j : Int} (h0 : 0 < j) (h : j.natAbs.log2 < 8000) : CDivQ i j := by
  refine ⟨h0, ?_⟩
  unfold Builtin.divisionGoesByPylong
  have : ¬ ((if j == 0 then 0 else j.natAbs.log2 / 30 + 1) > 300) := by
    split <;> omega
  simp only [decide_eq_false this, Bool.false_and]
def oDivQ : O2 := fun x y k => match x, y with
  | .int i, .int j => CDivQ i j ∧ k (.int (i / j))
  | _, _ => False
theorem op_fdivQ {X : Cx} : OpR X (binaryOp .FloorDiv) (rI CDivQ fun i j => .int (i / j)) := opI fun i j _ _ _ _ _ hc q => by
  have h1 : (0 : Int) < j := hc.1
  exact floordiv_int (by omega) (by rw [Int.fdiv_eq_ediv_of_nonneg i (by omega)]; exact q) (.inl hc.2)
theorem v_divQ {K : PySem.W.Frag} : V2 K (rI CDivQ fun i j => .int (i / j)) oDivQ := fun Z F H σ ρ x y dx dy k Q I rx ry h q => by
  cases rx with
  | int i =>
    cases ry with
    | int j => exact ⟨i, j, rfl, rfl, h.1, rt_here I (.int _) (q _ h.2)⟩
    | _ => exact h.elim
  | _ => cases ry <;> exact h.elim
end DL

namespace DL
open PyProof.Rows hiding St
open PySem PySem.Spec L2
/-! ### sum of a list or a tuple of ints -/
section
variable {prog : Program} {w : World} {A : Around} {E : Value → Shared → Prop} {s : Shared} {t : Addr} {Q : Value → Shared → Prop}
end
def oSumA : O1 := fun x k => opt (itemsD x) fun ds => opt (intsD ds) fun bs => k (.int bs.sum)
end DL

namespace DL
open PyProof.Rows hiding St
open PySem PySem.Spec L2
/-! ### key in d, list(d): d a frozen dict -/
def oInD (neg : Bool) : O2 := fun x y k => match y with
  | .dct kvs => opt (keyD x) fun kk => k (.bl (xor neg (getK kvs kk).isSome))
  | _ => False
theorem RepK.isSome {K : PySem.W.Frag} {F : Hp} {k : Key} : ∀ {vs : List (Key × V)} {ds : List (Key × Dt)}, RepK K F vs ds → (valV vs k).isSome = (getK ds k).isSome
  | _, _, .nil => rfl
  | _, _, .cons (k := k') (v := v) (d := d') (vs := vs) (ds := ds) h t => by
    unfold getK
    rw [List.find?_cons]
    by_cases q : k' = k
    · rw [show decide (((k', d') : Key × Dt).1 = k) = true from decide_eq_true q, valV_pos q]
      rfl
    · rw [show decide (((k', d') : Key × Dt).1 = k) = false from decide_eq_false q, valV_neg q]
      exact RepK.isSome t
end DL
namespace DL
open PyProof.Rows hiding St
open PySem PySem.Spec L2
/-! ### len(set(text)) -/
section
variable {P : Program} {w : World} {A : Around} {E : Value → Shared → Prop} {s : Shared}
end
section
variable {X : Cx}
variable {Z : Fm} {W : WX} {a : Expr} {ma : DT} {p1 p2 p3 pos : Pos}
def dLenSetS (a : DT) : DT := fun ρ R U => a ρ (fun x ρ1 => match x with
  | .str l => l.length < 64 ∧ R (.int (dd (l.map fun c => [c])).length) ρ1
  | _ => False) U
end
end DL

namespace DL
open PyProof.Rows hiding St
open PySem PySem.Spec L2
/-! ### the law's end with tables of code objects -/
end DL

namespace DL
open PyProof.Rows hiding St
open PySem PySem.Spec L2
/-! ### a lambda is made -/
section
variable {X : Cx} {pins : List (Addr × Obj)} {σ : St} {H : Hp} {s : Shared} {T : List (Addr × Str)} {c P : Addr} {params : Arguments} {body : Expr} {scope : Scope} {pos : Pos}
/-! ### a lambda with one parameter: its names, its entry -/
structure LamP (sc scope : Scope) (y : Str) : Prop where
  kind : scope.kind = .function
  co : scope.isCoroutine = false
  gen : scope.isGenerator = false
  par : scope.names.lookup y = some .local
  nocell : ∀ z ∈ scope.names, z.2 ≠ .cell
  own : ∀ z ∈ scope.names, z.2 = .local → z.1 = y
  free : ∀ z ∈ scope.names, z.2 = .free → sc.names.lookup z.1 = some .cell ∨ sc.names.lookup z.1 = some .free
theorem LamP.has {y : Str} (L : LamP X.env.scope scope y) (ok : X.Ok) : ∀ z ∈ scope.names, z.2 = .free → ∃ a, X.env.cells.lookup z.1 = some a := fun z hz e => ok.has _ (L.free z hz e)
end
end DL

namespace DL
open PyProof.Rows hiding St
open PySem PySem.Spec L2
section
variable {X : Cx} {pins : List (Addr × Obj)} {σ : St} {H : Hp} {s : Shared} {T : List (Addr × Str)} {c P : Addr} {params : Arguments} {body : Expr} {scope : Scope} {pos : Pos}
end
/-! ### sorting by keys that a lambda makes -/
section
variable {X : Cx} {pins : List (Addr × Obj)} {σ : St} {H : Hp} {s : Shared} {A : Around} {E : Value → Shared → Prop} {vs : List Value}
end
section
variable {X : Cx} {pins : List (Addr × Obj)} {σ : St} {H : Hp} {s : Shared}
end
section
variable {X : Cx} {Z : Fm} {W : WX} {e : Expr} {me mb : DT} {k i : Nat} {c P : Addr} {y : Str} {params : Arguments} {body : Expr} {scope : Scope} {p lpos kpos pos : Pos}
end
end DL

namespace DL
open PyProof.Rows hiding St
open PySem PySem.Spec L2
/-! ### the head's hook, with tables of code objects -/
def codeAd (K : PySem.W.Frag) (a : Addr) : Addr := match K.lookup a with
  | some ⟨_, _, .func f, _⟩ => (match f.code with
    | .ref c => c
    | _ => 0)
  | _ => 0
def tabAd (K : PySem.W.Frag) (a : Addr) : Addr := match K.lookup (codeAd K a) with
  | some ⟨_, _, .fields vs, _⟩ => (match (vs[11]? : Option Value) with
    | some (.ref P) => P
    | _ => 0)
  | _ => 0
def tabsOf (K : PySem.W.Frag) (ls : List DefA) : List Addr := ls.map fun d => tabAd K (d.adr K)
structure SaysT (fn : List DefA) (ex : PySem.W.Frag → Bool) (ts : List TabN) (ls : List DefA) (w : World) (K : PySem.W.Frag) (h : Heap) : Prop where
  b : SaysB fn ex ts w K
  hd : ∀ d ∈ ls, PySem.W.CodeHd h (codeAd K (d.adr K)) (tabAd K (d.adr K))
  at_ : ∀ d ∈ ls, h.get? (tabAd K (d.adr K)) = some { cls := .none, data := .fields #[] }
  out : ∀ d ∈ ls, K.lookup (tabAd K (d.adr K)) = none
  nd : (tabsOf K ls).Nodup
/-! ### the tables as the derivations want them -/
def csOf (K : PySem.W.Frag) (ls : List DefA) : List (Addr × Addr) := ls.map fun d => (codeAd K (d.adr K), tabAd K (d.adr K))
section
variable {fn : List DefA} {ex : PySem.W.Frag → Bool} {ts : List TabN} {ls : List DefA} {w : World} {K : PySem.W.Frag} {h : Heap}
theorem SaysT.outs (c : SaysT fn ex ts ls w K h) : ∀ p ∈ csOf K ls, K.lookup p.2 = none := fun p hp => by
  obtain ⟨d, hd, rfl⟩ := List.mem_map.mp hp
  exact c.out d hd
theorem SaysT.hds (c : SaysT fn ex ts ls w K h) : ∀ p ∈ csOf K ls, PySem.W.CodeHd h p.1 p.2 := fun p hp => by
  obtain ⟨d, hd, rfl⟩ := List.mem_map.mp hp
  exact c.hd d hd
end
end DL

namespace DL
open PyProof.Rows hiding St
open PySem PySem.Spec L2
/-! ### list(range(a, b, c)) -/
section
variable {X : Cx} {Z : Fm} {W : WX} {a b c : Expr} {ma mb mc : DT} {pos pos2 p p2 : Pos}
end
end DL

namespace DL
open PyProof.Rows hiding St
open PySem PySem.Spec L2
/-! ### len(set(texts)), of a list or a tuple -/
section
variable {X : Cx} {Z : Fm} {W : WX} {a : Expr} {ma : DT} {p1 p2 p3 pos : Pos}
end
end DL

namespace DL
open PyProof.Rows hiding St
open PySem PySem.Spec L2
/-! ### divmod by a great divisor -/
/-! ### a[::-1] of a list or a tuple -/
section
variable {prog : Program} {w : World} {A : Around} {E : Value → Shared → Prop} {s : Shared}
end
section
variable {X : Cx}
theorem Reps.snoc {K : PySem.W.Frag} {F : Hp} : ∀ {vs : List V} {ds : List Dt} {v : V} {d : Dt}, Reps K F vs ds → Rep K F v d → Reps K F (vs ++ [v]) (ds ++ [d])
  | _, _, _, _, .nil, h => .cons h .nil
  | _, _, _, _, .cons g t, h => .cons g (Reps.snoc t h)
theorem Reps.back {K : PySem.W.Frag} {F : Hp} : ∀ {vs : List V} {ds : List Dt}, Reps K F vs ds → Reps K F vs.reverse ds.reverse
  | _, _, .nil => .nil
  | _, _, .cons g t => by
    rw [List.reverse_cons, List.reverse_cons]
    exact (Reps.back t).snoc g
variable {Z : Fm} {W : WX} {a b o : Expr} {ma mb mo : DT} {p1 p2 p3 pos : Pos} {k : Nat}
end
end DL

namespace DL
open PyProof.Rows hiding St
open PySem PySem.Spec L2
/-! ### what the names reach, by rounds over the new addresses alone; the seen ones are the bits of a number -/
end DL

namespace DL
open PyProof.Rows hiding St
open PySem PySem.Spec L2
/-! ### dict comprehensions -/
section
variable {X : Cx} {Z : Fm} {W : WX} {kx vx tg iter : Expr} {ifs : List Expr} {scope : Scope} {own : List (Str × Nat)} {pos : Pos} {mi : DI'} {ts : List Nat} {g : DG} {tt : DB} {mk me : DT}
end
end DL

namespace DL
open PyProof.Rows hiding St
open PySem PySem.Spec L2
/-! ### a[lo::step] of a list -/
theorem Vals.pick {xs : List V} {us : List Value} (r : Vals xs us) : ∀ ks : List Nat, Vals (ks.filterMap (xs[·]?)) (ks.filterMap (us[·]?))
  | [] => .nil
  | k :: ks => by
    rw [List.filterMap_cons, List.filterMap_cons]
    cases e : xs[k]? with
    | none =>
      have : us[k]? = none := by
        rw [List.getElem?_eq_none_iff] at e ⊢
        rw [← r.length]; exact e
      rw [this]
      exact Vals.pick r ks
    | some x =>
      obtain ⟨u, hu, ru⟩ := r.get e
      rw [hu]
      exact .cons ru (Vals.pick r ks)
theorem Reps.pick {K : PySem.W.Frag} {F : Hp} {vs : List V} {ds : List Dt} (r : Reps K F vs ds) : ∀ ks : List Nat, Reps K F (ks.filterMap (vs[·]?)) (ks.filterMap (ds[·]?))
  | [] => .nil
  | k :: ks => by
    rw [List.filterMap_cons, List.filterMap_cons]
    have g : ∀ {vs : List V} {ds : List Dt}, Reps K F vs ds → ∀ k : Nat, (vs[k]? = none ∧ ds[k]? = none) ∨ ∃ v d, vs[k]? = some v ∧ ds[k]? = some d ∧ Rep K F v d := fun {vs ds} r => by
      induction ds generalizing vs with
      | nil => cases r; exact fun k => .inl ⟨rfl, rfl⟩
      | cons d ds ih =>
        cases r with
        | cons h t => exact fun k => match k with
          | 0 => .inr ⟨_, _, rfl, rfl, h⟩
          | k + 1 => by simpa using ih t k
    rcases g r k with ⟨e1, e2⟩ | ⟨v, d, e1, e2, h⟩
    · rw [e1, e2]
      exact Reps.pick r ks
    · rw [e1, e2]
      exact .cons h (Reps.pick r ks)
section
variable {X : Cx}
variable {Z : Fm} {W : WX} {a : Expr} {ma : DT} {p2 pos : Pos}
/-! ### min, max of a list of three numbers -/
end
end DL

namespace DL
open PyProof.Rows hiding St
open PySem PySem.Spec L2
/-! ### sorted: ints, a tuple of texts -/
end DL

namespace DL
open PyProof.Rows hiding St
open PySem PySem.Spec L2
/-! ### an own object looked at as data, for an answer that holds no address -/
def Flat : Dt → Prop
  | .non => True
  | .bl _ => True
  | .int _ => True
  | .str _ => True
  | _ => False
theorem Rep.flat {K : PySem.W.Frag} {F G : Hp} {v : V} {d : Dt} (r : Rep K F v d) (h : Flat d) : Rep K G v d := by
  cases r with
  | non => exact .non
  | bl b => exact .bl b
  | int i => exact .int i
  | str l hl => exact .str l hl
  | _ => exact h.elim
section
variable {K : PySem.W.Frag} {Z : Fm} {F F1 H H1 : Hp} {σ : St} {ρ : En} {p : Addr} {ho : HO}
/-- the state of a look: the object at p frozen, nothing else is told -/
theorem DI.look (I : DI K Z F H σ ρ) (hh : H p = some ho) : DI K ⟨upd F p ho, H, [], fun _ => none, []⟩ (upd F p ho) H σ (List.replicate σ.length .no) where
  f0 := Same.refl _
  fh := fun b x e => by
    by_cases q : b = p
    · subst q
      rw [upd_same] at e
      rw [hh]
      exact e
    · rw [upd_ne q] at e
      exact I.fh b x e
  fnew := fun a o e => .inl ⟨o, e⟩
  keep := fun a o e => .inr e
  bor := fun b hb => nomatch hb
  len := by rw [List.length_replicate]
  sl := fun i s e => by
    have hi : i < σ.length := by
      have := (List.getElem?_eq_some_iff.mp e).1
      rwa [List.length_replicate] at this
    rw [List.getElem?_replicate, if_pos hi] at e
    obtain rfl := Option.some.inj e
    exact ⟨σ[i], List.getElem?_eq_getElem hi, trivial⟩
  ownB := fun i b q o e => by
    rw [List.getElem?_replicate] at e
    split at e <;> cases e
  dis := fun i j b c q o q' o' e => by
    rw [List.getElem?_replicate] at e
    split at e <;> cases e
  pin := fun a u e => nomatch e
  ownP := fun i b q o e => rfl
  tab := fun t ht => nomatch ht
  tabB := fun t ht => nomatch ht
  tabF := fun t ht => nomatch ht
def cutH (F : Hp) (p : Addr) : Hp := fun a => if a = p then none else F a
/-- and back -/
theorem DI.looked (I : DI K Z F H σ ρ) (fp : F p = none) (hh : H p = some ho) (J : DI K ⟨upd F p ho, H, [], fun _ => none, []⟩ F1 H1 σ (List.replicate σ.length .no)) : DI K Z (cutH F1 p) H1 σ ρ ∧ Same F (cutH F1 p) := by
  have ne : ∀ {a : Addr} {o : HO}, cutH F1 p a = some o → a ≠ p ∧ F1 a = some o := fun {a o} e => by
    unfold cutH at e
    split at e
    · cases e
    · rename_i q
      exact ⟨q, e⟩
  have sF : Same F (cutH F1 p) := fun a o e => by
    have q : a ≠ p := fun z => by rw [z, fp] at e; cases e
    unfold cutH
    rw [if_neg q]
    exact J.f0 a o (by show upd F p ho a = some o; rw [upd_ne q]; exact e)
  have kp : ∀ a o, H a = some o → H1 a = some o := fun a o e => (J.keep a o e).resolve_left (fun z => nomatch z)
  refine ⟨?_, sF⟩
  exact {
    f0 := I.f0.trans sF
    fh := fun a o e => J.fh a o (ne e).2
    fnew := fun a o e => by
      obtain ⟨q, e1⟩ := ne e
      rcases J.fnew a o e1 with ⟨o', z⟩ | z
      · have z' : upd F p ho a = some o' := z
        rw [upd_ne q] at z'
        exact I.fnew a o' z'
      · exact .inr (I.free0 z)
    keep := fun a o e => (I.keep a o e).imp id (kp a o)
    bor := fun b hb => by
      obtain ⟨o, e⟩ := I.bor b hb
      exact ⟨o, kp b o e⟩
    len := I.len
    sl := fun i s e => by
      obtain ⟨ov, e1, r⟩ := I.sl i s e
      refine ⟨ov, e1, r.up sF fun q hq ⟨b, oo, eo⟩ fq hh' => ⟨?_, kp _ _ hh'⟩⟩
      cases w : cutH F1 p q with
      | none => rfl
      | some u =>
        obtain ⟨qp, w1⟩ := ne w
        rcases J.fnew q u w1 with ⟨o', z⟩ | z
        · have z' : upd F p ho q = some o' := z
          rw [upd_ne qp, fq] at z'
          cases z'
        · have z' : H q = none := z
          rw [z'] at hh'
          cases hh'
    ownB := I.ownB
    dis := I.dis
    pin := fun a u e => by
      obtain ⟨h1, h2, h3, h4⟩ := I.pin a u e
      refine ⟨kp a u h1, ?_, h3, h4⟩
      cases w : cutH F1 p a with
      | none => rfl
      | some u' =>
        obtain ⟨qp, w1⟩ := ne w
        rcases J.fnew a u' w1 with ⟨o', z⟩ | z
        · have z' : upd F p ho a = some o' := z
          rw [upd_ne qp, h2] at z'
          cases z'
        · have z' : H a = none := z
          rw [z'] at h1
          cases h1
    ownP := I.ownP
    tab := I.tab.ext kp
    tabB := I.tabB
    tabF := fun t ht => by
      have h2 := I.tabF t ht
      cases w : cutH F1 p t.1 with
      | none => rfl
      | some u' =>
        obtain ⟨qp, w1⟩ := ne w
        rcases J.fnew t.1 u' w1 with ⟨o', z⟩ | z
        · have z' : upd F p ho t.1 = some o' := z
          rw [upd_ne qp, h2] at z'
          cases z'
        · obtain ⟨ps, h1, _⟩ := I.tab t ht
          have z' : H t.1 = none := z
          rw [z'] at h1
          cases h1 }
end
section
variable {X : Cx} {Z : Fm} {W : WX} {e a b c o : Expr} {ma mb mc mo : DT} {pos : Pos}
variable {x : Str} {p1 p2 : Pos}
end
end DL

namespace DL
open PyProof.Rows hiding St
open PySem PySem.Spec L2
/-! ### text.split(sep) -/
section
variable {X : Cx} {Z : Fm} {W : WX} {e a b c o : Expr} {ma mb mc mo : DT} {pos : Pos}
/-! ### try: body, where nothing is raised -/
/-! ### a key in a dict of the module -/
variable {x : Str} {p1 : Pos}
end
end DL

namespace DL
open PyProof.Rows hiding St
open PySem PySem.Spec L2
/-! ### sorted(v): v is gathered into ints first -/
/-! ### sorted(d.values()), ints -/
/-! ### list(range(n)) -/
/-! ### three new objects at once -/
end DL

namespace DL
open PyProof.Rows hiding St
open PySem PySem.Spec L2
/-! ### zip of a list and a tuple -/
end DL

namespace DL
open PyProof.Rows hiding St
open PySem PySem.Spec L2
/-! ### str(x), x of a class with an own __str__ -/
section
variable {X : Cx} {T : List (Addr × Str)} {k : Nat} {f C : Addr} {fd : FuncData} {ps : List Str} {sp : SpD}
end
/-! ### {"a": 1, ..} of written texts and numbers -/
def dDictC (ks : List (List Nat × Int)) : DO := fun ρ R _ => R (.dK (ks.map fun p => ((.inr (mkS p.1) : Key), Dt.int p.2))) ρ
def kvC (p : List Nat × Int) : Key × V := (.inr (mkS p.1), .int p.2)
theorem mergeK_nd : ∀ (ks : List (List Nat × Int)) (acc : List (Key × V)), (ks.map (·.1)).Nodup → (∀ p ∈ ks, ∀ kv ∈ acc, kv.1 ≠ .inr (mkS p.1)) → mergeK acc (ks.map kvC) = acc ++ ks.map kvC
  | [], acc, _, _ => (List.append_nil acc).symm
  | p :: ks, acc, nd, h => by
    rw [List.map_cons, List.nodup_cons] at nd
    show mergeK (putK acc (.inr (mkS p.1)) (.int p.2)) (ks.map kvC) = _
    have e : putK acc (.inr (mkS p.1)) (V.int p.2) = acc ++ [kvC p] := by
      unfold putK
      rw [if_neg]
      · rfl
      · rw [List.any_eq_true]
        rintro ⟨kv, m, q⟩
        exact h p List.mem_cons_self kv m (of_decide_eq_true q)
    rw [e, mergeK_nd ks _ nd.2 fun q hq kv hkv => ?_, List.append_assoc]
    · rfl
    · rcases List.mem_append.mp hkv with hkv | hkv
      · exact h q (List.mem_cons_of_mem _ hq) kv hkv
      · rw [List.mem_singleton.mp hkv]
        intro z
        have z : (Sum.inr (mkS p.1) : Key) = .inr (mkS q.1) := z
        have z2 : mkS p.1 = mkS q.1 := by injection z
        have : p.1 = q.1 := by
          have := congrArg (fun x : Str => x.cps.toList) z2
          exact this
        exact nd.1 (by rw [this]; exact List.mem_map_of_mem hq)
theorem repk_C {K : PySem.W.Frag} {F : Hp} : ∀ (ks : List (List Nat × Int)), RepK K F (ks.map kvC) (ks.map fun p => ((.inr (mkS p.1) : Key), Dt.int p.2))
  | [] => .nil
  | p :: ks => .cons (.int p.2) (repk_C ks)
theorem pairs_C : ∀ (ks : List (List Nat × Int)) {σ : St} {H : Hp} {Q : List (V × V) → Hp → Prop}, Q (ks.map fun p => (.str (mkS p.1), .int p.2)) H → tPairs (ks.map fun p => (tC (.str (mkS p.1)), tC (.int p.2))) σ H Q
  | [], _, _, _, h => h
  | p :: ks, σ, H, Q, h => pairs_C ks (Q := fun ps H' => Q ((.str (mkS p.1), .int p.2) :: ps) H') h
theorem d_dictC {X : Cx} {Z : Fm} {W : WX} {pos : Pos} {keys : List (Option Expr)} {values : List Expr} (ks : List (List Nat × Int)) (h : PPs X pos keys values (ks.map fun p => (tC (.str (mkS p.1)), tC (.int p.2)))) (hall : keys.all (·.isSome) = true := by rfl) (hl : keys.length = values.length := by rfl) (h0 : keys ≠ [] := by exact List.cons_ne_nil _ _)
    (h15 : keys.length ≤ 15 := by decide) (hk : ks.length ≤ 15 := by decide) (nd : (ks.map (·.1)).Nodup := by decide) : DOk X Z W (.Dict keys values pos) (dDictC ks) :=
  PE.imp (pe_disp h hall hl h0 h15) fun σ H Q ⟨F, ρ, R, U, I, hm, q, u⟩ => fun p np => pairs_C ks ⟨upd_same, ks.map kvC, by rw [List.map_map]; rfl, by rw [List.length_map]; exact hk, by
    rw [mergeK_nd ks [] nd (fun _ _ kv hkv => nomatch hkv), List.nil_append]
    have e : upd (upd H p (.dK [])) p (.dK (ks.map kvC)) = upd H p (.dK (ks.map kvC)) := by
      funext a
      by_cases z : a = p
      · subst z; rw [upd_same, upd_same]
      · rw [upd_ne z, upd_ne z, upd_ne z]
    rw [e]
    exact q _ ρ p F _ (I.freshO (ho := .dK (ks.map kvC)) np) (Same.refl F) (I.newAt np (.dK (repk_C ks))) hm⟩
/-! ### s.upper() -/
end DL

namespace DL
open PyProof.Rows hiding St
open PySem PySem.Spec L2
/-! ### a, b = data, a new object, by way of a tuple (where a name is seen from an inner scope) -/
section
variable {X : Cx} {Z : Fm} {W : WX}
end
end DL

namespace PySem.SeqAt
open AutoSeq1 (wpAny_loadPart')
open MeetsSeq MeetsSeq2 MeetsSeq3 SeqRoads2
/-! ### a dict is no text -/
section
variable {A : Around} {s : Shared}
end
end PySem.SeqAt
namespace DL
open PyProof.Rows hiding St
open PySem PySem.Spec L2
/-! ### a text among the items of a tuple of any data -/
section
variable {X : Cx}
end
end DL

namespace PySem.SeqAt
open AutoSeq1 (wpAny_loadPart')
open MeetsSeq MeetsSeq2 MeetsSeq3 SeqRoads2
/-! ### a built-in value declines an own object -/
section
variable {prog : Program} {w : World} {A : Around} {E : Value → Shared → Prop} {s : Shared} {x C dx l : Addr} {Q : Fin → Shared → Prop}
end
end PySem.SeqAt
namespace DL
open PyProof.Rows hiding St
open PySem PySem.Spec L2
/-! ### own __eq__ -/
section
variable {prog : Program} {w : World} {A : Around} {E : Value → Shared → Prop} {s : Shared} {K : PySem.W.Frag} {x C f : Addr} {ox : Obj} {od : Option Obj}
end
section
variable {X : Cx} {T : List (Addr × Str)} {k : Nat} {f C : Addr} {fd : FuncData} {ps : List Str} {sp : SpD} {Cs : List Addr}
end

/-! ### == and != of data with own __eq__ -/
section
variable {X : Cx} {T : List (Addr × Str)} {Cs : List Addr} {L : List (Addr × SpD)}
end
end DL

namespace DL
open PyProof.Rows hiding St
open PySem PySem.Spec L2
/-! ### bool(x), x of a class with an own __bool__ -/
section
variable {X : Cx} {T : List (Addr × Str)} {k : Nat} {f C : Addr} {fd : FuncData} {ps : List Str} {sp : SpD}
end
/-! ### what the maths of a def may lean on -/
end DL

namespace DL
open PyProof.Rows hiding St
open PySem PySem.Spec L2
/-! ### C.m(..), m a classmethod of the class at C, that does not look at its first parameter -/
section
variable {X : Cx} {Z : Fm} {W : WX} {pos : Pos} {e : Expr} {es : List Expr} {kws : List Keyword} {ma mb : DA} {ks : List Str}
end
section
variable {X : Cx} {Z : Fm} {W : WX} {s : SpD} {ma : DA} {k : Nat} {C p g : Addr} {mc : Value} {fd : FuncData} {ps : List Str} {es : List Expr} {kws : List Keyword} {pos px apos : Pos} {x m : Str} {un : List Value → Args}
end
/-! ### the head's hooks, with the table of the statics (readsIn looks there) -/
end DL

namespace DL
open PyProof.Rows hiding St
open PySem PySem.Spec L2
/-! ### the slot of an exception -/
section
variable {K : PySem.W.Frag} {Z : Fm} {F H : Hp} {σ : St} {ρ : En}
/-- the slots without what is one's own -/
def sealE (ρ : En) : En := ρ.map fun s => match s with
  | .own _ _ _ => .no
  | s => s
theorem sealE_get {i : Nat} {s : Sl} (h : (sealE ρ)[i]? = some s) : ρ[i]? = some s ∨ s = .no := by
  unfold sealE at h
  rw [List.getElem?_map] at h
  cases e : ρ[i]? with
  | none => rw [e] at h; cases h
  | some t =>
    rw [e] at h
    have h := Option.some.inj h
    cases t with
    | own b p o => exact .inr h.symm
    | no => exact .inr h.symm
    | dat d => exact .inl (h ▸ rfl)
    | exc q C d fs => exact .inl (h ▸ rfl)
theorem sealE_own {i : Nat} {b : Bool} {p : Addr} {o : MO} (h : (sealE ρ)[i]? = some (.own b p o)) : False := by
  unfold sealE at h
  rw [List.getElem?_map] at h
  cases e : ρ[i]? with
  | none => rw [e] at h; cases h
  | some t =>
    rw [e] at h
    have h := Option.some.inj h
    cases t <;> cases h
/-- the state taken up anew, where nothing of one's own is seen -/
abbrev Fm.anew (Z : Fm) (F H : Hp) : Fm := ⟨F, H, Z.T.map (·.1), fun _ => none, Z.T⟩
theorem DI.anew (I : DI K Z F H σ ρ) : DI K (Z.anew F H) F H σ (sealE ρ) :=
  { f0 := Same.refl F, fh := I.fh, fnew := fun a o e => .inl ⟨o, e⟩, keep := fun a o e => .inr e
    bor := fun b hb => by
      obtain ⟨t, ht, rfl⟩ := List.mem_map.mp hb
      obtain ⟨ps, h1, _⟩ := I.tab t ht
      exact ⟨_, h1⟩
    len := by
      unfold sealE
      rw [List.length_map]
      exact I.len
    sl := fun i s e => by
      rcases sealE_get e with e' | rfl
      · exact I.sl i s e'
      · have hi : i < σ.length := by
          rw [I.len]
          have := (List.getElem?_eq_some_iff.mp e).1
          unfold sealE at this
          rwa [List.length_map] at this
        exact ⟨_, List.getElem?_eq_getElem hi, trivial⟩
    ownB := fun i b p o e => (sealE_own e).elim
    dis := fun i j b c p o p' o' e _ _ => (sealE_own e).elim
    pin := fun a u e => nomatch e
    ownP := fun i b p o e => (sealE_own e).elim
    tab := I.tab, tabB := fun t ht => List.mem_map.mpr ⟨t, ht, rfl⟩, tabF := I.tabF }
theorem DI.aft {F' H' : Hp} {ρ' : En} {σ' : St} (J : DI K (Z.anew F H) F' H' σ' ρ') : Aft Z.T K F H [] F' H' :=
  ⟨J.f0, J.fh, J.fnew, fun a o e => (J.keep a o e).elim (fun z => .inr (.inl (let ⟨t, ht, e⟩ := List.mem_map.mp z; ⟨t, ht, e⟩))) fun z => .inr (.inr z), J.tab, J.tabF⟩
end
/-! ### isinstance of an exception -/

theorem xcB_ok {K : PySem.W.Frag} {C : Addr} (h : xcB K C = true) : L2.ExcC K C := by
  unfold xcB at h
  simp only [Bool.and_eq_true] at h
  obtain ⟨h0, h1, h2, h3, h4⟩ := h
  have X := xfB_ok h0
  exact ⟨X.ga, X.gg, X.exC, X.hdC, He.eqO_ok h1, He.eqO_ok h2, oEqB_ok h3, oEqB_ok h4⟩
section
variable {X : Cx} {Z : Fm} {W : WX} {q0 : Addr × Obj} {i : Nat} {x : Str} {p p1 pos : Pos}
/-! ### an attribute of an exception -/
end
end DL

namespace DL
open PyProof.Rows hiding St
open PySem PySem.Spec L2
/-! ### a def that gets the exception in hand: its promise, for the exception's object -/
theorem _root_.L2H.RoomH.units {k : Nat} {A : Around} (r : L2H.RoomH k A) : A.units + 64 < cLine := by
  have := r.un
  omega
section
variable {P : Program} {w : World} {K : PySem.W.Frag} {mg : Str → Option Value} {base : Heap} {N : List Str} {qual : Str} {scope : Scope} {f : Addr} {cd : Value} {A : Around} {outer : List Env} {s : Shared} {H : Hp} {E : XK} {q : Addr × Obj}
end
section
variable {X : Cx} {k : Nat} {f : Addr} {fd : FuncData} {ps : List Str} {sp : Addr × Obj → Sp} {E : XK} {q : Addr × Obj}
end
/-! ### over data -/
section
variable {P : Program} {w : World} {K : PySem.W.Frag} {mg : Str → Option Value} {base : Heap} {T : List (Addr × Str)}
end
/-! ### f(x, ..), x the exception in hand -/
section
variable {X : Cx} {Z : Fm} {W : WX} {k : Nat} {f : Addr} {fd : FuncData} {ps : List Str} {s : Addr × Obj → SpD} {q0 : Addr × Obj} {x y : Str} {p p1 pos : Pos} {es : List Expr} {ma : DA}
end
end DL

namespace DL
open PyProof.Rows hiding St
open PySem PySem.Spec L2
/-! ### what an except clause asks: m says of a class whether its exceptions are meant -/
section
variable {X : Cx} {np : Pos}
end
/-! ### try: body, clauses -/
structure Cl where
  m : Value → Option Bool
  i : Option Nat
  ts : Addr × Obj → TS
def putI {α : Type} (i : Option Nat) (v : α) (l : List α) : List α := match i with
  | some i => l.set i v
  | none => l
def Cl.ends (c : Cl) (D : Ends) : Ends := { nx := fun σ H => D.nx (putI c.i none σ) H, rt := D.rt, bk := fun σ H => D.bk (putI c.i none σ) H, ct := fun σ H => D.ct (putI c.i none σ) H }
section
variable {X : Cx} {body : List Stmt} {h₀ : ExceptHandler} {hds : List ExceptHandler} {l : List Cl} {pos : Pos} {tb : WX → TS} {Wout : WX}
end
/-! ### over data -/
structure DCl where
  g : List (Addr × Bool)
  i : Option Nat
  m : Addr × Obj → DSt
def DCl.ends (c : DCl) (D : DEn) : DEn := { nx := fun ρ => D.nx (putI c.i .no ρ), rt := D.rt, bk := fun ρ => D.bk (putI c.i .no ρ), ct := fun ρ => D.ct (putI c.i .no ρ), ex := fun _ _ => False }
def DCl.cl (K : PySem.W.Frag) (Z : Fm) (c : DCl) (m : Value → Option Bool) : Cl := ⟨m, c.i, fun q => tS K Z WF (c.m q)⟩
section
variable {X : Cx} {Z : Fm} {W : WX}
end
end DL

namespace DL
open PyProof.Rows hiding St
open PySem PySem.Spec L2
/-! ### own exceptions over three classes of the language -/
def Bs.ini : Bs → String
  | .ve => "ValueError.__init__"
  | .le => "LookupError.__init__"
  | .ae => "ArithmeticError.__init__"
theorem Bs.facts : ∀ b : Bs, ExcBaseFacts b.nm b.new b.ini b.mro
  | .ve => F.excBase_ValueError
  | .le => F.excBase_LookupError
  | .ae => F.excBase_ArithmeticError
theorem Bs.store : ∀ b : Bs, StoreFacts b.nm b.mro "object.__setattr__" "object"
  | .ve => F.store_ValueError
  | .le => F.store_LookupError
  | .ae => F.store_ArithmeticError
structure Oex (K : PySem.W.Frag) (C : Addr) (b : Bs) : Prop where
  init : PySem.W.excInitIn K C b.mro b.new = true
  over : PySem.W.excOver K C b.mro = true
  sa : PySem.W.findIn K (.ref C) "__setattr__" = some (some (.builtin "object.__setattr__"))
  hd : PySem.W.hasDictIn K C = true
  exC : PySem.W.subIn K (.ref C) (.type "BaseException") = some true
  tyC : PySem.W.typeIn K (.ref C) = some (.type "type")
  kC : PySem.W.keepIn K (.ref C) = true
theorem oexB_ok {K : PySem.W.Frag} {C : Addr} {b : Bs} (h : oexB K C b = true) : Oex K C b := by
  unfold oexB at h
  simp only [Bool.and_eq_true] at h
  obtain ⟨h1, h2, h3, h4, h5, h6, h7⟩ := h
  exact ⟨h1, h2, He.eqO_ok h3, h4, oEqB_ok h5, of_decide_eq_true h6, h7⟩
section
variable {X : Cx} {pins : List (Addr × Obj)} {σ : St} {H : Hp} {s : Shared} {a C : Addr} {f : Str} {y : V} {u : Value} {b : Bs} {A : Around}
/-- the first store: the exception's dict is made -/
theorem first_store {Q : Unit → Shared → Prop} {E : Value → Shared → Prop} (T : Oex X.K C b) (I : Inv X pins σ H s) (at_ : H a = some (exo a C none)) (no : PySem.W.findIn X.K (.ref C) f = some none) (ry : RelV y u)
    (h : ∀ dx s', H dx = none → dx ≠ a → Inv X pins σ (upd (upd H dx (exd dx [(f, y)])) a (exo a C (some dx))) s' → Q () s') : wpAny (model X.prog X.w) A (setAttr (.ref a) f u) Q E s := by
  obtain ⟨t1, obj⟩ := exo_at I.hok at_
  obtain ⟨hp, g, d, t, os⟩ := s
  have J : PySem.W.InstAt hp a { cls := .ref C, dict := none, data := .fields #[.ref t1, .none, .none, .none, .bool false, .none] } C none := ⟨obj, rfl, rfl, trivial⟩
  have tk : PySem.W.takerIn X.K C f = some none := by
    unfold PySem.W.takerIn
    rw [no]
    rfl
  refine PySem.W.set_plain I.kIn J T.sa (PySem.W.osa_openX b.store I.kIn J T.over tk fun bb => ?_)
  obtain ⟨cd, hc, hd'⟩ := PySem.W.any_some T.hd
  have hxs : a ≠ hp.objs.size := Nat.ne_of_lt (Heap.lt_size obj)
  refine wpAny_bind (wpAny_pure (wpAny_bind (PySem.W.instanceDict_exc (t := t1) (c2 := .none) obj (PySem.W.looks_clsIn I.kIn hc) hd' ?_)))
  have hx1 : (hp.push (PySem.W.dictOf [] 0)).get? a = some { cls := .ref C, dict := none, data := .fields #[.ref t1, .none, .none, .none, .bool false, .none] } := Heap.get?_push_of_some _ obj
  refine PySem.HandSPX.store_in_new ⟨PySem.W.dictOf [] 0, #[], 0, (Heap.get?_update_other _ _ hxs).trans (Heap.get?_push_size _ rfl), rfl, fun e he => absurd he (by simp), fun _ => rfl⟩ fun h' tk' hn' hs => ?_
  have hnd : H hp.objs.size = none := I.hok.fresh (Nat.le_refl _)
  have nd : ∀ {c : Addr} {o : Obj}, hp.get? c = some o → c ≠ hp.objs.size := fun {c o} q => Nat.ne_of_lt (Heap.lt_size q)
  have na : ∀ {c : Addr}, H c = none → c ≠ a := fun {c} n z => by
    rw [z, at_] at n
    cases n
  have k : ∀ c o, c ≠ a → hp.get? c = some o → h'.get? c = some o := fun c o n e => (hs.2 c (nd e)).trans ((Heap.get?_update_other _ _ (Ne.symm n)).trans (Heap.get?_push_of_some _ e))
  have hx : h'.get? a = some { cls := .ref C, dict := some hp.objs.size, data := .fields #[.ref t1, .none, .none, .none, .bool false, .none] } := (hs.2 a hxs).trans (Heap.get?_update_self _ hx1 rfl)
  have U : Un X.fs [] H (upd (upd H hp.objs.size (exd hp.objs.size [(f, y)])) a (exo a C (some hp.objs.size))) hp h' := {
    keep := fun c o q n _ _ => k c o (na n) q
    slot := fun c o q n _ _ => ⟨o.slots, k c o (na n) q⟩
    free := fun c o q n _ => by rw [upd_ne (na n), upd_ne (nd q)]; exact n
    there := fun c o q _ => by
      by_cases hb : c = a
      · exact ⟨_, by rw [hb]; exact hx⟩
      · exact ⟨o, k c o hb q⟩
    tups := fun c xs q => by rw [upd_ne (at_ne at_ q exo_tup), upd_ne (ne_of_none q hnd)]; exact q
    frzs := fun c o v q => by rw [upd_ne (at_ne at_ q exo_frz), upd_ne (ne_of_none q hnd)]; exact q
    tbls := fun c ps q => ⟨#[], by rw [upd_ne (at_ne at_ q exo_tbl), upd_ne (ne_of_none q hnd), q]; simp⟩ }
  refine h hp.objs.size _ hnd (Ne.symm hxs) (I.un (t' := tk') U fun c o q => ?_)
  by_cases hb : c = a
  · subst hb
    rw [upd_same] at q
    cases q
    exact exo_ok hx
  · rw [upd_ne hb] at q
    by_cases hd : c = hp.objs.size
    · subst hd
      rw [upd_same] at q
      cases q
      exact exd_ok hn' (relO_put (fs := []) ry fun g => True.intro)
    · rw [upd_ne hd] at q
      exact (I.hok c o q).stay (fun e v he z => k e v (by
          rcases he with he | he
          · rw [he]
            exact hb
          · exact at_ne at_ he exo_own) z)
        (fun e he => by rw [upd_ne (at_ne at_ he exo_own), upd_ne (ne_of_none he hnd)]; exact he) (fun e xs he => by rw [upd_ne (at_ne at_ he exo_tup), upd_ne (ne_of_none he hnd)]; exact he)
end
/-! ### __init__(self, given): self.f = given -/
def spIni (K : PySem.W.Frag) (f : Str) : Sp := fun vs H Q _ => ∃ (a C : Addr) (b : Bs) (y : V), vs = [.ref a, y] ∧ Oex K C b ∧ H a = some (exo a C none) ∧ PySem.W.findIn K (.ref C) f = some none ∧ ∀ dx, H dx = none → dx ≠ a → Q .non (upd (upd H dx (exd dx [(f, y)])) a (exo a C (some dx)))
structure IniF (P : Program) (w : World) (K : PySem.W.Frag) (mg : Str → Option Value) (base : Heap) (g : Addr) (f : Str) : Prop where
  ok : ∃ fd ps, FnG P w K mg base 1 g fd ps (spIni K f) ∧ BindK K fd ps mkP
section
variable {P : Program} {w : World} {K : PySem.W.Frag} {mg : Str → Option Value} {base : Heap}
end
/-! ### raise C(e) -/
/-- an own class of exceptions, its __init__ at g, which keeps its argument as f -/
structure XcM (K : PySem.W.Frag) (C : Addr) (b : Bs) (g : Addr) (f : Str) : Prop where
  o : Oex K C b
  ini : PySem.W.findIn K (.ref C) "__init__" = some (some (.ref g))
  ty : PySem.W.typeIn K (.ref g) = some (.type "function")
  no : PySem.W.findIn K (.ref C) f = some none
section
variable {X : Cx} {C g : Addr} {b : Bs} {f x : Str} {e : Expr} {ta : TE} {p pos : Pos}
end
section
variable {X : Cx} {Z : Fm} {W : WX} {C g : Addr} {b : Bs} {f x : Str} {e : Expr} {ma : DT} {p pos pos' : Pos}
end
end DL

namespace DL
open PyProof.Rows hiding St
open PySem PySem.Spec L2
/-! ### a lambda without parameters that is handed to a def, which calls it -/
section
variable {X : Cx} {pins : List (Addr × Obj)} {σ : St} {H : Hp} {s : Shared} {params : Arguments} {body : Expr} {scope : Scope}
end
/-! ### over data -/
section
variable {X : Cx} {Z : Fm} {W : WX} {k : Nat} {g c P : Addr} {fd : FuncData} {a x : Str} {pr : SpD → SpD} {params : Arguments} {body : Expr} {scope : Scope} {mb : DT} {p lpos pos : Pos}
end
end DL

namespace DL
open PyProof.Rows hiding St
open PySem PySem.Spec L2
/-! ### facts of exceptions, as tests of the written part -/
theorem xcmB_ok {K : PySem.W.Frag} {C : Addr} {b : Bs} {g : Addr} {f : Str} (h : xcmB K C b g f = true) : XcM K C b g f := by
  unfold xcmB at h
  simp only [Bool.and_eq_true] at h
  obtain ⟨h1, h2, h3, h4⟩ := h
  exact ⟨oexB_ok h1, He.eqO_ok h2, of_decide_eq_true h3, He.eqO_ok h4⟩
theorem xiB_ok {K : PySem.W.Frag} {g : List (Addr × Bool)} {u : Value} (h : xiB K g u = true) : ∀ z ∈ g, L2.ExcC K z.1 ∧ PySem.W.kitOne K (.ref z.1) u = some z.2 := fun z hz => by
  have := List.all_eq_true.mp h z hz
  rw [Bool.and_eq_true] at this
  exact ⟨xcB_ok this.1, oEqB_ok this.2⟩
theorem xfsB_ok {K : PySem.W.Frag} {Cs : List Addr} {f : Str} (h : xfsB K Cs f = true) : ∀ C ∈ Cs, XfC K C ∧ PySem.W.findIn K (.ref C) f = some none := fun z hz => by
  have := List.all_eq_true.mp h z hz
  rw [Bool.and_eq_true] at this
  exact ⟨xfB_ok this.1, He.eqO_ok this.2⟩
/-! ### promises that tell errors -/
theorem SpEO.len {α : Type} {A : α → List Sl} {C : α → Prop} {R : α → Dt ⊕ Xn} {O : α → List MO} {n : Nat} (h : ∀ x, (A x).length = n) : ∀ args Q U, SpEO A C R O args Q U → args.length = n := fun args Q U ⟨x, e, _⟩ => by rw [e]; exact h x
theorem SpE.len {α : Type} {A : α → List Sl} {C : α → Prop} {R : α → Dt ⊕ Xn} {n : Nat} (h : ∀ x, (A x).length = n) : ∀ args Q U, SpE A C R args Q U → args.length = n := SpEO.len h
end DL

namespace DL
open PyProof.Rows hiding St
open PySem PySem.Spec L2
/-! ### repr of any value, a dict with flat values among them -/
def keyPy : Key → PyData
  | .inl i => .int i
  | .inr x => .str x
def flatD : Dt → Bool
  | .non => true
  | .bl _ => true
  | .int _ => true
  | .str _ => true
  | _ => false
def pyX : Dt → PyData
  | .dct kvs => .dict (kvs.map fun p => (keyPy p.1, toPy p.2))
  | d => toPy d
def ShX : Dt → Prop
  | .dct kvs => ∀ p ∈ kvs, flatD p.2 = true
  | d => Sh 8 d
theorem key_reads {h : Heap} {k : Key} {v : Value} (e : L2.keyIs k v = true) : Reads h v (keyPy k) [] := by
  rcases L2.keyIs_shape e with ⟨i, t, rfl, rfl⟩ | ⟨x, t, rfl, rfl⟩
  · exact .int i t
  · exact .str x t
theorem flat_reads {K : PySem.W.Frag} {F : Hp} {h : Heap} {v : V} {u : Value} {d : Dt} (r : Rep K F v d) (rv : RelV v u) (f : flatD d = true) : Reads h u (toPy d) [] := by
  cases r with
  | non => cases rv; rw [toPy]; exact .none
  | bl b => cases rv; rw [toPy]; exact .bool b
  | int i => obtain ⟨t, rfl⟩ := rv; rw [toPy]; exact .int i t
  | str l _ => obtain ⟨t, rfl⟩ := rv; rw [toPy]; exact .str _ t
  | _ => cases f
theorem pairs_reads {K : PySem.W.Frag} {F : Hp} {h : Heap} {P : Program} {w : World} : ∀ {es : List DictEntry} {ws : List (Key × Value)} {vs : List (Key × V)} {kvs : List (Key × Dt)}, Pairs (mixKind P w) es ws → KV vs ws → RepK K F vs kvs → (∀ p ∈ kvs, flatD p.2 = true) →
    ReadsAll h (es.map (·.key)) (kvs.map fun p => keyPy p.1) [] ∧ ReadsAll h (es.map (·.val)) (kvs.map fun p => toPy p.2) []
  | _, _, _, _, .nil, .nil, .nil, _ => ⟨.nil, .nil⟩
  | _, _, _, _, .cons h1 h2 t, .cons ⟨e, rv⟩ t2, .cons r t3, f => by
    obtain ⟨i1, i2⟩ := pairs_reads (h := h) t t2 t3 fun p hp => f p (List.mem_cons_of_mem _ hp)
    subst e
    have k1 := key_reads (h := h) h1
    have k2 := flat_reads (h := h) r rv (f _ List.mem_cons_self)
    rw [← h2] at k2
    exact ⟨ReadsAll.cons (as := []) (bs := []) k1 i1, ReadsAll.cons (as := []) (bs := []) k2 i2⟩
def rReprX (K : PySem.W.Frag) : List V → Hp → VK → Prop := fun xs H Q => ∃ (F : Hp) (v : V) (d : Dt), xs = [v] ∧ Same F H ∧ Rep K F v d ∧ ShX d ∧ (pyX d).showable = true ∧ (pyX d).shown.length ≤ sizeLine ∧ Q (.str (pyX d).shown) H
theorem depth_flat : ∀ {kvs : List (Key × Dt)}, (∀ p ∈ kvs, flatD p.2 = true) → PyData.depthKv (kvs.map fun p => (keyPy p.1, toPy p.2)) = 0
  | [], _ => by rw [List.map_nil, PyData.depthKv]
  | p :: r, h => by
    have i := depth_flat fun q hq => h q (List.mem_cons_of_mem _ hq)
    have k0 : PyData.depth (keyPy p.1) = 0 := by
      obtain ⟨k, d⟩ := p
      cases k <;> simp [keyPy, PyData.depth]
    have d0 : PyData.depth (toPy p.2) = 0 := by
      have f := h p List.mem_cons_self
      obtain ⟨k, d⟩ := p
      cases d <;> first | (cases f; done) | (simp only [toPy, PyData.depth])
    rw [List.map_cons, PyData.depthKv, k0, d0, i]
    rfl
section
variable {X : Cx}
theorem cr_reprX (hgd : X.A.guards = some []) (hu : X.A.units + 64 < cLine) : CallR X (.builtin "repr") (rReprX X.K) := by
  intro pins s0 σ H xs us Q I r ⟨F, v, d, e, sf, rp, sh, hs, hz, q⟩
  by_cases hd : ∃ kvs, d = .dct kvs
  · obtain ⟨kvs, rfl⟩ := hd
    subst e
    obtain ⟨u, rfl, ru⟩ := vals1 r
    cases rp with
    | @dct a vs _ ha rk =>
      obtain rfl : u = Value.ref a := ru
      obtain ⟨_, nsys, ws, kv, o, es, ep, ho, ex, hdat, _, prs, _⟩ := (show ObjOk X.prog X.w H s0.heap a (.dK vs) from I.hok a _ (sf _ _ ha))
      obtain ⟨r1, r2⟩ := pairs_reads (h := s0.heap) prs kv rk sh
      have rd : Reads s0.heap (.ref a) (pyX (.dct kvs)) (a :: [] ++ []) := by
        show Reads s0.heap (.ref a) (.dict _) _
        refine .dict ho ex.1 hdat ?_ ?_
        · rw [List.map_map]; exact r1
        · rw [List.map_map]; exact r2
      refine repr_of_reads' rd hs (fun _ z => ?_) hgd ?_ (fun _ _ e => e) (fun h' t tk keep => ⟨.str _, H, I.kept keep, ⟨t, rfl⟩, q⟩) hz
      · obtain rfl : sysModules = a := by simpa using z
        simp at nsys
      · have z : PyData.depth (pyX (.dct kvs)) = 1 := by
          show PyData.depth (.dict _) = 1
          rw [PyData.depth, depth_flat sh]
        omega
  · refine cr_repr hgd hu pins s0 σ H xs us Q I r ⟨v, toPy d, e, ?_⟩
    have e1 : pyX d = toPy d := by
      cases d with
      | dct kvs => exact absurd ⟨kvs, rfl⟩ hd
      | _ => rfl
    have e2 : Sh 8 d := by
      cases d with
      | dct kvs => exact absurd ⟨kvs, rfl⟩ hd
      | _ => exact sh
    rw [e1] at hs hz q
    exact ⟨Dp.of sf 8 rp e2, (plain_of 8 e2).1, hs, (plain_of 8 e2).2, hz, q⟩
def oReprX : O1 := fun x k => (ShX x ∧ (pyX x).showable = true ∧ Fits (pyX x).shown.length) ∧ k (.str (pyX x).shown.cps.toList)
theorem v_reprX {K : PySem.W.Frag} : VL K (rReprX K) (one oReprX) := v1L fun Z F H σ ρ x dx k Q I rx ⟨⟨h1, h2, h3⟩, h⟩ q =>
  ⟨F, x, dx, rfl, I.fh, rx, h1, h2, h3.line, rt_here I (show Rep K F (.str (pyX dx).shown) (.str (pyX dx).shown.cps.toList) from .str _ (by
    have := h3.line
    exact this)) (q _ h)⟩
end
end DL

/-! D49: a tuple once: t * 1 -/
namespace L2
open PySem PySem.Spec PyProof.Rows
section
variable {X : Cx}
end
end L2
namespace DL
open PyProof.Rows hiding St
open PySem PySem.Spec L2
end DL

/-! D50: list.count and list.index of flat values -/
namespace L2
open PySem PySem.Spec PyProof.Rows
section
variable {X : Cx}
end
end L2
namespace DL
open PyProof.Rows hiding St
open PySem PySem.Spec L2
section
variable {X : Cx} {Z : Fm} {W : WX} {a o : Expr} {ma mo : DT} {apos pos : Pos}
end
end DL
namespace DL
open PyProof.Rows hiding St
open PySem PySem.Spec L2
section
variable {X : Cx} {Z : Fm} {W : WX} {e : Expr} {me : DT} {p : Pos}
end
end DL

namespace DL
open PyProof.Rows hiding St
open PySem PySem.Spec L2
/-! ### x == () -/
section
variable {X : Cx}
end
/-! ### str(x) of any value -/
section
variable {X : Cx}
end
end DL

namespace DL
open PyProof.Rows hiding St
open PySem PySem.Spec L2
/-! ### sorted(set(texts)) of up to 4000 texts -/
section
variable {X : Cx}
end
/-! ### a, b = a new list, data of a call -/
section
variable {X : Cx} {Z : Fm} {W : WX} {a b : Expr} {mb : DT} {oa : DO} {i j : Nat} {x y : Str} {px py pt pt2 pos : Pos} {kt k2 : Nat}
end
end DL

namespace DL
open PyProof.Rows hiding St
open PySem PySem.Spec L2
/-! ### a if c else b as a test -/
section
variable {X : Cx} {Z : Fm} {W : WX} {a b c : Expr} {tA tB tC' : DB} {ta tb tc : TT} {pos : Pos}
end
end DL

namespace DL
open PyProof.Rows hiding St
open PySem PySem.Spec L2
/-! ### t.index(x), t.count(x): a tuple of texts -/
section
variable {X : Cx} {Z : Fm} {W : WX} {a o : Expr} {ma mo : DT} {apos pos cpos : Pos} {name : Str} {id : String} {r : V → List V → Hp → VK → Prop} {e : Expr} {es : List Expr} {to : TE} {t : TA}
theorem TupN.is {pins : List (Addr × Obj)} {σ : L2.St} {H : Hp} {s : Shared} (I : Inv X pins σ H s) {p : Addr} {xs : List V} (h : TupN X.K H p xs) : s.TypeIs (.ref p) "tuple" ∧ ∀ a, Value.ref p = .ref a → ∃ ob, s.heap.get? a = some ob ∧ ob.dict = none := by
  rcases h with ⟨o, h, d⟩ | ⟨o, its, n, h1, h2, h3, _⟩
  · obtain ⟨ho, _, its, _, o2, ho2, hc, _⟩ := I.hok p _ h
    rw [ho] at ho2
    obtain rfl := Option.some.inj ho2
    exact ⟨⟨o, ho, hc⟩, fun a e => by cases e; exact ⟨o, ho, d⟩⟩
  · have ho := I.kIn p o h1
    exact ⟨⟨o, ho, h2⟩, fun a e => by cases e; exact ⟨o, ho, h3⟩⟩
end
end DL

namespace DL
open PyProof.Rows hiding St
open PySem PySem.Spec L2
/-! ### zip of a tuple and a list -/
/-! ### sum of an own list -/
end DL

namespace DL
open PyProof.Rows hiding St
open PySem PySem.Spec L2
/-! ### sorted(list of pairs of a number and a text): ascending by the numbers -/
section
variable {X : Cx} {pins : List (Addr × Obj)} {σ : St} {H : Hp} {s : Shared}
end
section
variable {K : PySem.W.Frag} {F H : Hp}
end
end DL

namespace DL
open PyProof.Rows hiding St
open PySem PySem.Spec L2
/-! ### x[b] += a, x an own list -/
section
variable {X : Cx} {Z : Fm} {W : WX} {a b : Expr} {ma mb : DT} {pos : Pos}
end
end DL

namespace DL
open PyProof.Rows hiding St
open PySem PySem.Spec L2
/-! ### len(set(..)) of pairs of a text and a number -/
section
variable (P : Program) (w : World)
def kH (k : List Key) : Int := tupleKeyHash (mixKind P w) k
def KI (h : Heap) (k : List Key) (b : Addr) : Prop := IsTupleKey (mixKind P w) h k b
def rowK (p : List Key × Addr) : Int × Value := (kH P w p.1, .ref p.2)
end
section
variable {P : Program} {w : World} {A : Around} {E : Value → Shared → Prop} {s : Shared}
/-- the set at a, its keys in a list -/
structure Bag (P : Program) (w : World) (h : Heap) (a : Addr) (L : List (List Key × Addr)) (es : Array (Int × Value)) (ep : Nat) (t : SetTable) : Prop where
  at_ : ∃ o, h.get? a = some o ∧ o.ExactSet ∧ o.data = .set es ep t
  rows : es.toList = L.map (rowK P w)
  tab : TabOk t (L.map fun p => kH P w p.1)
  nd : (L.map Prod.fst).Nodup
  led : w.params.followText "set-order" = true ∨ t.led = true
  room : L.length * 5 < t.mask * 3
  few : L.length < 64
variable {a : Addr} {L : List (List Key × Addr)} {es : Array (Int × Value)} {ep : Nat} {t : SetTable}
theorem rows_size (e : es.toList = L.map (rowK P w)) : es.size = L.length := by
  rw [← Array.length_toList, e, List.length_map]
theorem Bag.fits {h : Heap} (B : Bag P w h a L es ep t) : t.fits es.size = true := by
  have e1 := B.tab.sz
  have e2 := rows_size B.rows
  have e3 := B.room
  rw [List.length_map] at e1
  unfold SetTable.fits SetTable.fill
  simp only [B.tab.dm, Bool.and_eq_true, beq_iff_eq, decide_eq_true_eq]
  exact ⟨by omega, by show t.place.size + 0 ≤ t.mask; omega⟩
set_option maxHeartbeats 1600000 in
end
section
end
section
variable {P : Program} {w : World} {A : Around} {E : Value → Shared → Prop} {s : Shared} {a : Addr} {L : List (List Key × Addr)} {es : Array (Int × Value)} {ep : Nat} {t : SetTable}
set_option maxHeartbeats 1600000 in
theorem KI.keep {h h' : Heap} {k : List Key} {b : Addr} (x : KI P w h k b) (stay : ∀ c u, h.get? c = some u → h'.get? c = some u) : KI P w h' k b := by
  obtain ⟨o, items, n, e, r⟩ := x
  exact ⟨o, items, n, stay b o e, r⟩
theorem Bag.there {h h' : Heap} (B : Bag P w h a L es ep t) (k : ∀ u, h.get? a = some u → h'.get? a = some u) : Bag P w h' a L es ep t := by
  obtain ⟨o, ho, r⟩ := B.at_
  exact ⟨⟨o, k o ho, r⟩, B.rows, B.tab, B.nd, B.led, B.room, B.few⟩
set_option maxHeartbeats 3200000 in
end
/-! ### at the level of the layer -/
section
variable {X : Cx}
end
end DL

namespace DL
open PyProof.Rows hiding St
open PySem PySem.Spec L2
/-! ### x = [.. for .. for ..] -/
section
variable {X : Cx} {Z : Fm} {W : WX} {elt tg iter tg1 iter1 : Expr} {ifs ifs1 : List Expr} {scope : Scope} {own : List (Str × Nat)} {pos : Pos} {mi mi1 : DI'} {ts ts1 : List Nat} {g g1 : DG} {tt tt1 : DB} {me : DT}
end
end DL

namespace DL
open PyProof.Rows hiding St
open PySem PySem.Spec L2
/-! ### own + list, own is only looked at -/
section
variable {X : Cx} {Z : Fm} {W : WX} {b : Expr} {mb : DT} {pos : Pos}
end
end DL

namespace DL
open PyProof.Rows hiding St
open PySem PySem.Spec L2
/-! ### sorted(list of tuples of texts) -/
section
variable {X : Cx} {pins : List (Addr × Obj)} {σ : St} {H : Hp} {s : Shared}
end
section
variable {K : PySem.W.Frag} {F H : Hp}
end
/-! ### min of a list of numbers -/
end DL

namespace DL
open PyProof.Rows hiding St
open PySem PySem.Spec L2
/-! ### x.pop() of an own list -/
section
variable {X : Cx} {Z : Fm} {W : WX} {pos : Pos}
end
end DL

namespace DL
open PyProof.Rows hiding St
open PySem PySem.Spec L2
/-! ### a, b = two new objects, by way of a tuple (where a name is seen from an inner scope); an own list cut, an own dict asked -/
section
variable {X : Cx} {Z : Fm} {W : WX}
variable {x : Str} {p1 p2 pos : Pos}
variable {a : Expr} {ma : DT}
end
end DL

namespace DL
open PyProof.Rows hiding St
open PySem PySem.Spec L2
/-! ### a lambda without parameters that changes one own object of the def around it; the def that calls it holds the object in a slot of no name -/
section
variable {K : PySem.W.Frag} {Z : Fm} {F H F' H' : Hp} {σ σ' : St} {ρ ρ' : En}
end
section
variable {X : Cx} {Z : Fm} {W : WX} {k : Nat} {g c P : Addr} {fd : FuncData} {a x : Str} {pr : SpD → SpD} {params : Arguments} {body : Expr} {scope : Scope} {mb : DT} {p lpos pos : Pos}
end
end DL

namespace DL
open PyProof.Rows hiding St
open PySem PySem.Spec L2
/-! ### the head's looks one by one: each is a run of its own, so that none takes the memory of all -/
section
variable {α β γ δ ε ζ : Type} {E : Option α} {l : α → Bool} {q : α → β} {og : β} {ex : α → Bool} {dics : α → γ} {dv : γ} {tb : α → Bool} {fns : List DefA} {good : α → DefA → Bool} {seen : α → DefA → SeenF}
end
end DL

namespace DL
open PyProof.Rows hiding St
open PySem PySem.Spec L2
/-! ### raise C(), C an own class of errors that keeps nothing -/
structure XcN (K : PySem.W.Frag) (C : Addr) (b : Bs) : Prop where
  ini : PySem.W.excIn K C b.mro b.new = true
  kC : PySem.W.keepIn K (.ref C) = true
  exC : PySem.W.subIn K (.ref C) (.type "BaseException") = some true
  tyC : PySem.W.typeIn K (.ref C) = some (.type "type")
theorem xcnB_ok {K : PySem.W.Frag} {C : Addr} {b : Bs} (h : xcnB K C b = true) : XcN K C b := by
  unfold xcnB at h
  simp only [Bool.and_eq_true] at h
  exact ⟨h.1, h.2.1, oEqB_ok h.2.2.1, of_decide_eq_true h.2.2.2⟩
section
variable {X : Cx} {Z : Fm} {W : WX} {C : Addr} {b : Bs} {x : Str} {p pos pos' : Pos}
end
/-! ### i.f, a property, i an own instance's slot -/
section
variable {X : Cx} {Z : Fm} {W : WX} {k : Nat} {C : Addr} {fd : FuncData} {ps : List Str} {s : SpD} {pos : Pos}
end
/-! ### enumerate(tuple) -/
end DL

/-! D67: a tuple no times: t * 0 -/
namespace L2
open PySem PySem.Spec PyProof.Rows
section
variable {X : Cx}
end
end L2
namespace DL
open PyProof.Rows hiding St
open PySem PySem.Spec L2
end DL

namespace DL
open PyProof.Rows hiding St
open PySem PySem.Spec L2
/-! ### D68: own objects in slots of no name (ghosts): an object that holds another one; defs that get it hidden behind their arguments -/
/-! ### a def with a hidden argument -/
section
variable {P : Program} {w : World} {K : PySem.W.Frag} {mg : Str → Option Value} {base : Heap} {T : List (Addr × Str)}
/-! ### a def that leaves a new own object in a slot of no name, hanging on the lent one -/
end
end DL

namespace DL
open PyProof.Rows hiding St
open PySem PySem.Spec L2
/-! ### D69: calls that hand the object of a slot over hidden, or whose receiver is told by its address -/
section
variable {X : Cx} {Z : Fm} {W : WX} {k : Nat} {f C : Addr} {fd : FuncData} {ps : List Str} {s : SpD} {x m : Str} {p pos apos : Pos} {e o : Expr} {es : List Expr} {kws : List Keyword} {ma : DA} {mo : DT} {un : List Value → Args}
end
end DL

namespace DL
open PyProof.Rows hiding St
open PySem PySem.Spec L2
/-! ### D70: a new instance that holds a new own object: the instance is data, the own object goes into a slot of no name -/
abbrev DGk := En → (Dt → Addr → MO → En → Prop) → XP → Prop
section
variable {X : Cx} {Z : Fm} {W : WX} {k : Nat} {f C : Addr} {fd : FuncData} {ps : List Str} {s : SpD} {x m : Str} {p pos apos : Pos} {e o : Expr} {es : List Expr} {kws : List Keyword} {ma : DA} {un : List Value → Args}
end
section
variable {X : Cx} {Z : Fm} {W : WX} {i j g : Nat} {x y yg : Str} {a b e : Expr} {mg : DGk} {mb : DT} {ob mo : DO} {pos px py pt pt2 : Pos} {kt k2 : Nat}
end
end DL

namespace HN
open PySem PySem.Spec PyProof.Rows PySem.SeqAt
section
variable {M : Model} {prog : Program} {w : World} {A : Around} {E : Value → Shared → Prop} {s : Shared} {K : PySem.W.Frag} {x y C D : Addr} {ox oy : Obj} {od od2 : Option Obj}
end
end HN
namespace DL
open PyProof.Rows hiding St
open PySem PySem.Spec L2
section
variable {X : Cx} {Z : Fm} {W : WX} {C : Addr} {a b : Expr} {ma mb : DT} {pos : Pos}
end
end DL

namespace DL
open PyProof.Rows hiding St
open PySem PySem.Spec L2
/-! ### D72: int(text) -/
end DL

namespace DL
open PyProof.Rows hiding St
open PySem PySem.Spec L2
/-! ### D73: x, y = C(..), data or a new object, C(..) data that holds a new own object; by way of a tuple (where a name is seen from an inner scope) -/
section
variable {X : Cx} {Z : Fm} {W : WX} {i j g : Nat} {x y yg : Str} {a b e : Expr} {mg : DGk} {mb : DT} {ob mo : DO} {pos px py pt pt2 : Pos} {kt k2 : Nat}
end
end DL

namespace DL
open PyProof.Rows hiding St
open PySem PySem.Spec L2
/-! ### D74: the first looks and the first half of the written part's names in one run (fewer runs of the head) -/
end DL

namespace DL
open PyProof.Rows hiding St
open PySem PySem.Spec L2
/-! ### a walk over a dict of one's own: it is locked from there on, and read alone -/
section
variable {X : Cx} {Z : Fm} {W : WX} {x : Str} {p1 pos : Pos} {tg b : Expr} {body : List Stmt} {ts : List Nat} {g : DG} {mb : DSt} {me : DT}
end
end DL

namespace DL
open PyProof.Rows hiding St
open PySem PySem.Spec L2
/-! ### zip of two lists, or of two tuples -/
end DL

namespace DL
open PyProof.Rows hiding St
open PySem PySem.Spec L2
/-! ### list(zip(a, b)): each pair stays in the list, so zip makes a new one each time -/
section
variable {prog : Program} {w : World} {A : Around} {E : Value → Shared → Prop} {s : Shared} {z TI TO T i1 i2 : Addr} {f : Bool} {oT : Obj} {fp1 fp2 : List Addr} {n1 n2 i : Nat} {P1 P2 : Nat → Value → Prop} {St1 St2 : Nat → Heap → Prop}
/-- the zip between two turns; L: the list that grows -/
def ZlSt (z TI TO i1 i2 L : Addr) (St1 St2 : Nat → Heap → Prop) (i : Nat) (h : Heap) : Prop :=
  IsTupOf2 h TI (.ref i1) (.ref i2) ∧ St1 i h ∧ St2 i h ∧
  ((IsZip h z TI TO .none ∧ ∃ a1 a2, IsTupOf2 h TO a1 a2) ∨ ∃ T f oT, IsZipHeld h z TI TO T f ∧ h.get? T = some oT ∧ T ≠ z ∧ T ≠ L ∧ T ≠ i1 ∧ T ≠ i2)
structure ZlOk (z TI TO i1 i2 L : Addr) (fp1 fp2 : List Addr) : Prop where
  S : ZipSep2 z TI TO i1 i2 fp1 fp2
  Lz : L ≠ z
  LTI : L ≠ TI
  LTO : L ≠ TO
  L1 : L ∉ fp1
  L2 : L ∉ fp2
theorem ZlSt.keep {L : Addr} {h h' : Heap} (O : ZlOk z TI TO i1 i2 L fp1 fp2) (D1 : Draws prog w A i1 fp1 n1 P1 St1) (D2 : Draws prog w A i2 fp2 n2 P2 St2) (x : ZlSt z TI TO i1 i2 L St1 St2 i h) (hk : ∀ b o, b ≠ L → h.get? b = some o → h'.get? b = some o) : ZlSt z TI TO i1 i2 L St1 St2 i h' := by
  obtain ⟨a, b, c, d⟩ := x
  refine ⟨hk _ _ O.LTI.symm a, D1.frame _ _ _ b fun u hu o e => hk u o (fun q => O.L1 (q ▸ hu)) e, D2.frame _ _ _ c fun u hu o e => hk u o (fun q => O.L2 (q ▸ hu)) e, ?_⟩
  rcases d with ⟨d, a1, a2, e⟩ | ⟨T, f, oT, d, e, r1, r2, r3, r4⟩
  · exact .inl ⟨hk _ _ O.Lz.symm d, a1, a2, hk _ _ O.LTO.symm e⟩
  · exact .inr ⟨T, f, oT, hk _ _ O.Lz.symm d, hk _ _ r2 e, r1, r2, r3, r4⟩
end
end DL

namespace DL
open PyProof.Rows hiding St
open PySem PySem.Spec L2
/-! ### list(zip(a, b)) in the layer -/
section
variable {X : Cx} {pins : List (Addr × Obj)} {σ : L2.St} {H : Hp} {s : Shared}
end
/-! ### several new things at once -/
def addH (H : Hp) : List (Addr × HO) → Hp
  | [] => H
  | t :: ts => addH (upd H t.1 t.2) ts
theorem addH_ne {b : Addr} : ∀ {ts : List (Addr × HO)} {H : Hp}, (∀ t ∈ ts, t.1 ≠ b) → addH H ts b = H b
  | [], _, _ => rfl
  | t :: ts, H, h => by
    rw [addH, addH_ne fun x hx => h x (List.mem_cons_of_mem _ hx), upd_ne (h t List.mem_cons_self).symm]
theorem hok_new {P : Program} {w : World} {h' : Heap} {H : Hp} {a : Addr} {o : HO} (x : HOk P w H h') (fr : H a = none) (new : ObjOk P w (upd H a o) h' a o) : HOk P w (upd H a o) h' := fun b u e => by
  by_cases ba : b = a
  · rw [ba, upd_same] at e
    rw [ba, ← Option.some.inj e]
    exact new
  · rw [upd_ne ba] at e
    have nx : ∀ c z, H c = some z → upd H a o c = some z := fun c z q => by rw [upd_ne (ne_of_none q fr)]; exact q
    exact (x b u e).stay (fun _ _ _ q => q) (fun c q => nx c _ q) fun c xs q => nx c _ q
theorem hok_many {P : Program} {w : World} {h' : Heap} : ∀ {ts : List (Addr × HO)} {H : Hp}, HOk P w H h' → (∀ t ∈ ts, H t.1 = none) → (ts.map (·.1)).Nodup → (∀ t ∈ ts, ∀ H', ObjOk P w H' h' t.1 t.2) → HOk P w (addH H ts) h'
  | [], _, x, _, _, _ => x
  | t :: ts, H, x, hn, nd, ok => by
    obtain ⟨n1, n2⟩ := List.nodup_cons.mp (show (t.1 :: ts.map (·.1)).Nodup from nd)
    refine hok_many (ts := ts) (hok_new x (hn t List.mem_cons_self) (ok t List.mem_cons_self _)) (fun y hy => ?_) n2 fun y hy => ok y (List.mem_cons_of_mem _ hy)
    rw [upd_ne (fun e => n1 (List.mem_map.mpr ⟨y, hy, e⟩))]
    exact hn y (List.mem_cons_of_mem _ hy)
theorem un_many {fs ex : List Addr} {H : Hp} {h h' : Heap} {ts : List (Addr × HO)} (k : ∀ b u, h.get? b = some u → h'.get? b = some u) (lo : ∀ t ∈ ts, h.objs.size ≤ t.1) (hn : ∀ t ∈ ts, H t.1 = none) : Un fs ex H (addH H ts) h h' where
  keep := fun b u q _ _ _ => k b u q
  slot := fun b u q _ _ _ => ⟨u.slots, k b u q⟩
  free := fun b u q n _ => by
    rw [addH_ne fun t ht e => by have := lo t ht; rw [e] at this; exact absurd (Nat.lt_of_lt_of_le (Heap.lt_size q) this) (Nat.lt_irrefl _)]
    exact n
  there := fun b u q _ => ⟨u, k b u q⟩
  tups := fun b xs q => by rw [addH_ne fun t ht e => by have := hn t ht; rw [e, q] at this; cases this]; exact q
  frzs := fun b u xs q => by rw [addH_ne fun t ht e => by have := hn t ht; rw [e, q] at this; cases this]; exact q
  tbls := fun b ps q => ⟨#[], by rw [addH_ne fun t ht e => (by have := hn t ht; rw [e, q] at this; cases this), q]; simp⟩
theorem Inv.many {X : Cx} {pins : List (Addr × Obj)} {σ : L2.St} {H : Hp} {s : Shared} {h' : Heap} {t' : Nat} {ts : List (Addr × HO)} (I : Inv X pins σ H s) (k : ∀ b u, s.heap.get? b = some u → h'.get? b = some u) (lo : ∀ t ∈ ts, s.heap.objs.size ≤ t.1) (nd : (ts.map (·.1)).Nodup)
    (ok : ∀ t ∈ ts, ∀ H', ObjOk X.prog X.w H' h' t.1 t.2) : Inv X pins σ (addH H ts) { s with heap := h', toks := t' } :=
  I.un (un_many k lo fun t ht => I.hok.fresh (lo t ht)) (hok_many (I.hok.kept k) (fun t ht => I.hok.fresh (lo t ht)) nd ok)
/-- a new pair: where, as what, of what -/
abbrev Pr := Addr × Obj × V × V
abbrev Pr.ho (t : Pr) : Addr × HO := (t.1, .frz t.2.1 (.tup [t.2.2.1, t.2.2.2]))
section
variable {X : Cx} {e e2 : Expr} {ta : TA} {p p2 pos pos2 : Pos}
end
/-! ### the data -/
theorem DI.many {K : PySem.W.Frag} {Z : Fm} {σ : L2.St} {ρ : En} : ∀ {ts : List (Addr × HO)} {F H : Hp}, DI K Z F H σ ρ → (∀ t ∈ ts, H t.1 = none) → (ts.map (·.1)).Nodup → DI K Z (addH F ts) (addH H ts) σ ρ ∧ Same F (addH F ts)
  | [], _, _, I, _, _ => ⟨I, Same.refl _⟩
  | t :: ts, F, H, I, hn, nd => by
    obtain ⟨n1, n2⟩ := List.nodup_cons.mp (show (t.1 :: ts.map (·.1)).Nodup from nd)
    have h0 := hn t List.mem_cons_self
    obtain ⟨J, s⟩ := DI.many (ts := ts) (I.freshF (ho := t.2) h0) (fun y hy => by
      rw [upd_ne (fun e => n1 (List.mem_map.mpr ⟨y, hy, e⟩))]
      exact hn y (List.mem_cons_of_mem _ hy)) n2
    exact ⟨J, (same_new (I.freeF h0)).trans s⟩
section
variable {X : Cx} {Z : Fm} {W : WX} {a b : Expr} {ma mb : DT} {p p2 pos pos2 : Pos}
end
/-! ### dict(pairs) -/
end DL

namespace DL
open PyProof.Rows hiding St
open PySem PySem.Spec L2
/-! ### sorted(list of texts), up to 4000 -/
end DL

namespace DL
open PyProof.Rows hiding St
open PySem PySem.Spec L2
/-! ### {"a": "b", ..} of written texts -/
end DL

namespace DL
open PyProof.Rows hiding St
open PySem PySem.Spec L2
/-! ### sorted(list of pairs of a text and a number): ascending by the texts -/
section
variable {X : Cx} {pins : List (Addr × Obj)} {σ : St} {H : Hp} {s : Shared}
end
section
variable {K : PySem.W.Frag} {F H : Hp}
end
end DL

namespace DL
open PyProof.Rows hiding St
open PySem PySem.Spec L2
/-! ### a value and two new objects at once -/
end DL

namespace HN
open PySem PySem.Spec PyProof.Rows PySem.SeqAt
/-! ### D83: == and != of an own instance whose class has neither of its own -/
section
variable {prog : Program} {w : World} {A : Around} {E : Value → Shared → Prop} {s : Shared} {K : PySem.W.Frag} {x y C D f : Addr} {ox oy : Obj} {od od2 : Option Obj} {b : Value}
end
end HN
namespace DL
open PyProof.Rows hiding St
open PySem PySem.Spec L2
/-! != of two own objects, by their addresses -/
section
variable {X : Cx} {Z : Fm} {W : WX} {C : Addr} {Ds : List Addr} {a b : Expr} {ma mb : DT} {pos : Pos}
end
/-! a frozen object of such a class beside a number, a text, an object of another own class -/
section
variable {X : Cx} {T : List (Addr × Str)} {Cs Ds : List Addr} {L : List (Addr × SpD)} {C : Addr}
end
/-! the truth of an own object by its class's own __bool__ -/
section
variable {X : Cx} {Z : Fm} {W : WX} {k : Nat} {f C : Addr} {fd : FuncData} {ps : List Str} {s : SpD}
end
end DL

namespace DL
open PyProof.Rows hiding St
open PySem PySem.Spec L2
/-! ### D84: a, b = two new own objects whose defs lean on the tables -/
section
variable {X : Cx} {Z : Fm} {W : WX} {i j l : Nat} {x y z : Str} {a b c : Expr} {ma mb mc : DT} {oa ob : DO} {pos px py pz pt pt2 : Pos} {kt k2 : Nat}
end
end DL

namespace DL
open PyProof.Rows hiding St
open PySem PySem.Spec L2
/-! ### D85: x = [C(..) for ..]: two new own objects, in slots of no name, and a list of their addresses -/
section
variable {X : Cx} {Z : Fm} {W : WX} {elt tg iter : Expr} {ifs : List Expr} {scope : Scope} {own : List (Str × Nat)} {pos : Pos} {mi : DI'} {ts : List Nat} {g : DG} {tt : DB} {me : DO}
end
end DL

namespace PySem.HandSPX
open PySem PySem.Spec PyProof.Rows
/-! ### D86: an own exception made with keywords -/
section
variable {M : Model} {prog : Program} {w : World} {A : Around} {E : Value → Shared → Prop} {R : Result → Shared → Prop} {h : Heap} {g : Array GenState} {d : Drawn} {t : Nat} {os : OsState}
variable {nm q : Str} {C N : Addr} {bs bm bmB : List Value} {hdct : Bool} {sn : List Str} {sub : List Value} {ab : Bool} {col : Option Bool} {dd : Option Addr} {k0 k1 k2 k3 k5 : Option Value} {B newId initId : String}
theorem check_new_ownK (F : ExcBaseFacts B newId initId bmB) (hT : ∀ X : String, bm.contains (.type X) = bmB.contains (.type X)) {rest : List Value} {kw : List (Str × Value)} {Q : Unit → Shared → Prop}
    (hC : h.get? C = some (excClassObj nm q C N bs bm hdct sn sub ab col dd k0 k1 k2 k3 k5 newId)) (hq : Q () ⟨h, g, d, t, os⟩) : wpAny M A (checkBuiltinCall newId ⟨.ref C :: rest, kw⟩) Q E ⟨h, g, d, t, os⟩ := by
  have hcont : (Value.ref C :: bm).contains (.type B) = true := by rw [List.contains_cons, hT, F.hasB, Bool.or_true]
  have hstar := F.noStar
  simp only [checkBuiltinCall, F.newKind, F.newSplit, F.newRow]
  repeat (first | refine wpAny_loadPart_at hC ?_ | (refine wpAny_isSubtype_exc hC ?_; rw [hcont]) | refine wpAny_staticBase_exc hC ?_ | refine wpAny_madeBy_exc hC ?_ | simp only [bne_self_eq_false, Bool.false_eq_true, if_false] | wp_step)
  exact hq
theorem new_ownK (F : ExcBaseFacts B newId initId bmB) (hT : ∀ X : String, bm.contains (.type X) = bmB.contains (.type X)) {rest : List Value} {kw : List (Str × Value)}
    (hC : h.get? C = some (excClassObj nm q C N bs bm hdct sn sub ab col dd k0 k1 k2 k3 k5 newId))
    (hq : R (.ok (.ret (.ref (h.objs.size + 1)))) ⟨(h.push { cls := .type "tuple", data := .seq rest.toArray }).push
      { cls := .ref C, data := .fields #[.ref h.objs.size, .none, .none, .none, .bool false, .none] }, g, d, t, os⟩) (hrest : rest.length ≤ sizeLine) :
    codeAny (model prog w) A (.builtin newId ⟨.ref C :: rest, kw⟩) R ⟨h, g, d, t, os⟩ := by
  have hends := F.ends
  have hcB : (Value.ref C :: bm).contains (.type B) = true := by rw [List.contains_cons, hT, F.hasB, Bool.or_true]
  have hcA : (Value.ref C :: bm).contains (.type "AttributeError") = false := by rw [List.contains_cons, hT, F.noAttr]; rfl
  have hcN : (Value.ref C :: bm).contains (.type "NameError") = false := by rw [List.contains_cons, hT, F.noName]; rfl
  refine codeAny_builtinAt F.entry ?_
  unfold Builtin.«BaseException.__new__»
  refine wpAt_bind ?_
  show wpAt _ _ _ (stack >>= _) _ _ _
  refine wpAt_bind (wpAt_stack fun p below => wpAt_of_wpAny ?_)
  wp_walk
  refine wpAt_of_wpAny ?_
  rw [F.owner]
  repeat (first | with_reducible refine wpAny_madeHere_exc F.canon hC ?_ | with_reducible refine wpAny_loadPart_at hC ?_ | (with_reducible refine wpAny_isSubtype_exc hC ?_; first | rw [hcB] | rw [hcA] | rw [hcN]) | wp_step)
  show R _ _
  rw [Heap.size_push]
  exact hq
theorem type_call_ownK (F : ExcBaseFacts B newId initId bmB) (hT : ∀ X : String, bm.contains (.type X) = bmB.contains (.type X)) {rest : List Value} {kw : List (Str × Value)} {fI : Addr} {Q : Fin → Shared → Prop}
    (hC : h.get? C = some (excClassObj nm q C N bs bm hdct sn sub ab col dd k0 k1 k2 k3 k5 newId))
    (hi : W.Looks (model prog w) h (typeLookup (.ref C) "__init__") (some (.ref fI))) (hb : ∀ self, W.Looks (model prog w) h (bindSpecial (.ref fI) self) (.ref fI, [self])) (hrest : rest.length ≤ sizeLine)
    (hq : codeAny (model prog w) A (.call (.ref fI) ⟨.ref (h.objs.size + 1) :: rest, kw⟩)
      (fun r s' => match r with | .ok (.ret v) => v = .none ∧ Q (.done (.ret (.ref (h.objs.size + 1)))) s' | .ok _ => False | .error e => E e s')
      ⟨(h.push (W.kdv_tup rest)).push (excO C h.objs.size), g, d, t, os⟩) :
    wpAny (model prog w) A (Builtin.«type.__call__» ⟨.ref C :: rest, kw⟩) Q E ⟨h, g, d, t, os⟩ := by
  repeat (first | with_reducible refine wpAny_loadPart_at hC ?_ | with_reducible refine wpAny_madeBy_exc hC ?_ | wp_step)
  refine codeAny_call_builtin_code (Code.quiet_builtin _ F.quiet) (check_new_ownK F hT hC ?_)
  refine new_ownK F hT hC ?_ hrest
  show wpAny _ _ _ _ _ _
  have k : ∀ b o, h.get? b = some o → ((h.push (W.kdv_tup rest)).push (excO C h.objs.size)).get? b = some o := fun b o e => Heap.get?_push_of_some _ (Heap.get?_push_of_some _ e)
  have hC₁ := k _ _ hC
  have hget : ((h.push (W.kdv_tup rest)).push (excO C h.objs.size)).get? (h.objs.size + 1) = some (excO C h.objs.size) := by heap_get
  have hcC : (Value.ref C :: bm).contains (.ref C) = true := by simp
  have i1 := hi.keeps k
  have b1 := (hb (.ref (h.objs.size + 1))).keeps k
  unfold isInstance
  repeat (first | with_reducible refine wpAny_loadPart_at hget ?_ | (with_reducible refine wpAny_isSubtype_exc hC₁ ?_; rw [hcC]) | wp_step)
  show wpAny _ _ (typeLookup (.ref C) _) _ _ _
  refine i1.at ?_
  refine wpAny_holding (wpAny_bind (b1.at ?_))
  refine wpAny_bind (wpAny_call (codeAny_mono hq fun r s' z => ?_))
  rcases r with e | (v | _ | _ | _) <;> first | exact z | exact z.elim | skip
  obtain ⟨rfl, z⟩ := z
  first
    | exact wpAny_pure (wpAny_pure z)
    | (wp_walk; exact z)
theorem call_ownK (F : ExcBaseFacts B newId initId bmB) (hT : ∀ X : String, bm.contains (.type X) = bmB.contains (.type X)) {rest : List Value} {kw : List (Str × Value)} {fI : Addr}
    (hC : h.get? C = some (excClassObj nm q C N bs bm hdct sn sub ab col dd k0 k1 k2 k3 k5 newId))
    (hi : W.Looks (model prog w) h (typeLookup (.ref C) "__init__") (some (.ref fI))) (hb : ∀ self, W.Looks (model prog w) h (bindSpecial (.ref fI) self) (.ref fI, [self])) (hrest : rest.length ≤ sizeLine)
    (hq : codeAny (model prog w) (A.under (.builtin "type.__call__" ⟨.ref C :: rest, kw⟩)) (.call (.ref fI) ⟨.ref (h.objs.size + 1) :: rest, kw⟩) (W.InitBack (h.objs.size + 1) R)
      ⟨(h.push (W.kdv_tup rest)).push (excO C h.objs.size), g, d, t, os⟩) :
    codeAny (model prog w) A (.call (.ref C) ⟨rest, kw⟩) R ⟨h, g, d, t, os⟩ := by
  have f1 := tc_lookup
  have f2 := tc_bind (.ref C)
  have hTy : (⟨h, g, d, t, os⟩ : Shared).TypeIs (.ref C) "type" := ⟨_, hC, rfl⟩
  refine codeAny_of_tree ?_
  show wpAny _ _ (callAny (.ref C) _) _ _ _
  repeat (any_goals (first | assumption | with_reducible refine wpAny_loadPart_at hC ?_ | wp_step))
  refine ⟨rfl, ?_⟩
  refine codeAny_call_builtin_at (Code.quiet_builtin _ (by decide +kernel)) entry_typeCall (wpAny_check_type_call_sub hC (type_call_ownK F hT hC hi hb hrest ?_))
  refine codeAny_mono hq fun r s' z => ?_
  rcases r with e | (v | _ | _ | _) <;> exact z
end
end PySem.HandSPX

namespace DL
open PyProof.Rows hiding St
open PySem PySem.Spec L2
/-! ### D86: exceptions as data -/
noncomputable def excD (p C : Addr) (fs : List (Str × Dt)) : Dt := .ins p (("0", .str badL) :: ("1", .int (C : Nat)) :: fs)
theorem exc_at {K : PySem.W.Frag} {F : Hp} {v : V} {p C : Addr} {ds : List (Str × Dt)} (r : Rep K F v (excD p C ds)) : v = .ref p ∧ ∃ d us, F p = some (exo p C d) ∧ ExD F d us ∧ RepF K F us ds := by
  unfold excD at r
  cases r with
  | ins h r =>
    cases r with
    | cons h t => exact (no_bad h).elim
  | adr h x r =>
    cases r with
    | cons h1 t =>
      cases h1
      rcases x with e | ⟨C', d, us, e, hf, xd⟩
      · cases e
      · injection e with e1 e2
        injection e1 with _ e1
        injection e1 with e1
        obtain rfl : C = C' := Int.ofNat.inj e1
        subst e2
        exact ⟨rfl, d, _, hf, xd, t⟩
theorem exc_rep {K : PySem.W.Frag} {F : Hp} {p C : Addr} {d : Option Addr} {us : List (Str × V)} {ds : List (Str × Dt)} (h : PySem.W.clsIn K p = none) (hf : F p = some (exo p C d)) (xd : ExD F d us) (r : RepF K F us ds) : Rep K F (.ref p) (excD p C ds) :=
  .adr h (.inr ⟨C, d, us, rfl, hf, xd⟩) (.cons (.int _) r)
theorem new_noCls {X : Cx} {pins : List (Addr × Obj)} {σ : St} {H : Hp} {s : Shared} {a : Addr} (I : Inv X pins σ H s) (e : s.heap.get? a = none) : PySem.W.clsIn X.K a = none := by
  unfold PySem.W.clsIn
  split
  · rename_i c d cd sl e2
    have h := I.kIn a _ e2
    rw [e] at h
    cases h
  · rfl
section
variable {X : Cx} {Z : Fm} {W : WX} {C g : Addr} {b : Bs} {f x : Str} {e : Expr} {ma : DT} {p pos : Pos}
theorem run_makeX {pins : List (Addr × Obj)} {σ : St} {H : Hp} {s : Shared} {Q : VK} {y : V} {ps' : List Value} {kw : List (Str × Value)} {u : Value} {fd : FuncData} {ps : List Str}
    (M : XcM X.K C b g f) (Fn : FnG X.prog X.w X.K X.mg X.base 1 g fd ps (spIni X.K f)) (hr : Room 2 X.A) (hgd : X.A.guards = some []) (hp5 : ps'.length ≤ 5)
    (hb : ∀ (s : Shared) (z : Value), X.K.In s.heap → [z, u].length = ps.length → BindsTo s fd ⟨z :: ps', kw⟩ (ps.zip [z, u]))
    (I : Inv X pins σ H s) (r : RelV y u)
    (q1 : ∀ a dx, PySem.W.clsIn X.K a = none → H a = none → H dx = none → dx ≠ a → Q (.ref a) (upd (upd H dx (exd dx [(f, y)])) a (exo a C (some dx)))) :
    wpAny (model X.prog X.w) X.A (PySem.call (.ref C) ps' kw) (EP X pins σ Q) X.xe s := by
  obtain ⟨hp, gs, dr, tk, os⟩ := s
  obtain ⟨nm, Nn, qn, bs, bm, hdct, sn, sub, ab, col, dd, k0, k1, k2, k3, k5, hC, hT⟩ := PySem.W.excInit_of I.kIn M.o.init
  have hsz : hp.objs.size ≤ hp.objs.size + 1 := Nat.le_succ _
  have hn : H (hp.objs.size + 1) = none := I.hok.fresh hsz
  have hg0 : hp.get? (hp.objs.size + 1) = none := Heap.get?_none_of_le (Nat.le_succ _)
  have nc := new_noCls I (a := hp.objs.size + 1) hg0
  have kk : ∀ c o, hp.get? c = some o → ((hp.push (PySem.W.kdv_tup ps')).push (PySem.HandSPX.excO C hp.objs.size)).get? c = some o := fun c o e => Heap.get?_push_of_some _ (Heap.get?_push_of_some _ e)
  have hget : ((hp.push (PySem.W.kdv_tup ps')).push (PySem.HandSPX.excO C hp.objs.size)).get? (hp.objs.size + 1) = some (PySem.HandSPX.excO C hp.objs.size) := by heap_get
  have I2 : Inv X pins σ (upd H (hp.objs.size + 1) (exo (hp.objs.size + 1) C none)) ⟨(hp.push (PySem.W.kdv_tup ps')).push (PySem.HandSPX.excO C hp.objs.size), gs, dr, tk, os⟩ :=
    I.laid (t' := tk) (a := hp.objs.size + 1) (o := exo (hp.objs.size + 1) C none) (h' := (hp.push (PySem.W.kdv_tup ps')).push (PySem.HandSPX.excO C hp.objs.size)) kk hsz (exo_ok hget)
  have r2 : Vals [V.ref (hp.objs.size + 1), y] [Value.ref (hp.objs.size + 1), u] := .cons rfl (.cons r .nil)
  have want : spIni X.K f [V.ref (hp.objs.size + 1), y] (upd H (hp.objs.size + 1) (exo (hp.objs.size + 1) C none)) (fun v H2 => v = .non ∧ Q (.ref (hp.objs.size + 1)) H2) (fun _ _ _ => False) := by
    refine ⟨_, C, b, y, rfl, M.o, upd_same, M.no, fun dx n ne => ⟨rfl, ?_⟩⟩
    rw [upd_ne ne] at n
    refine cast (congrArg _ ?_) (q1 _ dx nc hn n ne)
    funext c
    by_cases c1 : c = hp.objs.size + 1
    · rw [c1, upd_same, upd_same]
    · rw [upd_ne c1, upd_ne c1]
      by_cases c2 : c = dx
      · rw [c2, upd_same, upd_same]
      · rw [upd_ne c2, upd_ne c2, upd_ne c1]
  have hl : [Value.ref (hp.objs.size + 1), u].length = ps.length := by
    rw [← r2.length]
    exact Fn.len _ _ _ _ want
  refine wpAny_call (PySem.HandSPX.call_ownK b.facts hT hC (PySem.W.looks_findIn I.kIn M.ini) (fun self => PySem.W.bind_fn I.kIn self M.ty) (by rw [sizeLine_eq]; omega)
    (codeAny_mono (Fn.run _ X.stack _ _ ⟨Value.ref (hp.objs.size + 1) :: ps', kw⟩ [Value.ref (hp.objs.size + 1), u] _ _ (fun _ _ _ => False) (hr.make C ps' kw) hgd (I2.env0.make C ps' kw) (hb _ (Value.ref (hp.objs.size + 1)) I2.kIn hl) r2 want) fun r s' z => ?_))
  cases r with
  | error er => exact (passAt (W := fun _ _ _ _ => False) (fun _ _ ⟨_, _, _, _, _, _, _, _, _, _, _, _, _, _, _, _, z⟩ => z.elim) σ) pins _ _ er s' I2 z
  | ok fl =>
    cases fl with
    | ret u' =>
      obtain ⟨v, H', I3, rv, ev, q3⟩ := I2.after z
      subst ev
      exact ⟨rv, ⟨V.ref (hp.objs.size + 1), H', I3, rfl, q3⟩⟩
    | next => exact False.elim z
    | brk => exact False.elim z
    | cont => exact False.elim z
/-- an own class's __init__(self, f): self.f = f, called by position or by keyword -/
abbrev mkKw (f : Str) : List Value → Args := fun us => match us with
  | [z, v] => ⟨[z], [(f, v)]⟩
  | _ => ⟨[], []⟩
structure IniK (P : Program) (w : World) (K : PySem.W.Frag) (mg : Str → Option Value) (base : Heap) (g : Addr) (f : Str) : Prop where
  ok : ∃ fd ps, FnG P w K mg base 1 g fd ps (spIni K f) ∧ BindK K fd ps mkP ∧ BindK K fd ps (mkKw f)
theorem IniK.ini {P : Program} {w : World} {K : PySem.W.Frag} {mg : Str → Option Value} {base : Heap} {g : Addr} {f : Str} (D : IniK P w K mg base g f) : IniF P w K mg base g f := by
  obtain ⟨fd, ps, F, h1, _⟩ := D.ok
  exact ⟨fd, ps, F, h1⟩
theorem DI.exc {F H : Hp} {σ : St} {ρ : En} {a dx : Addr} {f : Str} {v : V} {d : Dt} (I : DI X.K Z F H σ ρ) (nc : PySem.W.clsIn X.K a = none) (na : H a = none) (nd : H dx = none) (ne : dx ≠ a) (r : Rep X.K F v d) :
    DI X.K Z (upd (upd F dx (exd dx [(f, v)])) a (exo a C (some dx))) (upd (upd H dx (exd dx [(f, v)])) a (exo a C (some dx))) σ ρ ∧ Same F (upd (upd F dx (exd dx [(f, v)])) a (exo a C (some dx))) ∧
      Rep X.K (upd (upd F dx (exd dx [(f, v)])) a (exo a C (some dx))) (.ref a) (excD a C [(f, d)]) := by
  have na2 : upd H dx (exd dx [(f, v)]) a = none := by rw [upd_ne (Ne.symm ne)]; exact na
  have I1 := I.freshF (ho := exd dx [(f, v)]) nd
  have I2 := I1.freshF (ho := exo a C (some dx)) na2
  have s1 : Same F (upd F dx (exd dx [(f, v)])) := same_new (I.freeF nd)
  have s2 : Same (upd F dx (exd dx [(f, v)])) (upd (upd F dx (exd dx [(f, v)])) a (exo a C (some dx))) := same_new (I1.freeF na2)
  exact ⟨I2, s1.trans s2, exc_rep nc upd_same (show upd _ _ _ dx = some _ by rw [upd_ne ne, upd_same]) (.cons (r.mono (s1.trans s2)) .nil)⟩
/-- C(e): an exception, not raised -/
def dMkX (C : Addr) (f : Str) (a : DT) : DT := fun ρ R U => a ρ (fun y ρ1 => ∀ p, R (excD p C [(f, y)]) ρ1) U
theorem d_mkX (M : XcM X.K C b g f) (D : IniK X.prog X.w X.K X.mg X.base g f) (hr : Room 2 X.A) (hgd : X.A.guards = some []) (hm : X.mg x = some (.ref C)) (ha : DE X Z W e ma) (hg : Gl X x := by rfl) (hdb : (x == ("__debug__" : Str)) = false := by decide)
    (hs : starEach [e] X.env = (false, eval e X.env) :: starEach [] X.env := by rfl) (hpl : (backTo pos (starEach ([] : List Expr) X.env)).any (·.1) = false := by rfl) : DE X Z W (.Call (.Name x p) [e] [] pos) (dMkX C f ma) := by
  refine ⟨fun pins s σ H Q I ⟨F, ρ, R, U, Id, hd, q, u⟩ => ?_⟩
  obtain ⟨fd, ps, Fn, hb, _⟩ := D.ok
  refine wpAny_Call_Name_kw (ld_glob I hg hm ?_ hdb)
  refine PySem.W.callWith_K (h₀ := X.base) I.ok.mod.kin M.o.kC (thn ((pa_cons ha pa_nil hs).run pos pins s σ H (fun vs H1 => ∃ y, vs = [y] ∧ ∀ a dx, PySem.W.clsIn X.K a = none → H1 a = none → H1 dx = none → dx ≠ a → Q (.ref a) (upd (upd H1 dx (exd dx [(f, y)])) a (exo a C (some dx)))) I
    ⟨F, ρ, _, U, Id, hd, fun d ρ1 v F1 H1 I1 s1 r1 h1 => ⟨v, rfl, fun a dx nc na nd ne => by
      obtain ⟨I2, s2, r2⟩ := DI.exc (C := C) (f := f) I1 nc na nd ne r1
      exact q _ ρ1 _ _ _ I2 (s1.trans s2) r2 (h1 a)⟩, u⟩) fun us s1 ⟨vs, H1, I1, r1, y, ev, q1⟩ => ⟨I1.kIn, ?_⟩) hs hpl
  subst ev
  show wpAny _ _ (call (.ref C) us) _ _ _
  cases r1 with
  | cons r0 t =>
    cases t
    exact run_makeX M Fn hr hgd (by simp) (fun s z Ks hl => hb s [z, _] Ks hl) I1 r0 q1
/-- C(f=e) -/
theorem d_mkXk {kp : Pos} (M : XcM X.K C b g f) (D : IniK X.prog X.w X.K X.mg X.base g f) (hr : Room 2 X.A) (hgd : X.A.guards = some []) (hm : X.mg x = some (.ref C)) (ha : DE X Z W e ma) (hg : Gl X x := by rfl) (hdb : (x == ("__debug__" : Str)) = false := by decide)
    (hall : (backToKw pos (keywordEach [⟨some f, e, kp⟩] X.env)).all (·.1.isSome) = true := by rfl) (hks : (backToKw pos (keywordEach [⟨some f, e, kp⟩] X.env)).filterMap (·.1) = [f] := by rfl)
    (hpl : ((backTo pos (starEach [] X.env)).any (·.1) || (backToKw pos (keywordEach [⟨some f, e, kp⟩] X.env)).any (·.1.isNone)) = false := by rfl) : DE X Z W (.Call (.Name x p) [] [⟨some f, e, kp⟩] pos) (dMkX C f ma) := by
  refine ⟨fun pins s σ H Q I ⟨F, ρ, R, U, Id, hd, q, u⟩ => ?_⟩
  obtain ⟨fd, ps, Fn, _, hb⟩ := D.ok
  refine wpAny_Call_Name_kw (ld_glob I hg hm ?_ hdb)
  refine PySem.W.callWith_KW0 (h₀ := X.base) I.ok.mod.kin M.o.kC hall (thn ((pk_cons (nm := some f) (kpos := kp) ha pk_nil).run pos pins s σ H (fun vs H1 => ∃ y, vs = [y] ∧ ∀ a dx, PySem.W.clsIn X.K a = none → H1 a = none → H1 dx = none → dx ≠ a → Q (.ref a) (upd (upd H1 dx (exd dx [(f, y)])) a (exo a C (some dx)))) I
    ⟨F, ρ, _, U, Id, hd, fun d ρ1 v F1 H1 I1 s1 r1 h1 => ⟨v, rfl, fun a dx nc na nd ne => by
      obtain ⟨I2, s2, r2⟩ := DI.exc (C := C) (f := f) I1 nc na nd ne r1
      exact q _ ρ1 _ _ _ I2 (s1.trans s2) r2 (h1 a)⟩, u⟩) fun us s1 ⟨vs, H1, I1, r1, y, ev, q1⟩ => ⟨I1.kIn, ?_⟩) hpl
  subst ev
  rw [hks]
  cases r1 with
  | cons r0 t =>
    cases t
    exact run_makeX M Fn hr hgd (by simp) (fun s z Ks hl => hb s [z, _] Ks hl) I1 r0 q1
/-- C(), an own class of exceptions without an __init__ -/
def dMkX0 (C : Addr) : DT := fun ρ R _ => ∀ p, R (excD p C []) ρ
theorem d_mkX0 (M : XcN X.K C b) (gC : X.mg x = some (.ref C)) (hg : Gl X x := by rfl) (hdb : (x == ("__debug__" : Str)) = false := by decide) : DE X Z W (.Call (.Name x p) [] [] pos) (dMkX0 C) := by
  refine ⟨fun pins s σ H Q I ⟨F, ρ, R, U, Id, hd, q, u⟩ => ?_⟩
  refine wpAny_Call_Name_kw (ld_glob I hg gC ?_ hdb)
  refine PySem.W.callWith_K0 I.kIn M.kC ?_
  show wpAny _ _ (call (.ref C) []) _ _ _
  obtain ⟨bm, N, nm, qn, bs, hdct, sn, sub, ab, col, dd, k0, k1, k2, k3, k5, mN, hC, hN, hni, T⟩ := exc_obj I.kIn M.ini
  refine wpAny_call_exc_subT b.facts T hC hN hni (fun h' a hm => ?_) (by show 0 ≤ sizeLine; omega)
  have hn : H a = none := I.hok.gone hm.new
  obtain ⟨t, ht, _, _⟩ := hm.there
  have I2 := Id.freshF (ho := exo a C none) hn
  have s2 : Same F (upd F a (exo a C none)) := same_new (Id.freeF hn)
  exact ⟨.ref a, upd H a (exo a C none), I.laidN hm.keeps hm.new hn (exo_ok ht), rfl, q _ ρ _ _ _ I2 s2 (exc_rep (d := none) (us := []) (new_noCls I hm.new) upd_same rfl .nil) (hd a)⟩
/-- what an exception's object is -/
theorem exc_inst {pins : List (Addr × Obj)} {σ : St} {F H : Hp} {s : Shared} {a : Addr} {d : Option Addr} {us : List (Str × V)} (I : Inv X pins σ H s) (sf : Same F H) (h : F a = some (exo a C d)) (xd : ExD F d us) :
    ∃ o od, PySem.W.InstAt s.heap a o C od ∧ match d, od with
      | some dx, some o => s.heap.get? dx = some o ∧ ∃ mA, s.heap.Ns1 dx mA ∧ ∀ f, RelO (us.lookup f) (mA f)
      | none, none => us = []
      | _, _ => False := by
  obtain ⟨t1, h1⟩ := exo_at I.hok (sf _ _ h)
  cases d with
  | none => exact ⟨_, none, ⟨h1, rfl, rfl, trivial⟩, xd⟩
  | some dx =>
    obtain ⟨mA, hn, hl⟩ := exd_at I.hok (sf _ _ xd)
    obtain ⟨o, ho, _⟩ := lookIn_ns hn
    exact ⟨_, some o, ⟨h1, rfl, rfl, ho⟩, ho, mA, hn, hl⟩
/-- isinstance(e, c), e tells an exception; g says what of its class -/
def dIsX (g : List (Addr × Bool)) (a : DT) : DT := fun ρ R U => a ρ (fun x ρ1 => ∃ p C fs b, x = excD p C fs ∧ (C, b) ∈ g ∧ R (.bl b) ρ1) U
theorem d_isX {gl : List (Addr × Bool)} {c : V} {u : Value} {n : Expr} {p1 : Pos} (hA : ∀ z ∈ gl, L2.ExcC X.K z.1 ∧ PySem.W.kitOne X.K (.ref z.1) u = some z.2) (ha : DE X Z W e ma) (hc : PE X n (tC c)) (hk : ClsV c u) (hg : Gl X "isinstance" := by rfl) (hm : X.mg "isinstance" = none := by rfl)
    (h1 : starEach [e, n] X.env = (false, eval e X.env) :: starEach [n] X.env := by rfl) (h2 : starEach [n] X.env = (false, eval n X.env) :: starEach [] X.env := by rfl) (hpl : (backTo pos (starEach [n] X.env)).any (·.1) = false := by rfl) :
    DE X Z W (.Call (.Name "isinstance" p1) [e, n] [] pos) (dIsX gl ma) := by
  refine PE.imp (pe_callB (id := "isinstance") (r := fun xs H Q => ∃ (F : Hp) (a C : Addr) (d : Option Addr) (us : List (Str × V)) (b : Bool), xs = [.ref a, c] ∧ F a = some (exo a C d) ∧ ExD F d us ∧ Same F H ∧ (C, b) ∈ gl ∧ Q (.bl b) H) ?_ hg hm rfl (pa_cons ha (pa_cons hc pa_nil h2) h1) (he := h1) (hpl := hpl)) ?_
  · intro pins s σ H xs us Q I r ⟨F, a, C, d, fs, b, e, hf, xd, sf, eg, k⟩
    subst e
    obtain ⟨u1, u2, rfl, r1, r2⟩ := vals2 r
    obtain rfl : u1 = Value.ref a := r1
    obtain rfl := hk.eq r2
    obtain ⟨T, e⟩ := hA _ eg
    obtain ⟨o, od, J, _⟩ := exc_inst I sf hf xd
    obtain ⟨cd, hcd, _⟩ := PySem.W.any_some T.hd
    exact PySem.W.kia_one (PySem.W.kitx_exc (by rw [hcd]; rfl) T.hg T.hk T.hs T.ha T.hn T.ht T.hm) I.kIn J e (fun z => nomatch z) fun tk => ⟨.bl b, H, I.kept (t' := tk) fun _ _ z => z, rfl, k⟩
  · intro σ H Q ⟨F, ρ, R, U, I, hm, k, u⟩
    refine ⟨F, ρ, _, U, I, hm, fun x ρ1 v F1 H1 I1 s1 r1 h1 => ?_, u⟩
    obtain ⟨p, C, fs, b, rfl, eg, h⟩ := h1
    obtain ⟨rfl, d, us, hf, xd, rf⟩ := exc_at r1
    exact ⟨F1, p, C, d, us, b, rfl, hf, xd, I1.fh, eg, k (.bl b) ρ1 _ F1 H1 I1 s1 (.bl b) h⟩
/-- e.f, e tells an exception -/
def dXfX (Cs : List Addr) (f : Str) (a : DT) : DT := fun ρ R U => a ρ (fun x ρ1 => ∃ p C fs, x = excD p C fs ∧ C ∈ Cs ∧ opt (fs.lookup f) fun d => R d ρ1) U
theorem d_xfX {Cs : List Addr} {f : Str} (hA : ∀ C ∈ Cs, XfC X.K C ∧ PySem.W.findIn X.K (.ref C) f = some none) (ha : DE X Z W e ma) (hb : attributeBase e f X.env (eval e X.env) = eval e X.env := by rfl) : DE X Z W (.Attribute e f pos) (dXfX Cs f ma) := by
  refine ⟨fun pins s σ H Q I ⟨F, ρ, R, U, ID, hm, k, u⟩ => ?_⟩
  refine attr_of hb (thn (ha.run pins s σ H (fun v H1 => ∃ (F1 : Hp) (a C : Addr) (d : Option Addr) (us : List (Str × V)) (w : V), v = .ref a ∧ F1 a = some (exo a C d) ∧ ExD F1 d us ∧ Same F1 H1 ∧ C ∈ Cs ∧ us.lookup f = some w ∧ Q w H1) I ⟨F, ρ, _, U, ID, hm, fun x ρ1 v F1 H1 I1 s1 r1 h1 => ?_, u⟩) fun u' s1 ⟨v, H1, I1, rv, F1, a, C, d, us, w, ev, hf, xd, sf, hC, el, q⟩ => ?_)
  · obtain ⟨p, C, fs, rfl, hC, h1⟩ := h1
    obtain ⟨rfl, d, us, hf, xd, rf⟩ := exc_at r1
    obtain ⟨dv, e3, h⟩ := opt_get h1
    obtain ⟨w, e4, rw'⟩ := rf.lookup e3
    exact ⟨F1, p, C, d, us, w, rfl, hf, xd, I1.fh, hC, e4, k dv ρ1 w F1 H1 I1 s1 rw' h⟩
  · subst ev
    obtain rfl : u' = Value.ref a := rv
    obtain ⟨T, no⟩ := hA C hC
    obtain ⟨o, od, J, hod⟩ := exc_inst I1 sf hf xd
    cases d with
    | none =>
      cases od with
      | none => rw [hod] at el; cases el
      | some _ => exact hod.elim
    | some dx =>
      cases od with
      | none => exact hod.elim
      | some o2 =>
        obtain ⟨ho, mA, hns, hl⟩ := hod
        obtain ⟨o', ho', look⟩ := lookIn_ns hns
        obtain rfl : o2 = o' := Option.some.inj (ho.symm.trans ho')
        obtain ⟨u2, eu, ru⟩ := RelO.some_of (v := w) (o := mA f) (by rw [← el]; exact hl f)
        exact PySem.HandSPX.exc_get I1.kIn J T.ga T.gg T.exC (PySem.W.findObj_own T.hdC no rfl (by rw [look, eu])) (handed_of ru) ⟨w, H1, I1.tok _, ru, q⟩
end
section
variable {P : Program} {w : World} {K : PySem.W.Frag} {mg : Str → Option Value} {base : Heap}
theorem ini_okK {x qual : Str} {params : Arguments} {scope : Scope} {dvs : List V} {kws : List (Str × V)} {g : Addr} {fd : FuncData} {N : List Str} {f self giv : Str} {p1 p2 p3 p4 : Pos} (hN : N = [self, giv])
    (F : FunD K x qual params [.Assign [.Attribute (.Name self p1) f p2] (.Name giv p3) p4] scope dvs kws g fd) (S : FnScope N N scope) (hb : BindK K fd N mkP) (hb2 : BindK K fd N (mkKw f))
    (hs : ∀ X : Cx, X.env.scope = scope → Vis X.env.scope self ∧ Vis X.env.scope giv := by intro X e; rw [e]; exact ⟨Or.inl rfl, Or.inl rfl⟩)
    (hd1 : (self == ("__debug__" : Str)) = false := by decide) (hd2 : (self == ("__classdict__" : Str)) = false := by decide) (hd3 : (giv == ("__debug__" : Str)) = false := by decide) (hd4 : (giv == ("__classdict__" : Str)) = false := by decide)
    (hsw : ∀ X : Cx, swapsWith (.Name giv p3) (some (.Attribute (.Name self p1) f p2)) p4.line X.env = pure false := by intro X; rfl) : IniK P w K mg base g f := by
  obtain ⟨oc, od, dV, kV, doc, pm, an, cdv, ct, osl, rfl, lk, hcd, _, _⟩ := F.ex
  subst hN
  refine ⟨_, [self, giv], fn_ofG lk hcd S (fun vs H Q E ⟨a, C, b, y, e, _⟩ => by rw [e]; rfl) (fun A outer s H vs Q E hr hgd ⟨a, C, b, y, e, T, at_, no, q⟩ => ?_), hb, hb2⟩
  subst e
  refine ⟨_, pss_one (t := fun D σ H => σ = [some (V.ref a), some y] ∧ H a = some (exo a C none) ∧ ∀ dx, H dx = none → dx ≠ a → D.nx σ (upd (upd H dx (exd dx [(f, y)])) a (exo a C (some dx)))) ⟨fun pins s1 σ H1 D I ⟨eσ, at1, nx⟩ => ?_⟩, rfl, at_, q⟩
  subst eσ
  obtain ⟨v1, v2⟩ := hs (cxOf (L2.CX P w) P w K mg base [self, giv] qual scope g cdv A outer s H E) rfl
  refine plainObj_wpAny_Assign_Attribute (thn ((pe_var (i := 1) (x := giv) rfl v2 hd3 hd4).run pins s1 _ H1 (fun v H2 => v = y ∧ H2 = H1) I ⟨y, rfl, rfl, rfl⟩) fun u s2 ⟨v, H2, I2, rv, ev, eH⟩ => ?_) (hsw _)
  subst ev
  subst eH
  refine thn ((pe_var (i := 0) (x := self) rfl v1 hd1 hd2).run pins s2 _ H2 (fun v H3 => v = .ref a ∧ H3 = H2) I2 ⟨.ref a, rfl, rfl, rfl⟩) fun u' s3 ⟨v', H3, I3, rv', ev', eH'⟩ => ?_
  subst ev'
  subst eH'
  obtain rfl : u' = Value.ref a := rv'
  exact first_store T I3 at1 no rv fun dx s' n ne J => ⟨_, _, J, nx dx n ne⟩
end
end DL

namespace DL
open PyProof.Rows hiding St
open PySem PySem.Spec L2

abbrev N_L_bases : List Str := ["_law_e", "_law_found"]
abbrev P_L_bases : List Str := ["_law_e"]
theorem sc_L_bases : FnScope N_L_bases P_L_bases (scopeS st_L_bases) := ⟨rfl, rfl, rfl, by decide +kernel, rfl, by decide +kernel, by decide +kernel⟩
abbrev N_L_dip : List Str := ["_law_jar_here", "_law_wide", "_law_seed", "_law_digit"]
abbrev P_L_dip : List Str := ["_law_jar_here", "_law_wide"]
theorem sc_L_dip : FnScope N_L_dip P_L_dip (scopeS st_L_dip) := ⟨rfl, rfl, rfl, by decide +kernel, rfl, by decide +kernel, by decide +kernel⟩
abbrev N_L_pick : List Str := ["_law_jar_here", "_law_menu", "_law_at"]
abbrev P_L_pick : List Str := ["_law_jar_here", "_law_menu"]
theorem sc_L_pick : FnScope N_L_pick P_L_pick (scopeS st_L_pick) := ⟨rfl, rfl, rfl, by decide +kernel, rfl, by decide +kernel, by decide +kernel⟩
abbrev N_L_odd : List Str := ["_law_jar_here", "_law_menu"]
abbrev P_L_odd : List Str := ["_law_jar_here"]
theorem sc_L_odd : FnScope N_L_odd P_L_odd (scopeS st_L_odd) := ⟨rfl, rfl, rfl, by decide +kernel, rfl, by decide +kernel, by decide +kernel⟩
abbrev N_InvalidThree_init : List Str := ["self", "given"]
abbrev P_InvalidThree_init : List Str := ["self", "given"]
theorem sc_InvalidThree_init : FnScope N_InvalidThree_init P_InvalidThree_init (scopeS st_InvalidThree_init) := ⟨rfl, rfl, rfl, by decide +kernel, rfl, by decide +kernel, by decide +kernel⟩
abbrev N_InvalidOrder_init : List Str := ["self", "given"]
abbrev P_InvalidOrder_init : List Str := ["self", "given"]
theorem sc_InvalidOrder_init : FnScope N_InvalidOrder_init P_InvalidOrder_init (scopeS st_InvalidOrder_init) := ⟨rfl, rfl, rfl, by decide +kernel, rfl, by decide +kernel, by decide +kernel⟩
abbrev N_InvalidText_init : List Str := ["self", "given"]
abbrev P_InvalidText_init : List Str := ["self", "given"]
theorem sc_InvalidText_init : FnScope N_InvalidText_init P_InvalidText_init (scopeS st_InvalidText_init) := ⟨rfl, rfl, rfl, by decide +kernel, rfl, by decide +kernel, by decide +kernel⟩
abbrev N_InvalidWish_init : List Str := ["self", "given"]
abbrev P_InvalidWish_init : List Str := ["self", "given"]
theorem sc_InvalidWish_init : FnScope N_InvalidWish_init P_InvalidWish_init (scopeS st_InvalidWish_init) := ⟨rfl, rfl, rfl, by decide +kernel, rfl, by decide +kernel, by decide +kernel⟩
abbrev N_InvalidNumber_init : List Str := ["self", "given"]
abbrev P_InvalidNumber_init : List Str := ["self", "given"]
theorem sc_InvalidNumber_init : FnScope N_InvalidNumber_init P_InvalidNumber_init (scopeS st_InvalidNumber_init) := ⟨rfl, rfl, rfl, by decide +kernel, rfl, by decide +kernel, by decide +kernel⟩
abbrev N_InvalidThings_init : List Str := ["self", "given"]
abbrev P_InvalidThings_init : List Str := ["self", "given"]
theorem sc_InvalidThings_init : FnScope N_InvalidThings_init P_InvalidThings_init (scopeS st_InvalidThings_init) := ⟨rfl, rfl, rfl, by decide +kernel, rfl, by decide +kernel, by decide +kernel⟩
abbrev N_NotACrowd_init : List Str := ["self", "given"]
abbrev P_NotACrowd_init : List Str := ["self", "given"]
theorem sc_NotACrowd_init : FnScope N_NotACrowd_init P_NotACrowd_init (scopeS st_NotACrowd_init) := ⟨rfl, rfl, rfl, by decide +kernel, rfl, by decide +kernel, by decide +kernel⟩
abbrev N_NotARoll_init : List Str := ["self", "given"]
abbrev P_NotARoll_init : List Str := ["self", "given"]
theorem sc_NotARoll_init : FnScope N_NotARoll_init P_NotARoll_init (scopeS st_NotARoll_init) := ⟨rfl, rfl, rfl, by decide +kernel, rfl, by decide +kernel, by decide +kernel⟩
abbrev N_InvalidCommand_init : List Str := ["self", "given"]
abbrev P_InvalidCommand_init : List Str := ["self", "given"]
theorem sc_InvalidCommand_init : FnScope N_InvalidCommand_init P_InvalidCommand_init (scopeS st_InvalidCommand_init) := ⟨rfl, rfl, rfl, by decide +kernel, rfl, by decide +kernel, by decide +kernel⟩
abbrev N_InvalidRules_init : List Str := ["self", "index"]
abbrev P_InvalidRules_init : List Str := ["self", "index"]
theorem sc_InvalidRules_init : FnScope N_InvalidRules_init P_InvalidRules_init (scopeS st_InvalidRules_init) := ⟨rfl, rfl, rfl, by decide +kernel, rfl, by decide +kernel, by decide +kernel⟩
abbrev N_InvalidPeople_init : List Str := ["self", "index"]
abbrev P_InvalidPeople_init : List Str := ["self", "index"]
theorem sc_InvalidPeople_init : FnScope N_InvalidPeople_init P_InvalidPeople_init (scopeS st_InvalidPeople_init) := ⟨rfl, rfl, rfl, by decide +kernel, rfl, by decide +kernel, by decide +kernel⟩
abbrev N_InvalidOrders_init : List Str := ["self", "index"]
abbrev P_InvalidOrders_init : List Str := ["self", "index"]
theorem sc_InvalidOrders_init : FnScope N_InvalidOrders_init P_InvalidOrders_init (scopeS st_InvalidOrders_init) := ⟨rfl, rfl, rfl, by decide +kernel, rfl, by decide +kernel, by decide +kernel⟩
abbrev N_TooMany_init : List Str := ["self", "given"]
abbrev P_TooMany_init : List Str := ["self", "given"]
theorem sc_TooMany_init : FnScope N_TooMany_init P_TooMany_init (scopeS st_TooMany_init) := ⟨rfl, rfl, rfl, by decide +kernel, rfl, by decide +kernel, by decide +kernel⟩
abbrev N_UnknownOrder_init : List Str := ["self", "given"]
abbrev P_UnknownOrder_init : List Str := ["self", "given"]
theorem sc_UnknownOrder_init : FnScope N_UnknownOrder_init P_UnknownOrder_init (scopeS st_UnknownOrder_init) := ⟨rfl, rfl, rfl, by decide +kernel, rfl, by decide +kernel, by decide +kernel⟩
abbrev N_UnknownThing_init : List Str := ["self", "given"]
abbrev P_UnknownThing_init : List Str := ["self", "given"]
theorem sc_UnknownThing_init : FnScope N_UnknownThing_init P_UnknownThing_init (scopeS st_UnknownThing_init) := ⟨rfl, rfl, rfl, by decide +kernel, rfl, by decide +kernel, by decide +kernel⟩
abbrev N_Broken_init : List Str := ["self", "index"]
abbrev P_Broken_init : List Str := ["self", "index"]
theorem sc_Broken_init : FnScope N_Broken_init P_Broken_init (scopeS st_Broken_init) := ⟨rfl, rfl, rfl, by decide +kernel, rfl, by decide +kernel, by decide +kernel⟩
abbrev N_NotCalm_init : List Str := ["self", "given"]
abbrev P_NotCalm_init : List Str := ["self", "given"]
theorem sc_NotCalm_init : FnScope N_NotCalm_init P_NotCalm_init (scopeS st_NotCalm_init) := ⟨rfl, rfl, rfl, by decide +kernel, rfl, by decide +kernel, by decide +kernel⟩
abbrev N_TooFew_init : List Str := ["self", "given"]
abbrev P_TooFew_init : List Str := ["self", "given"]
theorem sc_TooFew_init : FnScope N_TooFew_init P_TooFew_init (scopeS st_TooFew_init) := ⟨rfl, rfl, rfl, by decide +kernel, rfl, by decide +kernel, by decide +kernel⟩
abbrev N_L_by_word : List Str := ["_law_first", "_law_second", "_law_found"]
abbrev P_L_by_word : List Str := ["_law_first", "_law_second"]
theorem sc_L_by_word : FnScope N_L_by_word P_L_by_word (scopeS st_L_by_word) := ⟨rfl, rfl, rfl, by decide +kernel, rfl, by decide +kernel, by decide +kernel⟩
abbrev N_L_by_place : List Str := ["_law_first", "_law_second", "_law_found"]
abbrev P_L_by_place : List Str := ["_law_first", "_law_second"]
theorem sc_L_by_place : FnScope N_L_by_place P_L_by_place (scopeS st_L_by_place) := ⟨rfl, rfl, rfl, by decide +kernel, rfl, by decide +kernel, by decide +kernel⟩
abbrev N_L_sorts : List Str := ["_law_e", "_law_found"]
abbrev P_L_sorts : List Str := ["_law_e"]
theorem sc_L_sorts : FnScope N_L_sorts P_L_sorts (scopeS st_L_sorts) := ⟨rfl, rfl, rfl, by decide +kernel, rfl, by decide +kernel, by decide +kernel⟩
abbrev N_L_kept : List Str := ["_law_e", "_law_at"]
abbrev P_L_kept : List Str := ["_law_e", "_law_at"]
theorem sc_L_kept : FnScope N_L_kept P_L_kept (scopeS st_L_kept) := ⟨rfl, rfl, rfl, by decide +kernel, rfl, by decide +kernel, by decide +kernel⟩
abbrev N_L_right : List Str := ["_law_jar_here", "_law_made", "_law_first", "_law_second", "_law_at", "_law_under", "_law_due", "_law_k"]
abbrev P_L_right : List Str := ["_law_jar_here"]
theorem sc_L_right : FnScope N_L_right P_L_right (scopeS st_L_right) := ⟨rfl, rfl, rfl, by decide +kernel, rfl, by decide +kernel, by decide +kernel⟩
abbrev N_L_jar : List Str := ["_law_script", "_law_k", "_law_churned", "_law_cell", "_law_own", "_law_digits"]
abbrev P_L_jar : List Str := ["_law_script", "_law_k"]
theorem sc_L_jar : FnScope N_L_jar P_L_jar (scopeS st_L_jar) := ⟨rfl, rfl, rfl, by decide +kernel, rfl, by decide +kernel, by decide +kernel⟩
abbrev N_law : List Str := ["_law_script", "_law_plain_ones", "_law_e", "_law_k"]
abbrev P_law : List Str := ["_law_script"]
theorem sc_law : FnScope N_law P_law (scopeS st_law) := ⟨rfl, rfl, rfl, by decide +kernel, rfl, by decide +kernel, by decide +kernel⟩
/-! ### promises -/
abbrev Jr := Int × Int × Int
def jr (j : Jr) : MO := .lst [.int j.1, .int j.2.1, .int j.2.2]
def SpJ {α β : Type} (A : α → List Sl) (C : α → Prop) (P : α → β → Prop) (R : α → β → Dt) : SpD :=
  Sp1 (α := (Bool × Addr × Jr) × α) (β := β × Jr) (fun x => .own x.1.1 x.1.2.1 (jr x.1.2.2) :: A x.2) (fun x => C x.2) (fun x y => P x.2 y.1) (fun x y => .d (R x.2 y.1)) (fun x y => [jr y.2])
def SpF {α : Type} (A : α → List Sl) (C : α → Prop) (R : α → Dt) : SpD := Sp1 (α := α) (β := Unit) A C (fun _ _ => True) (fun x _ => .d (R x)) (fun _ _ => [])
def small (c : Nat) : Bool := decide (97 ≤ c) && decide (c ≤ 122)
def noIns : Dt → Prop
  | .ins _ _ => False
  | .str L => L.length ≤ 100000
  | _ => True
def sp_L_jar (K : PySem.W.Frag) : SpD := Sp1 (α := List Int × Int) (β := Jr) (fun x => [.dat (.scr (x.1.map .int)), .dat (.int x.2)]) (fun x => x.1.length ≤ 63 ∧ 0 ≤ x.2 ∧ x.2 ≤ 100) (fun _ _ => True) (fun _ y => .o (jr y)) (fun _ _ => [])
def sp_L_dip (K : PySem.W.Frag) : SpD := SpJ (α := Int) (β := Int) (fun w => [.dat (.int w)]) (fun w => 0 < w ∧ w ≤ 10 ^ 30) (fun w r => 0 ≤ r ∧ r < w) (fun _ r => .int r)
def sp_L_right (K : PySem.W.Frag) : SpD := SpJ (α := Unit) (β := Unit) (fun _ => []) (fun _ => True) (fun _ _ => True) (fun _ _ => .bl true)
def sp_law (K : PySem.W.Frag) : SpD := SpF (α := List Int) (fun x => [.dat (.scr (x.map .int))]) (fun x => x.length ≤ 63) (fun _ => .bl true)

/-! ### pick from a text, a list, a tuple -/
def srcP : Dt → Option (List Dt)
  | .str l => some (chars l)
  | .lst ds => some ds
  | .tup ds => some ds
  | _ => none
def sp_L_pick (K : PySem.W.Frag) : SpD := SpJ (α := Dt × List Dt) (β := Dt) (fun x => [.dat x.1]) (fun x => srcP x.1 = some x.2 ∧ x.2 ≠ [] ∧ x.2.length ≤ 1000) (fun x d => d ∈ x.2) (fun _ d => d)

/-! ### errors as values (k01) -/
def Shw (d : Dt) : Prop := ShX d ∧ (pyX d).showable = true ∧ (pyX d).shown.length ≤ 2000
def Vl (d : Dt) : Prop := noIns d ∧ Shw d
def sp_L_odd (K : PySem.W.Frag) : SpD := SpJ (α := Unit) (β := Dt) (fun _ => []) (fun _ => True) (fun _ d => Vl d) (fun _ d => d)
def xC (K : PySem.W.Frag) (i : Nat) : Addr := He.ga K (xNames.getD i "")
/-- what an error keeps is called so -/
def xF (i : Nat) : Str := if (8 < i ∧ i < 12) ∨ i = 17 then "index" else "given"
def xU (i : Nat) : Nat := if i < 12 then 0 else if i < 14 then 1 else if i < 19 then 2 else i - 19
noncomputable def xval (K : PySem.W.Frag) (p : Addr) (i : Nat) (a b : Dt) : Dt := excD p (xC K i) [(xF i, if i % 2 = 0 then a else b)]
noncomputable def xvals (K : PySem.W.Frag) (ps : Nat → Addr) (a b : Dt) : List Dt := (List.range 18).map fun i => xval K (ps i) i a b
def oneOf (n k : Nat) : Dt := .lst ((List.range n).map fun j => .bl (decide (j = k)))
abbrev XV := Addr × Nat × List (Str × Dt)
noncomputable def sp_L_bases (K : PySem.W.Frag) : SpD := SpF (α := XV) (fun x => [.dat (excD x.1 (xC K x.2.1) x.2.2)]) (fun x => x.2.1 < 22) (fun x => oneOf 3 (xU x.2.1))
noncomputable def sp_L_sorts (K : PySem.W.Frag) : SpD := SpF (α := XV) (fun x => [.dat (excD x.1 (xC K x.2.1) x.2.2)]) (fun x => x.2.1 < 19) (fun x => oneOf 19 x.2.1)
noncomputable def sp_L_kept (K : PySem.W.Frag) : SpD := SpF (α := Addr × Nat × Dt) (fun x => [.dat (excD x.1 (xC K x.2.1) [(xF x.2.1, x.2.2)]), .dat (.int (x.2.1 : Nat))]) (fun x => x.2.1 < 18) (fun x => x.2.2)
noncomputable def sp_L_by_place (K : PySem.W.Frag) : SpD := Sp1 (α := Dt × Dt) (β := Nat → Addr) (fun x => [.dat x.1, .dat x.2]) (fun _ => True) (fun _ _ => True) (fun x ps => .d (.lst (xvals K ps x.1 x.2))) (fun _ _ => [])
noncomputable def sp_L_by_word (K : PySem.W.Frag) : SpD := Sp1 (α := Dt × Dt) (β := Nat → Addr) (fun x => [.dat x.1, .dat x.2]) (fun _ => True) (fun _ _ => True) (fun x ps => .d (.lst (xvals K ps x.1 x.2))) (fun _ _ => [])

theorem mono_L_bases {K : PySem.W.Frag} : Mono (sp_L_bases K) := by first | exact Sp1.mono | exact SpE.mono | exact SpEO.mono
theorem len_L_bases {K : PySem.W.Frag} : ∀ args Q U, sp_L_bases K args Q U → args.length = List.length P_L_bases := by first | exact Sp1.len fun _ => rfl | exact SpE.len fun _ => rfl | exact SpEO.len fun _ => rfl
theorem mono_L_dip {K : PySem.W.Frag} : Mono (sp_L_dip K) := by first | exact Sp1.mono | exact SpE.mono | exact SpEO.mono
theorem len_L_dip {K : PySem.W.Frag} : ∀ args Q U, sp_L_dip K args Q U → args.length = List.length P_L_dip := by first | exact Sp1.len fun _ => rfl | exact SpE.len fun _ => rfl | exact SpEO.len fun _ => rfl
theorem mono_L_pick {K : PySem.W.Frag} : Mono (sp_L_pick K) := by first | exact Sp1.mono | exact SpE.mono | exact SpEO.mono
theorem len_L_pick {K : PySem.W.Frag} : ∀ args Q U, sp_L_pick K args Q U → args.length = List.length P_L_pick := by first | exact Sp1.len fun _ => rfl | exact SpE.len fun _ => rfl | exact SpEO.len fun _ => rfl
theorem mono_L_odd {K : PySem.W.Frag} : Mono (sp_L_odd K) := by first | exact Sp1.mono | exact SpE.mono | exact SpEO.mono
theorem len_L_odd {K : PySem.W.Frag} : ∀ args Q U, sp_L_odd K args Q U → args.length = List.length P_L_odd := by first | exact Sp1.len fun _ => rfl | exact SpE.len fun _ => rfl | exact SpEO.len fun _ => rfl
theorem mono_L_by_word {K : PySem.W.Frag} : Mono (sp_L_by_word K) := by first | exact Sp1.mono | exact SpE.mono | exact SpEO.mono
theorem len_L_by_word {K : PySem.W.Frag} : ∀ args Q U, sp_L_by_word K args Q U → args.length = List.length P_L_by_word := by first | exact Sp1.len fun _ => rfl | exact SpE.len fun _ => rfl | exact SpEO.len fun _ => rfl
theorem mono_L_by_place {K : PySem.W.Frag} : Mono (sp_L_by_place K) := by first | exact Sp1.mono | exact SpE.mono | exact SpEO.mono
theorem len_L_by_place {K : PySem.W.Frag} : ∀ args Q U, sp_L_by_place K args Q U → args.length = List.length P_L_by_place := by first | exact Sp1.len fun _ => rfl | exact SpE.len fun _ => rfl | exact SpEO.len fun _ => rfl
theorem mono_L_sorts {K : PySem.W.Frag} : Mono (sp_L_sorts K) := by first | exact Sp1.mono | exact SpE.mono | exact SpEO.mono
theorem len_L_sorts {K : PySem.W.Frag} : ∀ args Q U, sp_L_sorts K args Q U → args.length = List.length P_L_sorts := by first | exact Sp1.len fun _ => rfl | exact SpE.len fun _ => rfl | exact SpEO.len fun _ => rfl
theorem mono_L_kept {K : PySem.W.Frag} : Mono (sp_L_kept K) := by first | exact Sp1.mono | exact SpE.mono | exact SpEO.mono
theorem len_L_kept {K : PySem.W.Frag} : ∀ args Q U, sp_L_kept K args Q U → args.length = List.length P_L_kept := by first | exact Sp1.len fun _ => rfl | exact SpE.len fun _ => rfl | exact SpEO.len fun _ => rfl
theorem mono_L_right {K : PySem.W.Frag} : Mono (sp_L_right K) := by first | exact Sp1.mono | exact SpE.mono | exact SpEO.mono
theorem len_L_right {K : PySem.W.Frag} : ∀ args Q U, sp_L_right K args Q U → args.length = List.length P_L_right := by first | exact Sp1.len fun _ => rfl | exact SpE.len fun _ => rfl | exact SpEO.len fun _ => rfl
theorem mono_L_jar {K : PySem.W.Frag} : Mono (sp_L_jar K) := by first | exact Sp1.mono | exact SpE.mono | exact SpEO.mono
theorem len_L_jar {K : PySem.W.Frag} : ∀ args Q U, sp_L_jar K args Q U → args.length = List.length P_L_jar := by first | exact Sp1.len fun _ => rfl | exact SpE.len fun _ => rfl | exact SpEO.len fun _ => rfl
theorem mono_law {K : PySem.W.Frag} : Mono (sp_law K) := by first | exact Sp1.mono | exact SpE.mono | exact SpEO.mono
theorem len_law {K : PySem.W.Frag} : ∀ args Q U, sp_law K args Q U → args.length = List.length P_law := by first | exact Sp1.len fun _ => rfl | exact SpE.len fun _ => rfl | exact SpEO.len fun _ => rfl
noncomputable def m_L_bases (K : PySem.W.Frag) : DSt := (dSeq (dSetO 1 (dLst (daCons (dAndV (dIsX (xt K [true, true, true, true, true, true, true, true, true, true, true, true, false, false, false, false, false, false, false, true, false, false]) (dVar 0)) (dIsX (xt K [true, true, true, true, true, true, true, true, true, true, true, true, false, false, false, false, false, false, false, true, false, false]) (dVar 0))) daNil))) (dSeq (dDrop (dApp 1 (dAndV (dIsX (xt K [false, false, false, false, false, false, false, false, false, false, false, false, true, true, false, false, false, false, false, false, true, false]) (dVar 0)) (dIsX (xt K [false, false, false, false, false, false, false, false, false, false, false, false, true, true, false, false, false, false, false, false, true, false]) (dVar 0))))) (dRet (dBin oAdd (dVar 1) (dFr (dLst (daCons (dAndV (dIsX (xt K [false, false, false, false, false, false, false, false, false, false, false, false, false, false, true, true, true, true, true, false, false, true]) (dVar 0)) (dIsX (xt K [false, false, false, false, false, false, false, false, false, false, false, false, false, false, true, true, true, true, true, false, false, true]) (dVar 0))) daNil)))))))
def m_L_dip (K : PySem.W.Frag) : DSt := (dSeq (dPut 0 (dC (.int 2)) (dBin oAdd (dIxO 0 (dC (.int 2))) (dC (.int 1)))) (dSeq (dIfS (dBl (dBin oGt (dIxO 0 (dC (.int 0))) (dC (.int 0)))) (dSeq (dSet 3 (dBin oMod (dCB (one oInt) (daCons (dIxO 0 (dC (.int 0))) daNil)) (dVar 1))) (dSeq (dPut 0 (dC (.int 0)) (dBin oDivQ (dCB (one oInt) (daCons (dIxO 0 (dC (.int 0))) daNil)) (dVar 1))) (dRet (dVar 3)))) dNext) (dSeq (dSet 2 (dCB (one oInt) (daCons (dIxO 0 (dC (.int 1))) daNil))) (dSeq (dPut 0 (dC (.int 1)) (dBin oMod (dCB (one oInt) (daCons (dBin oAdd (dBin oAdd (dBin oMul (dVar 2) (dC (.int 40692))) (dBin oMul (dIxO 0 (dC (.int 2))) (dC (.int 52021)))) (dC (.int 31))) daNil)) (dC (.int 2147483399)))) (dRet (dBin oMod (dCB (one oInt) (daCons (dBin oDivQ (dIxO 0 (dC (.int 1))) (dC (.int 2048))) daNil)) (dVar 1)))))))
def m_L_pick (K : PySem.W.Frag) : DSt := (dSeq (dSet 2 (dCall (sp_L_dip K) (daLend 0 (daCons (dCB (one oLen) (daCons (dVar 1) daNil)) daNil)))) (dRet (dBin oIx (dVar 1) (dVar 2))))
def m_L_odd (K : PySem.W.Frag) : DSt := (dSeq (dSet 1 (dFr (dLst (daCons (dC .non) (daCons (dC (.bl true)) (daCons (dC (.bl false)) (daCons (dC (.int 0)) (daCons (dC (.int 1)) (daCons (dUn oNeg (dC (.int 1))) (daCons (dC (.int 2)) (daCons (dBin oPow (dC (.int 10)) (dC (.int 30))) (daCons (dC (.str [])) daNil)))))))))))) (dSeq (dSet 1 (dBin oAdd (dVar 1) (dFr (dLst (daCons (dC (.str [97])) (daCons (dC (.str [97, 98])) (daCons (dC (.str [97, 98, 99])) (daCons (dC (.str [97, 99, 98])) (daCons (dTup daNil) (daCons (dTup (daCons (dC (.str [97, 98, 99])) daNil)) (daCons (dTup (daCons (dC (.int 1)) (daCons (dC (.int 1)) daNil))) (daCons (dFr (dLst (daCons (dC (.str [97, 98, 99])) daNil))) (daCons (dFr (dLst daNil)) daNil))))))))))))) (dRet (dCall (sp_L_pick K) (daLend 0 (daCons (dBin oAdd (dVar 1) (dFr (dLst (daCons (dFr dDict0) (daCons (dFr (dDictC [([97, 98, 99], 1)])) (daCons (dTup (daCons (dC .non) (daCons (dC (.int 0)) daNil))) (daCons (dC (.str [97, 98, 99, 10, 99, 98, 97])) (daCons (dTup (daCons (dTup (daCons (dC (.str [97, 98, 99])) daNil)) daNil)) (daCons (dTup (daCons (dC (.str [97, 98, 99])) (daCons (dC (.str [97, 98, 99])) daNil))) (daCons (dFr (dLst (daCons (dFr (dLst daNil)) daNil))) (daCons (dTup (daCons (dTup daNil) daNil)) (daCons (dC (.str [67, 65, 66])) daNil)))))))))))) daNil))))))
noncomputable def m_L_by_word (K : PySem.W.Frag) : DSt := (dSeq (dSet 2 (dFr (dLst (daCons (dMkX (He.ga K "InvalidText") "given" (dVar 0)) (daCons (dMkX (He.ga K "InvalidOrder") "given" (dVar 1)) (daCons (dMkX (He.ga K "InvalidThree") "given" (dVar 0)) daNil)))))) (dSeq (dSet 2 (dBin oAdd (dVar 2) (dFr (dLst (daCons (dMkX (He.ga K "InvalidThings") "given" (dVar 1)) (daCons (dMkX (He.ga K "InvalidNumber") "given" (dVar 0)) (daCons (dMkX (He.ga K "InvalidWish") "given" (dVar 1)) daNil))))))) (dSeq (dSet 2 (dBin oAdd (dVar 2) (dFr (dLst (daCons (dMkX (He.ga K "InvalidCommand") "given" (dVar 0)) (daCons (dMkX (He.ga K "NotARoll") "given" (dVar 1)) (daCons (dMkX (He.ga K "NotACrowd") "given" (dVar 0)) daNil))))))) (dSeq (dSet 2 (dBin oAdd (dVar 2) (dFr (dLst (daCons (dMkX (He.ga K "InvalidOrders") "index" (dVar 1)) (daCons (dMkX (He.ga K "InvalidPeople") "index" (dVar 0)) (daCons (dMkX (He.ga K "InvalidRules") "index" (dVar 1)) daNil))))))) (dSeq (dSet 2 (dBin oAdd (dVar 2) (dFr (dLst (daCons (dMkX (He.ga K "UnknownThing") "given" (dVar 0)) (daCons (dMkX (He.ga K "UnknownOrder") "given" (dVar 1)) (daCons (dMkX (He.ga K "TooMany") "given" (dVar 0)) daNil))))))) (dSeq (dSet 2 (dBin oAdd (dVar 2) (dFr (dLst (daCons (dMkX (He.ga K "TooFew") "given" (dVar 1)) (daCons (dMkX (He.ga K "NotCalm") "given" (dVar 0)) (daCons (dMkX (He.ga K "Broken") "index" (dVar 1)) daNil))))))) (dRet (dVar 2))))))))
noncomputable def m_L_by_place (K : PySem.W.Frag) : DSt := (dSeq (dSet 2 (dFr (dLst (daCons (dMkX (He.ga K "InvalidText") "given" (dVar 0)) (daCons (dMkX (He.ga K "InvalidOrder") "given" (dVar 1)) (daCons (dMkX (He.ga K "InvalidThree") "given" (dVar 0)) (daCons (dMkX (He.ga K "InvalidThings") "given" (dVar 1)) daNil))))))) (dSeq (dSet 2 (dBin oAdd (dVar 2) (dFr (dLst (daCons (dMkX (He.ga K "InvalidNumber") "given" (dVar 0)) (daCons (dMkX (He.ga K "InvalidWish") "given" (dVar 1)) (daCons (dMkX (He.ga K "InvalidCommand") "given" (dVar 0)) (daCons (dMkX (He.ga K "NotARoll") "given" (dVar 1)) daNil)))))))) (dSeq (dSet 2 (dBin oAdd (dVar 2) (dFr (dLst (daCons (dMkX (He.ga K "NotACrowd") "given" (dVar 0)) (daCons (dMkX (He.ga K "InvalidOrders") "index" (dVar 1)) (daCons (dMkX (He.ga K "InvalidPeople") "index" (dVar 0)) (daCons (dMkX (He.ga K "InvalidRules") "index" (dVar 1)) daNil)))))))) (dSeq (dSet 2 (dBin oAdd (dVar 2) (dFr (dLst (daCons (dMkX (He.ga K "UnknownThing") "given" (dVar 0)) (daCons (dMkX (He.ga K "UnknownOrder") "given" (dVar 1)) (daCons (dMkX (He.ga K "TooMany") "given" (dVar 0)) (daCons (dMkX (He.ga K "TooFew") "given" (dVar 1)) daNil)))))))) (dSeq (dSet 2 (dBin oAdd (dVar 2) (dFr (dLst (daCons (dMkX (He.ga K "NotCalm") "given" (dVar 0)) (daCons (dMkX (He.ga K "Broken") "index" (dVar 1)) daNil)))))) (dRet (dVar 2)))))))
noncomputable def m_L_sorts (K : PySem.W.Frag) : DSt := (dSeq (dSet 1 (dFr (dLst (daCons (dIsX (xt K [true, false, false, false, false, false, false, false, false, false, false, false, false, false, false, false, false, false, false, false, false, false]) (dVar 0)) (daCons (dIsX (xt K [false, true, false, false, false, false, false, false, false, false, false, false, false, false, false, false, false, false, false, false, false, false]) (dVar 0)) (daCons (dIsX (xt K [false, false, true, false, false, false, false, false, false, false, false, false, false, false, false, false, false, false, false, false, false, false]) (dVar 0)) daNil)))))) (dSeq (dSet 1 (dBin oAdd (dVar 1) (dFr (dLst (daCons (dIsX (xt K [false, false, false, true, false, false, false, false, false, false, false, false, false, false, false, false, false, false, false, false, false, false]) (dVar 0)) (daCons (dIsX (xt K [false, false, false, false, true, false, false, false, false, false, false, false, false, false, false, false, false, false, false, false, false, false]) (dVar 0)) (daCons (dIsX (xt K [false, false, false, false, false, true, false, false, false, false, false, false, false, false, false, false, false, false, false, false, false, false]) (dVar 0)) daNil))))))) (dSeq (dSet 1 (dBin oAdd (dVar 1) (dFr (dLst (daCons (dIsX (xt K [false, false, false, false, false, false, true, false, false, false, false, false, false, false, false, false, false, false, false, false, false, false]) (dVar 0)) (daCons (dIsX (xt K [false, false, false, false, false, false, false, true, false, false, false, false, false, false, false, false, false, false, false, false, false, false]) (dVar 0)) (daCons (dIsX (xt K [false, false, false, false, false, false, false, false, true, false, false, false, false, false, false, false, false, false, false, false, false, false]) (dVar 0)) daNil))))))) (dSeq (dSet 1 (dBin oAdd (dVar 1) (dFr (dLst (daCons (dIsX (xt K [false, false, false, false, false, false, false, false, false, true, false, false, false, false, false, false, false, false, false, false, false, false]) (dVar 0)) (daCons (dIsX (xt K [false, false, false, false, false, false, false, false, false, false, true, false, false, false, false, false, false, false, false, false, false, false]) (dVar 0)) (daCons (dIsX (xt K [false, false, false, false, false, false, false, false, false, false, false, true, false, false, false, false, false, false, false, false, false, false]) (dVar 0)) daNil))))))) (dSeq (dSet 1 (dBin oAdd (dVar 1) (dFr (dLst (daCons (dIsX (xt K [false, false, false, false, false, false, false, false, false, false, false, false, true, false, false, false, false, false, false, false, false, false]) (dVar 0)) (daCons (dIsX (xt K [false, false, false, false, false, false, false, false, false, false, false, false, false, true, false, false, false, false, false, false, false, false]) (dVar 0)) (daCons (dIsX (xt K [false, false, false, false, false, false, false, false, false, false, false, false, false, false, true, false, false, false, false, false, false, false]) (dVar 0)) daNil))))))) (dSeq (dSet 1 (dBin oAdd (dVar 1) (dFr (dLst (daCons (dIsX (xt K [false, false, false, false, false, false, false, false, false, false, false, false, false, false, false, true, false, false, false, false, false, false]) (dVar 0)) (daCons (dIsX (xt K [false, false, false, false, false, false, false, false, false, false, false, false, false, false, false, false, true, false, false, false, false, false]) (dVar 0)) (daCons (dIsX (xt K [false, false, false, false, false, false, false, false, false, false, false, false, false, false, false, false, false, true, false, false, false, false]) (dVar 0)) daNil))))))) (dSeq (dSet 1 (dBin oAdd (dVar 1) (dFr (dLst (daCons (dIsX (xt K [false, false, false, false, false, false, false, false, false, false, false, false, false, false, false, false, false, false, true, false, false, false]) (dVar 0)) daNil))))) (dRet (dVar 1)))))))))
noncomputable def m_L_kept (K : PySem.W.Frag) : DSt := (dRet (dIf (dOr (dBl (dChain oLt oLt (dC (.int 8)) (dVar 1) (dC (.int 12)))) (dBl (dBin oEq (dVar 1) (dC (.int 17))))) (dXfX [He.ga K "InvalidOrders", He.ga K "InvalidPeople", He.ga K "InvalidRules", He.ga K "Broken"] "index" (dVar 0)) (dXfX [He.ga K "InvalidText", He.ga K "InvalidOrder", He.ga K "InvalidThree", He.ga K "InvalidThings", He.ga K "InvalidNumber", He.ga K "InvalidWish", He.ga K "InvalidCommand", He.ga K "NotARoll", He.ga K "NotACrowd", He.ga K "UnknownThing", He.ga K "UnknownOrder", He.ga K "TooMany", He.ga K "TooFew", He.ga K "NotCalm"] "given" (dVar 0))))
noncomputable def m_L_right (K : PySem.W.Frag) : DSt := (dSeq (dPar 2 3 (dCall (sp_L_odd K) (daLend 0 daNil)) (dCall (sp_L_odd K) (daLend 0 daNil))) (dSeq (dFor (diAny (dFr (dLst (daCons (dCall (sp_L_by_place K) (daCons (dVar 2) (daCons (dVar 3) daNil))) (daCons (dCall (sp_L_by_word K) (daCons (dVar 2) (daCons (dVar 3) daNil))) daNil))))) (gN 1) (dSeq (dSet 1 (dBin oAdd (dVar 1) (dFr (dLst (daCons (dMkX0 (He.ga K "NothingToUndo")) daNil))))) (dFor (diRng1 (dC (.int 19))) (gN 4) (dSeq (dIfS (dBl (dBin oNe (dCall (sp_L_sorts K) (daCons (dBin oIx (dVar 1) (dVar 4)) daNil)) (dFr (dComp [7] (diRng1 (dC (.int 19))) (gN 7) dYes (dBin oEq (dVar 7) (dVar 4)))))) (dRet (dC (.bl false))) dNext) (dSeq (dSet 5 (dIf (dBl (dBin oLt (dVar 4) (dC (.int 12)))) (dC (.int 0)) (dIf (dBl (dBin oLt (dVar 4) (dC (.int 14)))) (dC (.int 1)) (dC (.int 2))))) (dSeq (dIfS (dBl (dBin oNe (dCall (sp_L_bases K) (daCons (dBin oIx (dVar 1) (dVar 4)) daNil)) (dFr (dComp [7] (diRng1 (dC (.int 3))) (gN 7) dYes (dBin oEq (dVar 7) (dVar 5)))))) (dRet (dC (.bl false))) dNext) (dSeq (dSet 6 (dIf (dBl (dBin oEq (dBin oMod (dCB (one oInt) (daCons (dVar 4) daNil)) (dC (.int 2))) (dC (.int 0)))) (dVar 2) (dVar 3))) (dIfS (dAnd (dBl (dBin oLt (dVar 4) (dC (.int 18)))) (dBl (dBin oNe (dCB (one oReprX) (daCons (dCall (sp_L_kept K) (daCons (dBin oIx (dVar 1) (dVar 4)) (daCons (dVar 4) daNil))) daNil)) (dCB (one oReprX) (daCons (dVar 6) daNil))))) (dRet (dC (.bl false))) dNext)))))))) (dRet (dC (.bl true)))))
def m_L_jar (K : PySem.W.Frag) : DSt := (dSeq (dSet 2 (dBin oAdd (dBin oMul (dBin oMul (dC (.int 7369)) (dBin oAdd (dVar 1) (dC (.int 5)))) (dBin oAdd (dVar 1) (dC (.int 2)))) (dBin oMul (dC (.int 29)) (dCB (one oLen) (daCons (dVar 0) daNil))))) (dSeq (dFor (diAny (dSl pNo (pSo (dC (.int 4))) (dVar 0))) (gN 3) (dSet 2 (dBin oMod (dCB (one oInt) (daCons (dBin oAdd (dBin oMul (dVar 2) (dC (.int 733))) (dVar 3)) daNil)) (dC (.int 1000000009))))) (dSeq (dSet 4 (dIf (dBl (dBin oLt (dVar 1) (dCB (one oLen) (daCons (dVar 0) daNil)))) (dBin oIx (dVar 0) (dVar 1)) (dC (.int 0)))) (dSeq (dSet 5 (dIf (dOr (dBl (dBin oLt (dVar 4) (dC (.int 0)))) (dBl (dBin oGe (dVar 4) (dBin oPow (dC (.int 10)) (dC (.int 18)))))) (dCB (one oAbs) (daCons (dVar 4) daNil)) (dC (.int 0)))) (dRetO (dLst (daCons (dVar 5) (daCons (dBin oMod (dCB (one oInt) (daCons (dBin oAdd (dBin oAdd (dBin oMul (dVar 2) (dC (.int 8117))) (dBin oMul (dVar 4) (dC (.int 64013)))) (dBin oMul (dC (.int 105019)) (dBin oAdd (dVar 1) (dC (.int 1))))) daNil)) (dC (.int 2147483563))) (daCons (dC (.int 0)) daNil)))))))))
noncomputable def m_law (K : PySem.W.Frag) : DSt := (dSeq (dIfS (dBl (dBin oNe (dFr (dLst (daCons (dC (.int 3)) (daCons (dC (.int 6)) (daCons (dC (.int 48)) (daCons (dC (.int 12)) (daCons (dC (.int 4)) daNil))))))) (dFr (dLst (daCons (dC (.int 3)) (daCons (dC (.int 6)) (daCons (dC (.int 48)) (daCons (dC (.int 12)) (daCons (dC (.int 4)) daNil))))))))) (dRet (dC (.bl false))) dNext) (dSeq (dSet 1 (dFr (dLst (daCons (dMkX0 (He.ga K "WrongValue")) (daCons (dMkX0 (He.ga K "WrongName")) (daCons (dMkX0 (He.ga K "NotPossible")) daNil)))))) (dSeq (dIfS (dBl (dBin oNe (dFr (dComp [2] (diAny (dVar 1)) (gN 2) dYes (dCall (sp_L_bases K) (daCons (dVar 2) daNil)))) (dFr (dLst (daCons (dFr (dLst (daCons (dC (.bl true)) (daCons (dC (.bl false)) (daCons (dC (.bl false)) daNil))))) (daCons (dFr (dLst (daCons (dC (.bl false)) (daCons (dC (.bl true)) (daCons (dC (.bl false)) daNil))))) (daCons (dFr (dLst (daCons (dC (.bl false)) (daCons (dC (.bl false)) (daCons (dC (.bl true)) daNil))))) daNil))))))) (dRet (dC (.bl false))) dNext) (dRet (dCB (one oAll) (daCons (dFr (dComp [3] (diRng1 (dCB (two (oInts maxI)) (daCons (dC (.int 2)) (daCons (dCB (two (oInts minI)) (daCons (dCB (one oLen) (daCons (dVar 0) daNil)) (daCons (dC (.int 4)) daNil))) daNil)))) (gN 3) dYes (dCallT (sp_L_right K) (dCallO (sp_L_jar K) (daCons (dVar 0) (daCons (dVar 3) daNil)))))) daNil))))))
/-! ### reading on -/
theorem at0 {α : Type} (x : α) (xs : List α) : L2.atI (x :: xs) 0 = some x := by
  unfold L2.atI ixN
  rw [if_pos (by decide), if_pos (by simp only [List.length_cons]; omega)]
  rfl
theorem at1 {α : Type} (x y : α) (xs : List α) : L2.atI (x :: y :: xs) 1 = some y := by
  unfold L2.atI ixN
  rw [if_pos (by decide), if_pos (by simp only [List.length_cons]; omega)]
  rfl
theorem at2 {α : Type} (x y z : α) (xs : List α) : L2.atI (x :: y :: z :: xs) 2 = some z := by
  unfold L2.atI ixN
  rw [if_pos (by decide), if_pos (by simp only [List.length_cons]; omega)]
  rfl
theorem atN {α : Type} (xs : List α) (n : Nat) : L2.atI xs (n : Int) = xs[n]? := by
  unfold L2.atI ixN
  have h0 : (0 : Int) ≤ (n : Int) := by omega
  rw [if_pos h0]
  by_cases h : n < xs.length
  · rw [if_pos (by omega)]
    simp
  · rw [if_neg (by omega)]
    simp
    omega
theorem ix30 : ixN 3 0 = some 0 := rfl
theorem ix31 : ixN 3 1 = some 1 := rfl
theorem ix32 : ixN 3 2 = some 2 := rfl
theorem comp_pure {g : DG} {t : DB} {e : DT} {vs : List Nat} {ρ : En} {R : List Dt → En → Prop} (p : Dt → Bool) (f : Dt → Dt) : ∀ (ds acc : List Dt),
    (∀ d ∈ ds, ∀ (k1 : Dt → En → Prop) (k2 : En → Prop), (if p d = true then k1 (f d) ρ else k2 ρ) → g d ρ (fun ρ1 => t ρ1 (fun k ρ2 => if k = true then e ρ2 (fun x ρ3 => k1 x (wipeD ρ3 vs)) (fun _ _ => False) else k2 (wipeD ρ2 vs)) (fun _ _ => False))) →
    R (acc ++ (ds.filter p).map f) ρ → compL g t e vs ds acc ρ R
  | [], acc, _, h => by
    have h' : R (acc ++ []) ρ := h
    rw [List.append_nil] at h'
    exact h'
  | d :: ds, acc, hs, h => by
    refine hs d List.mem_cons_self (fun x ρ' => compL g t e vs ds (acc ++ [x]) ρ' R) (fun ρ' => compL g t e vs ds acc ρ' R) ?_
    have hs' := fun d' (m : d' ∈ ds) => hs d' (List.mem_cons_of_mem _ m)
    split
    · rename_i q
      refine comp_pure p f ds _ hs' ?_
      rw [List.filter_cons_of_pos q] at h
      simpa using h
    · rename_i q
      refine comp_pure p f ds _ hs' ?_
      rw [List.filter_cons_of_neg q] at h
      exact h
theorem loop_ind {g : DG} {b : DSt} {D : DEn} (J : List Dt → En → Prop) (nil : ∀ ρ, J [] ρ → D.nx ρ) (cons : ∀ d ds ρ (k : En → Prop), J (d :: ds) ρ → (∀ ρ', J ds ρ' → k ρ') → g d ρ (fun ρ1 => b { D with nx := k, ct := k, bk := D.nx } ρ1)) :
    ∀ (ds : List Dt) (ρ : En), J ds ρ → dLoop g b ds D ρ
  | [], ρ, h => nil ρ h
  | d :: ds, ρ, h => cons d ds ρ (dLoop g b ds D) h fun ρ' h' => loop_ind J nil cons ds ρ' h'
theorem cut_map {α β : Type} (f : α → β) (l : List α) (lo hi : Option Int) : cutD (l.map f) lo hi = (cutD l lo hi).map f := by
  unfold cutD
  rw [List.length_map, List.map_take, List.map_drop]
theorem seq_step {a b : DSt} {D : DEn} {ρ : En} (h : ∀ k : En → Prop, (∀ ρ', b D ρ' → k ρ') → a { D with nx := k } ρ) : dSeq a b D ρ := h _ fun _ h => h
theorem shI {n : Nat} {i : Int} : Sh n (.int i) = True := by cases n <;> rfl
theorem shS {n : Nat} {i : List Nat} : Sh n (.str i) = True := by cases n <;> rfl
theorem shB {n : Nat} {i : Bool} : Sh n (.bl i) = True := by cases n <;> rfl
theorem shN {n : Nat} : Sh n .non = True := by cases n <;> rfl
theorem eqI {i j : Int} : eqD (.int i) (.int j) = (i == j) := by simp [eqD]
theorem eqS {i j : List Nat} : eqD (.str i) (.str j) = (i == j) := by simp [eqD]
theorem if_step {t : DB} {a b : DSt} {D : DEn} {ρ : En} (h : ∀ k : Bool → En → Prop, (∀ ρ', a D ρ' → k true ρ') → (∀ ρ', b D ρ' → k false ρ') → t ρ k D.ex) : dIfS t a b D ρ :=
  h (fun k ρ1 => if k = true then a D ρ1 else b D ρ1) (fun ρ' h => by rw [if_pos rfl]; exact h) (fun ρ' h => by rw [if_neg (by decide)]; exact h)
theorem ifv_step {t : DB} {a b : DT} {R : Dt → En → Prop} {U : XP} {ρ : En} (h : ∀ k : Bool → En → Prop, (∀ ρ', a ρ' R U → k true ρ') → (∀ ρ', b ρ' R U → k false ρ') → t ρ k U) : dIf t a b ρ R U :=
  h (fun k ρ1 => if k = true then a ρ1 R U else b ρ1 R U) (fun ρ' h => by rw [if_pos rfl]; exact h) (fun ρ' h => by rw [if_neg (by decide)]; exact h)
/-! ### loops and comprehensions over lists of a kind -/
theorem loop_of {α : Type} {g : DG} {b : DSt} {D : DEn} (enc : α → Dt) (L : List α) (J : List α → En → Prop) {ρ : En} (h0 : J [] ρ)
    (step : ∀ (A : List α) (x : α) (B : List α) (ρ : En) (k : En → Prop), A ++ x :: B = L → J A ρ → (∀ ρ', J (A ++ [x]) ρ' → k ρ') → g (enc x) ρ (fun ρ1 => b { D with nx := k, ct := k, bk := D.nx } ρ1))
    (fin : ∀ ρ, J L ρ → D.nx ρ) : dLoop g b (L.map enc) D ρ := by
  refine loop_ind (fun ds ρ => ∃ A B, A ++ B = L ∧ ds = B.map enc ∧ J A ρ) ?_ ?_ _ _ ⟨[], L, rfl, rfl, h0⟩
  · rintro ρ ⟨A, B, e1, e2, hJ⟩
    have : B = [] := List.map_eq_nil_iff.mp e2.symm
    subst this
    rw [List.append_nil] at e1
    subst e1
    exact fin ρ hJ
  · rintro d ds ρ k ⟨A, B, e1, e2, hJ⟩ hk
    cases B with
    | nil => cases e2
    | cons x B =>
      obtain ⟨rfl, rfl⟩ := List.cons.inj e2
      exact step A x B ρ k e1 hJ fun ρ' h' => hk ρ' ⟨A ++ [x], B, by simpa using e1, rfl, h'⟩
theorem loop_range {g : DG} {b : DSt} {D : DEn} (lo : Int) (n : Nat) (J : Nat → En → Prop) {ρ : En} (h0 : J 0 ρ)
    (step : ∀ (i : Nat) (ρ : En) (k : En → Prop), i < n → J i ρ → (∀ ρ', J (i + 1) ρ' → k ρ') → g (.int (lo + (i : Nat))) ρ (fun ρ1 => b { D with nx := k, ct := k, bk := D.nx } ρ1))
    (fin : ∀ ρ, J n ρ → D.nx ρ) : dLoop g b (rangeD lo n) D ρ := by
  have eI : ∀ (A : List Nat) (x : Nat) (B : List Nat), A ++ x :: B = List.range n → x = A.length := fun A x B e => by
    have h1 : (List.range n)[A.length]? = some x := by rw [← e]; simp
    have h2 : A.length < n := by
      have := congrArg List.length e
      rw [List.length_append, List.length_cons, List.length_range] at this
      omega
    rw [List.getElem?_range h2] at h1
    exact (Option.some.inj h1).symm
  refine loop_of (fun i : Nat => Dt.int (lo + (i : Nat))) (List.range n) (fun A ρ => J A.length ρ) h0 (fun A x B ρ k e hJ hk => ?_) fun ρ h => fin ρ (by rw [List.length_range] at h; exact h)
  obtain rfl := eI A x B e
  have lt : A.length < n := by
    have := congrArg List.length e
    rw [List.length_append, List.length_cons, List.length_range] at this
    omega
  exact step _ ρ k lt hJ fun ρ' h => hk ρ' (by rw [List.length_append, List.length_singleton]; exact h)
/-! ### sorting by a key -/
/-! ### slots by their places -/
theorem log_w {w : Int} (h0 : 0 < w) (h1 : w ≤ 10 ^ 30) : w.natAbs.log2 < 8000 := by
  have : w.natAbs < 2 ^ 100 := by
    have : (10 : Int) ^ 30 < 2 ^ 100 := by decide
    omega
  exact Nat.lt_trans ((Nat.log2_lt (by omega)).mpr this) (by decide)
theorem math_L_dip (K : PySem.W.Frag) : ∀ args Q U, sp_L_dip K args Q U → m_L_dip K (ends args Q U) (entry (List.length N_L_dip) args) := by
  rintro args Q U ⟨⟨⟨b, p, a, x, c⟩, w⟩, rfl, ⟨h0, h1⟩, hQ⟩
  have h0 : 0 < w := h0
  have h1 : w ≤ 10 ^ 30 := h1
  have fin : ∀ r j, 0 ≤ r → r < w → Q (.d (.int r)) [jr j] := fun r j r0 r1 => hQ (r, j) ⟨r0, r1⟩
  have hw : ∀ i, CDivQ i w := fun i => divq h0 (log_w h0 h1)
  have h2 : ∀ i, CDivQ i 2048 := fun i => divq (by decide) (by decide)
  simp only [m_L_dip, oDivQ, entry, lend, jr, List.map_cons, List.map_nil, List.length_cons, List.length_nil, List.replicate_succ, List.replicate_zero, List.cons_append, List.nil_append, List.append_nil, Nat.reduceAdd, Nat.reduceSub, Nat.reduceMul, Nat.zero_add, dSeq, dNext, dSet, dSetO, dPut, dPar, dPar3, dParOD, dParOO, dParDO, dIfS, dRet, dRetO, dRetN, dDrop, dBin, dUn, dC, dVar, dCB, dCBO, daCons, daNil, daLend, dats, one, two, oneO, dIxO, dOwn1, dOwn2, fIx, fLen, dBl, dTru, dNot, dAnd, dOr, dIf, dAndV, dOrV, dNotV, dChain, dFr, dTup, dLst, dApp, dPopAt, dFor, diRng1, diRng2, diAny, gN, items, itemsD, oAdd, oSub, oMul, oDiv, oMod, oPow, oNeg, oCmp, oLt, oLe, oGt, oGe, oEq, oNe, oIn, oIsN, oNotN, isN, oIx, oLen, lenD, oInt, oAbs, oInts, oBool, oTuple, oAll, oAny, oSum, oSumA, oSl, dSl, pNo, pSo, oSorted, oList, oJoin, dMt1, dCall, dCallO, dCallT, argsOf, lent, opt, truth, MO.toD, Rv.toD, putOuts, putMO, List.getElem?_cons_zero, List.getElem?_cons_succ, List.set_cons_zero, List.set_cons_succ, Option.map_some, dIsi, dNo, at0, at1, at2, ix30, ix31, ix32, ends, outW, dComp, dYes, wipeD, back, dMake, dMeth, dLenSetS, oInD, dDict0, dDPut, dGet, dPar3DDO, dProp, dFld, dFldO, dFldSet, dSortSet, daKw, decide_eq_true_eq, shI, shS, shB, shN, eqI, eqS, true_and, List.contains_nil, beq_iff_eq, ↓reduceIte, Bool.false_eq_true]
  split
  · exact ⟨h0, hw _, fin _ (_, _, _) (Int.emod_nonneg _ (by omega)) (Int.emod_lt_of_pos _ h0)⟩
  · refine ⟨.inr (by decide), .inr (by decide), by decide, h2 _, h0, fin _ (_, _, _) (Int.emod_nonneg _ (by omega)) (Int.emod_lt_of_pos _ h0)⟩
theorem use_dipW {K : PySem.W.Frag} {b : Bool} {p : Addr} {a x c w : Int} {Q : Rv → List MO → Prop} {U : Xn → List MO → Prop} (h0 : 0 < w) (h1 : w ≤ 10 ^ 30) (h : ∀ r (j : Jr), 0 ≤ r → r < w → Q (.d (.int r)) [jr j]) :
    sp_L_dip K [.own b p (.lst [.int a, .int x, .int c]), .dat (.int w)] Q U := ⟨((b, p, a, x, c), w), rfl, ⟨h0, h1⟩, fun y hy => h y.1 y.2 hy.1 hy.2⟩
/-- what is wanted of a draw, by its user -/
theorem use_dip {K : PySem.W.Frag} {b : Bool} {p : Addr} {a x c w : Int} {Q : Rv → List MO → Prop} {U : Xn → List MO → Prop} (h0 : 0 < w) (h1 : w ≤ 1000) (h : ∀ r (j : Jr), 0 ≤ r → r < w → Q (.d (.int r)) [jr j]) :
    sp_L_dip K [.own b p (.lst [.int a, .int x, .int c]), .dat (.int w)] Q U := use_dipW h0 (Int.le_trans h1 (by decide)) h
theorem math_L_jar (K : PySem.W.Frag) : ∀ args Q U, sp_L_jar K args Q U → m_L_jar K (ends args Q U) (entry (List.length N_L_jar) args) := by
  rintro args Q U ⟨⟨xs, k⟩, rfl, ⟨h0, h1, h2⟩, hQ⟩
  have h0 : xs.length ≤ 63 := h0
  have h1 : 0 ≤ k := h1
  have h2 : k ≤ 100 := h2
  have fin : ∀ j, Q (.o (jr j)) [] := fun j => hQ j trivial
  simp only [m_L_jar, entry, lend, jr, List.map_cons, List.map_nil, List.length_cons, List.length_nil, List.replicate_succ, List.replicate_zero, List.cons_append, List.nil_append, List.append_nil, Nat.reduceAdd, Nat.reduceSub, Nat.reduceMul, Nat.zero_add, dSeq, dNext, dSet, dSetO, dPut, dPar, dPar3, dParOD, dParOO, dParDO, dIfS, dRet, dRetO, dRetN, dDrop, dBin, dUn, dC, dVar, dCB, dCBO, daCons, daNil, daLend, dats, one, two, oneO, dIxO, dOwn1, dOwn2, fIx, fLen, dBl, dTru, dNot, dAnd, dOr, dIf, dAndV, dOrV, dNotV, dChain, dFr, dTup, dLst, dApp, dPopAt, dFor, diRng1, diRng2, diAny, gN, items, itemsD, oAdd, oSub, oMul, oDiv, oMod, oPow, oNeg, oCmp, oLt, oLe, oGt, oGe, oEq, oNe, oIn, oIsN, oNotN, isN, oIx, oLen, lenD, oInt, oAbs, oInts, oBool, oTuple, oAll, oAny, oSum, oSumA, oSl, dSl, pNo, pSo, oSorted, oList, oJoin, dMt1, dCall, dCallO, dCallT, argsOf, lent, opt, truth, MO.toD, Rv.toD, putOuts, putMO, List.getElem?_cons_zero, List.getElem?_cons_succ, List.set_cons_zero, List.set_cons_succ, Option.map_some, dIsi, dNo, at0, at1, at2, ix30, ix31, ix32, ends, outW, dComp, dYes, wipeD, back, dMake, dMeth, dLenSetS, oInD, dDict0, dDPut, dGet, dPar3DDO, dProp, dFld, dFldO, dFldSet, dSortSet, daKw, decide_eq_true_eq, shI, shS, shB, shN, eqI, eqS, true_and, List.contains_nil, beq_iff_eq, ↓reduceIte, Bool.false_eq_true]
  refine ⟨.inl (by decide), .inr (by omega), .inl (by decide), ?_⟩
  rw [cut_map]
  refine loop_ind (fun ds ρ => ∃ (ys : List Int) (c : Int) (s : Sl), ds = ys.map Dt.int ∧ ρ = [.dat (.scr (xs.map .int)), .dat (.int k), .dat (.int c), s, .no, .no]) ?_ ?_ _ _ ⟨_, _, _, rfl, rfl⟩
  · rintro ρ ⟨ys, c, s, e, rfl⟩
    have m1 : CMul c 8117 := .inr (by decide)
    have m2 : ∀ z, CMul z 64013 := fun z => .inr (by decide)
    have m3 : ∀ z, CMul 105019 z := fun z => .inl (by decide)
    have pw : CPow 10 18 := by unfold CPow; decide
    have l3 : 3 ≤ sizeLine := kilo_line (by decide)
    simp only [entry, lend, jr, List.map_cons, List.map_nil, List.length_cons, List.length_nil, List.replicate_succ, List.replicate_zero, List.cons_append, List.nil_append, List.append_nil, Nat.reduceAdd, Nat.reduceSub, Nat.reduceMul, Nat.zero_add, dSeq, dNext, dSet, dSetO, dPut, dPar, dPar3, dParOD, dParOO, dParDO, dIfS, dRet, dRetO, dRetN, dDrop, dBin, dUn, dC, dVar, dCB, dCBO, daCons, daNil, daLend, dats, one, two, oneO, dIxO, dOwn1, dOwn2, fIx, fLen, dBl, dTru, dNot, dAnd, dOr, dIf, dAndV, dOrV, dNotV, dChain, dFr, dTup, dLst, dApp, dPopAt, dFor, diRng1, diRng2, diAny, gN, items, itemsD, oAdd, oSub, oMul, oDiv, oMod, oPow, oNeg, oCmp, oLt, oLe, oGt, oGe, oEq, oNe, oIn, oIsN, oNotN, isN, oIx, oLen, lenD, oInt, oAbs, oInts, oBool, oTuple, oAll, oAny, oSum, oSumA, oSl, dSl, pNo, pSo, oSorted, oList, oJoin, dMt1, dCall, dCallO, dCallT, argsOf, lent, opt, truth, MO.toD, Rv.toD, putOuts, putMO, List.getElem?_cons_zero, List.getElem?_cons_succ, List.set_cons_zero, List.set_cons_succ, Option.map_some, dIsi, dNo, at0, at1, at2, ix30, ix31, ix32, ends, outW, dComp, dYes, wipeD, back, dMake, dMeth, dLenSetS, oInD, dDict0, dDPut, dGet, dPar3DDO, dProp, dFld, dFldO, dFldSet, dSortSet, daKw, decide_eq_true_eq, shI, shS, shB, shN, eqI, eqS, true_and, List.contains_nil, beq_iff_eq, ↓reduceIte, Bool.false_eq_true]
    split
    · rename_i hk
      rw [List.length_map] at hk
      have hlt : k.toNat < xs.length := by omega
      have ek : k = ((k.toNat : Nat) : Int) := by omega
      rw [ek, atN, List.getElem?_map, List.getElem?_eq_getElem hlt]
      simp only [entry, lend, jr, List.map_cons, List.map_nil, List.length_cons, List.length_nil, List.replicate_succ, List.replicate_zero, List.cons_append, List.nil_append, List.append_nil, Nat.reduceAdd, Nat.reduceSub, Nat.reduceMul, Nat.zero_add, dSeq, dNext, dSet, dSetO, dPut, dPar, dPar3, dParOD, dParOO, dParDO, dIfS, dRet, dRetO, dRetN, dDrop, dBin, dUn, dC, dVar, dCB, dCBO, daCons, daNil, daLend, dats, one, two, oneO, dIxO, dOwn1, dOwn2, fIx, fLen, dBl, dTru, dNot, dAnd, dOr, dIf, dAndV, dOrV, dNotV, dChain, dFr, dTup, dLst, dApp, dPopAt, dFor, diRng1, diRng2, diAny, gN, items, itemsD, oAdd, oSub, oMul, oDiv, oMod, oPow, oNeg, oCmp, oLt, oLe, oGt, oGe, oEq, oNe, oIn, oIsN, oNotN, isN, oIx, oLen, lenD, oInt, oAbs, oInts, oBool, oTuple, oAll, oAny, oSum, oSumA, oSl, dSl, pNo, pSo, oSorted, oList, oJoin, dMt1, dCall, dCallO, dCallT, argsOf, lent, opt, truth, MO.toD, Rv.toD, putOuts, putMO, List.getElem?_cons_zero, List.getElem?_cons_succ, List.set_cons_zero, List.set_cons_succ, Option.map_some, dIsi, dNo, at0, at1, at2, ix30, ix31, ix32, ends, outW, dComp, dYes, wipeD, back, dMake, dMeth, dLenSetS, oInD, dDict0, dDPut, dGet, dPar3DDO, dProp, dFld, dFldO, dFldSet, dSortSet, daKw, decide_eq_true_eq, shI, shS, shB, shN, eqI, eqS, true_and, List.contains_nil, beq_iff_eq, ↓reduceIte, Bool.false_eq_true]
      repeat' first | exact ⟨m1, m2 _, m3 _, by decide, l3, fin (_, _, _)⟩ | (refine ⟨pw, ?_⟩) | split
    · repeat' first | exact ⟨m1, m2 _, m3 _, by decide, l3, fin (_, _, _)⟩ | (refine ⟨pw, ?_⟩) | split
  · rintro d ds ρ k' ⟨ys, c, s, e, rfl⟩ hk
    cases ys with
    | nil => cases e
    | cons y ys =>
      obtain ⟨rfl, rfl⟩ := List.cons.inj e
      simp only [entry, lend, jr, List.map_cons, List.map_nil, List.length_cons, List.length_nil, List.replicate_succ, List.replicate_zero, List.cons_append, List.nil_append, List.append_nil, Nat.reduceAdd, Nat.reduceSub, Nat.reduceMul, Nat.zero_add, dSeq, dNext, dSet, dSetO, dPut, dPar, dPar3, dParOD, dParOO, dParDO, dIfS, dRet, dRetO, dRetN, dDrop, dBin, dUn, dC, dVar, dCB, dCBO, daCons, daNil, daLend, dats, one, two, oneO, dIxO, dOwn1, dOwn2, fIx, fLen, dBl, dTru, dNot, dAnd, dOr, dIf, dAndV, dOrV, dNotV, dChain, dFr, dTup, dLst, dApp, dPopAt, dFor, diRng1, diRng2, diAny, gN, items, itemsD, oAdd, oSub, oMul, oDiv, oMod, oPow, oNeg, oCmp, oLt, oLe, oGt, oGe, oEq, oNe, oIn, oIsN, oNotN, isN, oIx, oLen, lenD, oInt, oAbs, oInts, oBool, oTuple, oAll, oAny, oSum, oSumA, oSl, dSl, pNo, pSo, oSorted, oList, oJoin, dMt1, dCall, dCallO, dCallT, argsOf, lent, opt, truth, MO.toD, Rv.toD, putOuts, putMO, List.getElem?_cons_zero, List.getElem?_cons_succ, List.set_cons_zero, List.set_cons_succ, Option.map_some, dIsi, dNo, at0, at1, at2, ix30, ix31, ix32, ends, outW, dComp, dYes, wipeD, back, dMake, dMeth, dLenSetS, oInD, dDict0, dDPut, dGet, dPar3DDO, dProp, dFld, dFldO, dFldSet, dSortSet, daKw, decide_eq_true_eq, shI, shS, shB, shN, eqI, eqS, true_and, List.contains_nil, beq_iff_eq, ↓reduceIte, Bool.false_eq_true]
      exact ⟨.inr (by decide), by decide, hk _ ⟨ys, _, _, rfl, rfl⟩⟩
/-! sorted signs -/
theorem use_F {α : Type} {A : α → List Sl} {C : α → Prop} {R : α → Dt} {Q : Rv → List MO → Prop} {U : Xn → List MO → Prop} (x : α) (c : C x) (h : Q (.d (R x)) []) : SpF A C R (A x) Q U := ⟨x, rfl, c, fun _ _ => h⟩
/-! ### pick from a text, a list, a tuple -/
theorem math_L_pick (K : PySem.W.Frag) : ∀ args Q U, sp_L_pick K args Q U → m_L_pick K (ends args Q U) (entry (List.length N_L_pick) args) := by
  rintro args Q U ⟨⟨⟨b, p, j⟩, x, ds⟩, rfl, ⟨hs, ne, len⟩, hQ⟩
  have ne : ds ≠ [] := ne
  have len : ds.length ≤ 1000 := len
  have hs : srcP x = some ds := hs
  have l0 : 0 < ds.length := List.length_pos_iff.mpr ne
  have fin : ∀ d (j : Jr), d ∈ ds → Q (.d d) [jr j] := fun d j a => hQ (d, j) a
  have e : ∀ {r : Int}, 0 ≤ r → r < (ds.length : Int) → ∃ d, L2.atI ds r = some d ∧ d ∈ ds := fun {r} r0 r1 => by
    have hr : r.toNat < ds.length := by omega
    have := atN ds r.toNat
    rw [show ((r.toNat : Nat) : Int) = r by omega, List.getElem?_eq_getElem hr] at this
    exact ⟨_, this, List.getElem_mem hr⟩
  unfold m_L_pick
  refine seq_step fun k1 hk1 => ?_
  cases x with
  | str l =>
    obtain rfl := Option.some.inj hs
    have ln : (chars l).length = l.length := List.length_map _
    simp only [entry, lend, jr, List.map_cons, List.map_nil, List.length_cons, List.length_nil, List.replicate_succ, List.replicate_zero, List.cons_append, List.nil_append, List.append_nil, Nat.reduceAdd, Nat.reduceSub, Nat.reduceMul, Nat.zero_add, dNext, dSet, dSetO, dPut, dPar, dPar3, dParOD, dParOO, dParDO, dRet, dRetO, dRetN, dDrop, dBin, dUn, dC, dVar, dCB, dCBO, daCons, daNil, daLend, dats, one, two, oneO, dIxO, dOwn1, dOwn2, fIx, fLen, dBl, dTru, dNot, dAnd, dOr, dAndV, dOrV, dNotV, dChain, dFr, dTup, dLst, dApp, dPopAt, dFor, diRng1, diRng2, diAny, gN, items, itemsD, oAdd, oSub, oMul, oDiv, oMod, oPow, oNeg, oCmp, oLt, oLe, oGt, oGe, oEq, oNe, oIn, oIsN, oNotN, isN, oIx, oLen, lenD, oInt, oAbs, oInts, oBool, oTuple, oAll, oAny, oSum, oSumA, oSl, dSl, pNo, pSo, oSorted, oList, oJoin, dMt1, dCall, dCallO, dCallT, argsOf, lent, opt, truth, MO.toD, Rv.toD, putOuts, putMO, List.getElem?_cons_zero, List.getElem?_cons_succ, List.set_cons_zero, List.set_cons_succ, Option.map_some, dIsi, dNo, at0, at1, at2, ix30, ix31, ix32, dComp, dYes, wipeD, back, dMake, dMeth, dLenSetS, oInD, dDict0, dDPut, dGet, dPar3DDO, dProp, dFld, dFldO, dFldSet, dSortSet, daKw, decide_eq_true_eq, shI, shS, shB, shN, eqI, eqS, true_and, List.contains_nil, beq_iff_eq, ↓reduceIte, Bool.false_eq_true]
    refine use_dip (by omega) (by omega) fun r j' r0 r1 => ?_
    have hr : r.toNat < l.length := by omega
    have h1 : L2.atI l r = some l[r.toNat] := by
      have := atN l r.toNat
      rw [show ((r.toNat : Nat) : Int) = r by omega, List.getElem?_eq_getElem hr] at this
      exact this
    simp only [entry, lend, jr, List.map_cons, List.map_nil, List.length_cons, List.length_nil, List.replicate_succ, List.replicate_zero, List.cons_append, List.nil_append, List.append_nil, Nat.reduceAdd, Nat.reduceSub, Nat.reduceMul, Nat.zero_add, dNext, dSet, dSetO, dPut, dPar, dPar3, dParOD, dParOO, dParDO, dRet, dRetO, dRetN, dDrop, dBin, dUn, dC, dVar, dCB, dCBO, daCons, daNil, daLend, dats, one, two, oneO, dIxO, dOwn1, dOwn2, fIx, fLen, dBl, dTru, dNot, dAnd, dOr, dAndV, dOrV, dNotV, dChain, dFr, dTup, dLst, dApp, dPopAt, dFor, diRng1, diRng2, diAny, gN, items, itemsD, oAdd, oSub, oMul, oDiv, oMod, oPow, oNeg, oCmp, oLt, oLe, oGt, oGe, oEq, oNe, oIn, oIsN, oNotN, isN, oIx, oLen, lenD, oInt, oAbs, oInts, oBool, oTuple, oAll, oAny, oSum, oSumA, oSl, dSl, pNo, pSo, oSorted, oList, oJoin, dMt1, dCall, dCallO, dCallT, argsOf, lent, opt, truth, MO.toD, Rv.toD, putOuts, putMO, List.getElem?_cons_zero, List.getElem?_cons_succ, List.set_cons_zero, List.set_cons_succ, Option.map_some, dIsi, dNo, at0, at1, at2, ix30, ix31, ix32, dComp, dYes, wipeD, back, dMake, dMeth, dLenSetS, oInD, dDict0, dDPut, dGet, dPar3DDO, dProp, dFld, dFldO, dFldSet, dSortSet, daKw, decide_eq_true_eq, shI, shS, shB, shN, eqI, eqS, true_and, List.contains_nil, beq_iff_eq, ↓reduceIte, Bool.false_eq_true]
    refine hk1 _ ?_
    simp only [h1, entry, lend, jr, List.map_cons, List.map_nil, List.length_cons, List.length_nil, List.replicate_succ, List.replicate_zero, List.cons_append, List.nil_append, List.append_nil, Nat.reduceAdd, Nat.reduceSub, Nat.reduceMul, Nat.zero_add, dSeq, dNext, dSet, dSetO, dPut, dPar, dPar3, dParOD, dParOO, dParDO, dIfS, dRet, dRetO, dRetN, dDrop, dBin, dUn, dC, dVar, dCB, dCBO, daCons, daNil, daLend, dats, one, two, oneO, dIxO, dOwn1, dOwn2, fIx, fLen, dBl, dTru, dNot, dAnd, dOr, dIf, dAndV, dOrV, dNotV, dChain, dFr, dTup, dLst, dApp, dPopAt, dFor, diRng1, diRng2, diAny, gN, items, itemsD, oAdd, oSub, oMul, oDiv, oMod, oPow, oNeg, oCmp, oLt, oLe, oGt, oGe, oEq, oNe, oIn, oIsN, oNotN, isN, oIx, oLen, lenD, oInt, oAbs, oInts, oBool, oTuple, oAll, oAny, oSum, oSumA, oSl, dSl, pNo, pSo, oSorted, oList, oJoin, dMt1, dCall, dCallO, dCallT, argsOf, lent, opt, truth, MO.toD, Rv.toD, putOuts, putMO, List.getElem?_cons_zero, List.getElem?_cons_succ, List.set_cons_zero, List.set_cons_succ, Option.map_some, dIsi, dNo, at0, at1, at2, ix30, ix31, ix32, ends, outW, dComp, dYes, wipeD, back, dMake, dMeth, dLenSetS, oInD, dDict0, dDPut, dGet, dPar3DDO, dProp, dFld, dFldO, dFldSet, dSortSet, daKw, decide_eq_true_eq, shI, shS, shB, shN, eqI, eqS, true_and, List.contains_nil, beq_iff_eq, ↓reduceIte, Bool.false_eq_true]
    exact fin _ j' (List.mem_map.mpr ⟨_, List.getElem_mem hr, rfl⟩)
  | lst l =>
    obtain rfl := Option.some.inj hs
    simp only [entry, lend, jr, List.map_cons, List.map_nil, List.length_cons, List.length_nil, List.replicate_succ, List.replicate_zero, List.cons_append, List.nil_append, List.append_nil, Nat.reduceAdd, Nat.reduceSub, Nat.reduceMul, Nat.zero_add, dNext, dSet, dSetO, dPut, dPar, dPar3, dParOD, dParOO, dParDO, dRet, dRetO, dRetN, dDrop, dBin, dUn, dC, dVar, dCB, dCBO, daCons, daNil, daLend, dats, one, two, oneO, dIxO, dOwn1, dOwn2, fIx, fLen, dBl, dTru, dNot, dAnd, dOr, dAndV, dOrV, dNotV, dChain, dFr, dTup, dLst, dApp, dPopAt, dFor, diRng1, diRng2, diAny, gN, items, itemsD, oAdd, oSub, oMul, oDiv, oMod, oPow, oNeg, oCmp, oLt, oLe, oGt, oGe, oEq, oNe, oIn, oIsN, oNotN, isN, oIx, oLen, lenD, oInt, oAbs, oInts, oBool, oTuple, oAll, oAny, oSum, oSumA, oSl, dSl, pNo, pSo, oSorted, oList, oJoin, dMt1, dCall, dCallO, dCallT, argsOf, lent, opt, truth, MO.toD, Rv.toD, putOuts, putMO, List.getElem?_cons_zero, List.getElem?_cons_succ, List.set_cons_zero, List.set_cons_succ, Option.map_some, dIsi, dNo, at0, at1, at2, ix30, ix31, ix32, dComp, dYes, wipeD, back, dMake, dMeth, dLenSetS, oInD, dDict0, dDPut, dGet, dPar3DDO, dProp, dFld, dFldO, dFldSet, dSortSet, daKw, decide_eq_true_eq, shI, shS, shB, shN, eqI, eqS, true_and, List.contains_nil, beq_iff_eq, ↓reduceIte, Bool.false_eq_true]
    refine use_dip (by omega) (by omega) fun r j' r0 r1 => ?_
    obtain ⟨d, h1, h2⟩ := e r0 (by omega)
    simp only [entry, lend, jr, List.map_cons, List.map_nil, List.length_cons, List.length_nil, List.replicate_succ, List.replicate_zero, List.cons_append, List.nil_append, List.append_nil, Nat.reduceAdd, Nat.reduceSub, Nat.reduceMul, Nat.zero_add, dNext, dSet, dSetO, dPut, dPar, dPar3, dParOD, dParOO, dParDO, dRet, dRetO, dRetN, dDrop, dBin, dUn, dC, dVar, dCB, dCBO, daCons, daNil, daLend, dats, one, two, oneO, dIxO, dOwn1, dOwn2, fIx, fLen, dBl, dTru, dNot, dAnd, dOr, dAndV, dOrV, dNotV, dChain, dFr, dTup, dLst, dApp, dPopAt, dFor, diRng1, diRng2, diAny, gN, items, itemsD, oAdd, oSub, oMul, oDiv, oMod, oPow, oNeg, oCmp, oLt, oLe, oGt, oGe, oEq, oNe, oIn, oIsN, oNotN, isN, oIx, oLen, lenD, oInt, oAbs, oInts, oBool, oTuple, oAll, oAny, oSum, oSumA, oSl, dSl, pNo, pSo, oSorted, oList, oJoin, dMt1, dCall, dCallO, dCallT, argsOf, lent, opt, truth, MO.toD, Rv.toD, putOuts, putMO, List.getElem?_cons_zero, List.getElem?_cons_succ, List.set_cons_zero, List.set_cons_succ, Option.map_some, dIsi, dNo, at0, at1, at2, ix30, ix31, ix32, dComp, dYes, wipeD, back, dMake, dMeth, dLenSetS, oInD, dDict0, dDPut, dGet, dPar3DDO, dProp, dFld, dFldO, dFldSet, dSortSet, daKw, decide_eq_true_eq, shI, shS, shB, shN, eqI, eqS, true_and, List.contains_nil, beq_iff_eq, ↓reduceIte, Bool.false_eq_true]
    refine hk1 _ ?_
    simp only [h1, entry, lend, jr, List.map_cons, List.map_nil, List.length_cons, List.length_nil, List.replicate_succ, List.replicate_zero, List.cons_append, List.nil_append, List.append_nil, Nat.reduceAdd, Nat.reduceSub, Nat.reduceMul, Nat.zero_add, dSeq, dNext, dSet, dSetO, dPut, dPar, dPar3, dParOD, dParOO, dParDO, dIfS, dRet, dRetO, dRetN, dDrop, dBin, dUn, dC, dVar, dCB, dCBO, daCons, daNil, daLend, dats, one, two, oneO, dIxO, dOwn1, dOwn2, fIx, fLen, dBl, dTru, dNot, dAnd, dOr, dIf, dAndV, dOrV, dNotV, dChain, dFr, dTup, dLst, dApp, dPopAt, dFor, diRng1, diRng2, diAny, gN, items, itemsD, oAdd, oSub, oMul, oDiv, oMod, oPow, oNeg, oCmp, oLt, oLe, oGt, oGe, oEq, oNe, oIn, oIsN, oNotN, isN, oIx, oLen, lenD, oInt, oAbs, oInts, oBool, oTuple, oAll, oAny, oSum, oSumA, oSl, dSl, pNo, pSo, oSorted, oList, oJoin, dMt1, dCall, dCallO, dCallT, argsOf, lent, opt, truth, MO.toD, Rv.toD, putOuts, putMO, List.getElem?_cons_zero, List.getElem?_cons_succ, List.set_cons_zero, List.set_cons_succ, Option.map_some, dIsi, dNo, at0, at1, at2, ix30, ix31, ix32, ends, outW, dComp, dYes, wipeD, back, dMake, dMeth, dLenSetS, oInD, dDict0, dDPut, dGet, dPar3DDO, dProp, dFld, dFldO, dFldSet, dSortSet, daKw, decide_eq_true_eq, shI, shS, shB, shN, eqI, eqS, true_and, List.contains_nil, beq_iff_eq, ↓reduceIte, Bool.false_eq_true]
    exact fin _ j' h2
  | tup l =>
    obtain rfl := Option.some.inj hs
    simp only [entry, lend, jr, List.map_cons, List.map_nil, List.length_cons, List.length_nil, List.replicate_succ, List.replicate_zero, List.cons_append, List.nil_append, List.append_nil, Nat.reduceAdd, Nat.reduceSub, Nat.reduceMul, Nat.zero_add, dNext, dSet, dSetO, dPut, dPar, dPar3, dParOD, dParOO, dParDO, dRet, dRetO, dRetN, dDrop, dBin, dUn, dC, dVar, dCB, dCBO, daCons, daNil, daLend, dats, one, two, oneO, dIxO, dOwn1, dOwn2, fIx, fLen, dBl, dTru, dNot, dAnd, dOr, dAndV, dOrV, dNotV, dChain, dFr, dTup, dLst, dApp, dPopAt, dFor, diRng1, diRng2, diAny, gN, items, itemsD, oAdd, oSub, oMul, oDiv, oMod, oPow, oNeg, oCmp, oLt, oLe, oGt, oGe, oEq, oNe, oIn, oIsN, oNotN, isN, oIx, oLen, lenD, oInt, oAbs, oInts, oBool, oTuple, oAll, oAny, oSum, oSumA, oSl, dSl, pNo, pSo, oSorted, oList, oJoin, dMt1, dCall, dCallO, dCallT, argsOf, lent, opt, truth, MO.toD, Rv.toD, putOuts, putMO, List.getElem?_cons_zero, List.getElem?_cons_succ, List.set_cons_zero, List.set_cons_succ, Option.map_some, dIsi, dNo, at0, at1, at2, ix30, ix31, ix32, dComp, dYes, wipeD, back, dMake, dMeth, dLenSetS, oInD, dDict0, dDPut, dGet, dPar3DDO, dProp, dFld, dFldO, dFldSet, dSortSet, daKw, decide_eq_true_eq, shI, shS, shB, shN, eqI, eqS, true_and, List.contains_nil, beq_iff_eq, ↓reduceIte, Bool.false_eq_true]
    refine use_dip (by omega) (by omega) fun r j' r0 r1 => ?_
    obtain ⟨d, h1, h2⟩ := e r0 (by omega)
    simp only [entry, lend, jr, List.map_cons, List.map_nil, List.length_cons, List.length_nil, List.replicate_succ, List.replicate_zero, List.cons_append, List.nil_append, List.append_nil, Nat.reduceAdd, Nat.reduceSub, Nat.reduceMul, Nat.zero_add, dNext, dSet, dSetO, dPut, dPar, dPar3, dParOD, dParOO, dParDO, dRet, dRetO, dRetN, dDrop, dBin, dUn, dC, dVar, dCB, dCBO, daCons, daNil, daLend, dats, one, two, oneO, dIxO, dOwn1, dOwn2, fIx, fLen, dBl, dTru, dNot, dAnd, dOr, dAndV, dOrV, dNotV, dChain, dFr, dTup, dLst, dApp, dPopAt, dFor, diRng1, diRng2, diAny, gN, items, itemsD, oAdd, oSub, oMul, oDiv, oMod, oPow, oNeg, oCmp, oLt, oLe, oGt, oGe, oEq, oNe, oIn, oIsN, oNotN, isN, oIx, oLen, lenD, oInt, oAbs, oInts, oBool, oTuple, oAll, oAny, oSum, oSumA, oSl, dSl, pNo, pSo, oSorted, oList, oJoin, dMt1, dCall, dCallO, dCallT, argsOf, lent, opt, truth, MO.toD, Rv.toD, putOuts, putMO, List.getElem?_cons_zero, List.getElem?_cons_succ, List.set_cons_zero, List.set_cons_succ, Option.map_some, dIsi, dNo, at0, at1, at2, ix30, ix31, ix32, dComp, dYes, wipeD, back, dMake, dMeth, dLenSetS, oInD, dDict0, dDPut, dGet, dPar3DDO, dProp, dFld, dFldO, dFldSet, dSortSet, daKw, decide_eq_true_eq, shI, shS, shB, shN, eqI, eqS, true_and, List.contains_nil, beq_iff_eq, ↓reduceIte, Bool.false_eq_true]
    refine hk1 _ ?_
    simp only [h1, entry, lend, jr, List.map_cons, List.map_nil, List.length_cons, List.length_nil, List.replicate_succ, List.replicate_zero, List.cons_append, List.nil_append, List.append_nil, Nat.reduceAdd, Nat.reduceSub, Nat.reduceMul, Nat.zero_add, dSeq, dNext, dSet, dSetO, dPut, dPar, dPar3, dParOD, dParOO, dParDO, dIfS, dRet, dRetO, dRetN, dDrop, dBin, dUn, dC, dVar, dCB, dCBO, daCons, daNil, daLend, dats, one, two, oneO, dIxO, dOwn1, dOwn2, fIx, fLen, dBl, dTru, dNot, dAnd, dOr, dIf, dAndV, dOrV, dNotV, dChain, dFr, dTup, dLst, dApp, dPopAt, dFor, diRng1, diRng2, diAny, gN, items, itemsD, oAdd, oSub, oMul, oDiv, oMod, oPow, oNeg, oCmp, oLt, oLe, oGt, oGe, oEq, oNe, oIn, oIsN, oNotN, isN, oIx, oLen, lenD, oInt, oAbs, oInts, oBool, oTuple, oAll, oAny, oSum, oSumA, oSl, dSl, pNo, pSo, oSorted, oList, oJoin, dMt1, dCall, dCallO, dCallT, argsOf, lent, opt, truth, MO.toD, Rv.toD, putOuts, putMO, List.getElem?_cons_zero, List.getElem?_cons_succ, List.set_cons_zero, List.set_cons_succ, Option.map_some, dIsi, dNo, at0, at1, at2, ix30, ix31, ix32, ends, outW, dComp, dYes, wipeD, back, dMake, dMeth, dLenSetS, oInD, dDict0, dDPut, dGet, dPar3DDO, dProp, dFld, dFldO, dFldSet, dSortSet, daKw, decide_eq_true_eq, shI, shS, shB, shN, eqI, eqS, true_and, List.contains_nil, beq_iff_eq, ↓reduceIte, Bool.false_eq_true]
    exact fin _ j' h2
  | _ => cases hs
theorem use_pick {K : PySem.W.Frag} {b : Bool} {p : Addr} {j : Jr} {ds : List Dt} {Q : Rv → List MO → Prop} {U : Xn → List MO → Prop} (ne : ds ≠ []) (len : ds.length ≤ 1000) (h : ∀ d (j : Jr), d ∈ ds → Q (.d d) [jr j]) :
    sp_L_pick K [.own b p (jr j), .dat (.lst ds)] Q U := ⟨((b, p, j), Dt.lst ds, ds), rfl, ⟨rfl, ne, len⟩, fun y hy => h y.1 y.2 hy⟩
/-! ### what repr of nested lists, tuples of small things asks -/
def Rp (k : Nat) (d : Dt) (n : Nat) : Prop := Sh k d ∧ (toPy d).showable = true ∧ (toPy d).shown.length ≤ n
def RpA (k : Nat) (ds : List Dt) (n : Nat) : Prop := (∀ d ∈ ds, Sh k d) ∧ PyData.showableAll (toPys ds) = true ∧ ((PyData.shownAll (toPys ds)).map (·.length)).sum ≤ n ∧ (PyData.shownAll (toPys ds)).length = ds.length
theorem Rp.ok {d : Dt} {n : Nat} (h : Rp 8 d n) (hn : n ≤ 16777216) : Sh 8 d ∧ (toPy d).showable = true ∧ Fits (toPy d).shown.length := ⟨h.1, h.2.1, Nat.le_trans h.2.2 hn⟩
theorem Rp.le {k : Nat} {d : Dt} {n m : Nat} (h : Rp k d n) (hn : n ≤ m) : Rp k d m := ⟨h.1, h.2.1, Nat.le_trans h.2.2 hn⟩
theorem Rp.non {k : Nat} : Rp k .non 4 := ⟨by rw [shN]; trivial, by simp only [toPy, PyData.showable], by simp only [toPy, PyData.shown]; decide⟩
theorem Rp.bl {k : Nat} (b : Bool) : Rp k (.bl b) 5 := ⟨by rw [shB]; trivial, by simp only [toPy, PyData.showable], by cases b <;> simp only [toPy, PyData.shown] <;> decide⟩
theorem Rp.int {k : Nat} {i : Int} (h : i.natAbs < 10 ^ 100) : Rp k (.int i) 101 := by
  refine ⟨by rw [shI]; trivial, ?_, ?_⟩
  · rw [toPy, PyData.showable]
    refine decide_eq_true ?_
    by_cases h0 : i.natAbs = 0
    · rw [h0]; decide
    · exact (Nat.log2_lt h0).mpr (Nat.lt_of_lt_of_le h (by decide))
  · rw [toPy, PyData.shown]
    rw [PySem.ofString_length]
    exact int_text_length_le10 (k := 100) (by decide) h
theorem Rp.str {k : Nat} {l : List Nat} (h : ∀ c ∈ l, c < 4294967296) : Rp k (.str l) (10 * l.length + 2) := by
  refine ⟨by rw [shS]; trivial, by rw [toPy, PyData.showable], ?_⟩
  rw [toPy, PyData.shown]
  exact StrLaws.reprText_len ⟨l.toArray⟩ (by simpa using h)
theorem RpA.nil {k : Nat} : RpA k [] 0 := by
  refine ⟨(fun d h => nomatch h), by rw [toPys, PyData.showableAll], ?_⟩
  rw [toPys, PyData.shownAll]
  exact ⟨Nat.zero_le _, rfl⟩
theorem RpA.cons {k : Nat} {d : Dt} {ds : List Dt} {n m : Nat} (h : Rp k d n) (g : RpA k ds m) : RpA k (d :: ds) (n + m) := by
  obtain ⟨h1, h2, h3⟩ := h
  obtain ⟨g1, g2, g3, g4⟩ := g
  refine ⟨fun x hx => ?_, by rw [toPys, PyData.showableAll, h2, g2]; rfl, ?_, ?_⟩
  · rcases List.mem_cons.mp hx with rfl | hx
    · exact h1
    · exact g1 x hx
  · rw [toPys, PyData.shownAll, List.map_cons, List.sum_cons]
    omega
  · rw [toPys, PyData.shownAll, List.length_cons, List.length_cons, g4]
theorem RpA.one {k : Nat} {d : Dt} {n : Nat} (h : Rp k d n) : RpA k [d] n := RpA.cons h RpA.nil
theorem RpA.all {k n : Nat} : ∀ {ds : List Dt}, (∀ d ∈ ds, Rp k d n) → RpA k ds (n * ds.length)
  | [], _ => by rw [List.length_nil, Nat.mul_zero]; exact RpA.nil
  | d :: ds, h => by
    rw [List.length_cons, Nat.mul_succ, Nat.add_comm]
    exact RpA.cons (h d List.mem_cons_self) (RpA.all fun x hx => h x (List.mem_cons_of_mem _ hx))
theorem Rp.tup {k : Nat} {ds : List Dt} {n : Nat} (h : RpA k ds n) : Rp (k + 1) (.tup ds) (n + 2 * ds.length + 3) := by
  obtain ⟨h1, h2, h3, h4⟩ := h
  refine ⟨h1, by rw [toPy, PyData.showable]; exact h2, ?_⟩
  rw [toPy, PyData.shown]
  have := tupleText_len_le (PyData.shownAll (toPys ds))
  rw [h4] at this
  omega
theorem Rp.lst {k : Nat} {ds : List Dt} {n : Nat} (h : RpA k ds n) : Rp (k + 1) (.lst ds) (n + 2 * ds.length + 3) := by
  obtain ⟨h1, h2, h3, h4⟩ := h
  refine ⟨h1, by rw [toPy, PyData.showable]; exact h2, ?_⟩
  rw [toPy, PyData.shown]
  have := listText_len_le (PyData.shownAll (toPys ds))
  rw [h4] at this
  omega
theorem Rp.two {k : Nat} {a b : Dt} {n m : Nat} (h : Rp k a n) (g : Rp k b m) : Rp (k + 1) (.lst [a, b]) (n + m + 7) := Rp.lst (RpA.cons h (RpA.one g))
theorem eqBl {i j : Bool} : eqD (.bl i) (.bl j) = (i == j) := by simp [eqD]

/-! ### what is caught (k20) -/
theorem shw_ok {d : Dt} (h : Shw d) : ShX d ∧ (pyX d).showable = true ∧ Fits (pyX d).shown.length := ⟨h.1, h.2.1, by have := h.2.2; unfold Fits; omega⟩
theorem vl_of {d : Dt} {n : Nat} (hi : noIns d) (e : ∀ kvs, d ≠ .dct kvs) (r : Rp 8 d n) (hn : n ≤ 2000) : Vl d := by
  refine ⟨hi, ?_⟩
  cases d with
  | dct kvs => exact absurd rfl (e kvs)
  | _ => exact ⟨r.1, r.2.1, Nat.le_trans r.2.2 hn⟩
theorem vl_str {l : List Nat} (h : ∀ c ∈ l, c < 4294967296) (hl : l.length ≤ 100) : Vl (.str l) := vl_of (show l.length ≤ 100000 by omega) nofun (Rp.str h) (by omega)
def oddL : List Dt := [.non, .bl true, .bl false, .int 0, .int 1, .int (-1), .int 2, .int (10 ^ Int.toNat 30), .str [], .str [97], .str [97, 98], .str [97, 98, 99], .str [97, 99, 98], .tup [], .tup [.str [97, 98, 99]],
  .tup [.int 1, .int 1], .lst [.str [97, 98, 99]], .lst [], .dct [], .dct [(Sum.inr (mkS [97, 98, 99]), .int 1)], .tup [.non, .int 0], .str [97, 98, 99, 10, 99, 98, 97], .tup [.tup [.str [97, 98, 99]]],
  .tup [.str [97, 98, 99], .str [97, 98, 99]], .lst [.lst []], .tup [.tup []], .str [67, 65, 66]]
theorem odd_vl : ∀ d ∈ oddL, Vl d := by
  intro d hd
  unfold oddL at hd
  simp only [List.mem_cons, List.not_mem_nil, or_false] at hd
  have s3 : ∀ {k : Nat}, Rp k (.str [97, 98, 99]) (10 * 3 + 2) := fun {k} => Rp.str (l := [97, 98, 99]) (by decide)
  rcases hd with rfl | rfl | rfl | rfl | rfl | rfl | rfl | rfl | rfl | rfl | rfl | rfl | rfl | rfl | rfl | rfl | rfl | rfl | rfl | rfl | rfl | rfl | rfl | rfl | rfl | rfl | rfl
  · exact vl_of trivial nofun Rp.non (by decide)
  · exact vl_of trivial nofun (Rp.bl _) (by decide)
  · exact vl_of trivial nofun (Rp.bl _) (by decide)
  · exact vl_of trivial nofun (Rp.int (by decide)) (by decide)
  · exact vl_of trivial nofun (Rp.int (by decide)) (by decide)
  · exact vl_of trivial nofun (Rp.int (by decide)) (by decide)
  · exact vl_of trivial nofun (Rp.int (by decide)) (by decide)
  · exact vl_of trivial nofun (Rp.int (by decide)) (by decide)
  · exact vl_str (by decide) (by decide)
  · exact vl_str (by decide) (by decide)
  · exact vl_str (by decide) (by decide)
  · exact vl_str (by decide) (by decide)
  · exact vl_str (by decide) (by decide)
  · exact vl_of trivial nofun (Rp.tup RpA.nil) (by decide)
  · exact vl_of trivial nofun (Rp.tup (RpA.one s3)) (by decide)
  · exact vl_of trivial nofun (Rp.tup (RpA.cons (Rp.int (by decide)) (RpA.one (Rp.int (by decide))))) (by decide)
  · exact vl_of trivial nofun (Rp.lst (RpA.one s3)) (by decide)
  · exact vl_of trivial nofun (Rp.lst RpA.nil) (by decide)
  · exact ⟨trivial, nofun, by decide +kernel, by decide +kernel⟩
  · exact ⟨trivial, fun p hp => by rw [List.mem_singleton.mp hp]; rfl, by decide +kernel, by decide +kernel⟩
  · exact vl_of trivial nofun (Rp.tup (RpA.cons Rp.non (RpA.one (Rp.int (by decide))))) (by decide)
  · exact vl_str (by decide) (by decide)
  · exact vl_of trivial nofun (Rp.tup (RpA.one (Rp.tup (RpA.one s3)))) (by decide)
  · exact vl_of trivial nofun (Rp.tup (RpA.cons s3 (RpA.one s3))) (by decide)
  · exact vl_of trivial nofun (Rp.lst (RpA.one (Rp.lst RpA.nil))) (by decide)
  · exact vl_of trivial nofun (Rp.tup (RpA.one (Rp.tup RpA.nil))) (by decide)
  · exact vl_str (by decide) (by decide)
theorem math_L_odd (K : PySem.W.Frag) : ∀ args Q U, sp_L_odd K args Q U → m_L_odd K (ends args Q U) (entry (List.length N_L_odd) args) := by
  rintro args Q U ⟨⟨⟨b, p, j⟩, x⟩, rfl, _, hQ⟩
  have fin : ∀ d j, Vl d → Q (.d d) [jr j] := fun d j h => hQ (d, j) h
  have pw30 : CPow 10 30 := by unfold CPow; decide
  unfold m_L_odd
  refine seq_step fun k1 hk1 => ?_
  simp only [entry, lend, jr, List.map_cons, List.map_nil, List.length_cons, List.length_nil, List.replicate_succ, List.replicate_zero, List.cons_append, List.nil_append, List.append_nil, Nat.reduceAdd, Nat.reduceSub, Nat.reduceMul, Nat.zero_add, dNext, dSet, dSetO, dPut, dPar, dPar3, dParOD, dParOO, dParDO, dRet, dRetO, dRetN, dDrop, dBin, dUn, dC, dVar, dCB, dCBO, daCons, daNil, daLend, dats, one, two, oneO, dIxO, dOwn1, dOwn2, fIx, fLen, dBl, dTru, dNot, dAnd, dOr, dAndV, dOrV, dNotV, dChain, dFr, dTup, dLst, dApp, dPopAt, dFor, diRng1, diRng2, diAny, gN, items, itemsD, oAdd, oSub, oMul, oDiv, oMod, oPow, oNeg, oCmp, oLt, oLe, oGt, oGe, oEq, oNe, oIn, oIsN, oNotN, isN, oIx, oLen, lenD, oInt, oAbs, oInts, oBool, oTuple, oAll, oAny, oSum, oSumA, oSl, dSl, pNo, pSo, oSorted, oList, oJoin, dMt1, dCall, dCallO, dCallT, argsOf, lent, opt, truth, MO.toD, Rv.toD, putOuts, putMO, List.getElem?_cons_zero, List.getElem?_cons_succ, List.set_cons_zero, List.set_cons_succ, Option.map_some, dIsi, dNo, at0, at1, at2, ix30, ix31, ix32, dComp, dYes, wipeD, back, dMake, dMeth, dLenSetS, oInD, dDict0, dDPut, dGet, dPar3DDO, dProp, dFld, dFldO, dFldSet, dSortSet, daKw, decide_eq_true_eq, shI, shS, shB, shN, eqI, eqS, true_and, List.contains_nil, beq_iff_eq, ↓reduceIte, Bool.false_eq_true]
  refine ⟨pw30, kilo_line (by decide), hk1 _ (seq_step fun k2 hk2 => ?_)⟩
  simp only [entry, lend, jr, List.map_cons, List.map_nil, List.length_cons, List.length_nil, List.replicate_succ, List.replicate_zero, List.cons_append, List.nil_append, List.append_nil, Nat.reduceAdd, Nat.reduceSub, Nat.reduceMul, Nat.zero_add, dNext, dSet, dSetO, dPut, dPar, dPar3, dParOD, dParOO, dParDO, dRet, dRetO, dRetN, dDrop, dBin, dUn, dC, dVar, dCB, dCBO, daCons, daNil, daLend, dats, one, two, oneO, dIxO, dOwn1, dOwn2, fIx, fLen, dBl, dTru, dNot, dAnd, dOr, dAndV, dOrV, dNotV, dChain, dFr, dTup, dLst, dApp, dPopAt, dFor, diRng1, diRng2, diAny, gN, items, itemsD, oAdd, oSub, oMul, oDiv, oMod, oPow, oNeg, oCmp, oLt, oLe, oGt, oGe, oEq, oNe, oIn, oIsN, oNotN, isN, oIx, oLen, lenD, oInt, oAbs, oInts, oBool, oTuple, oAll, oAny, oSum, oSumA, oSl, dSl, pNo, pSo, oSorted, oList, oJoin, dMt1, dCall, dCallO, dCallT, argsOf, lent, opt, truth, MO.toD, Rv.toD, putOuts, putMO, List.getElem?_cons_zero, List.getElem?_cons_succ, List.set_cons_zero, List.set_cons_succ, Option.map_some, dIsi, dNo, at0, at1, at2, ix30, ix31, ix32, dComp, dYes, wipeD, back, dMake, dMeth, dLenSetS, oInD, dDict0, dDPut, dGet, dPar3DDO, dProp, dFld, dFldO, dFldSet, dSortSet, daKw, decide_eq_true_eq, shI, shS, shB, shN, eqI, eqS, true_and, List.contains_nil, beq_iff_eq, ↓reduceIte, Bool.false_eq_true]
  refine ⟨kilo_line (by decide), kilo_line (by decide), kilo_line (by decide), kilo_line (by decide), kilo_line (by decide), kilo_line (by decide), by unfold Fits; omega, hk2 _ ?_⟩
  simp only [dDictC, entry, lend, jr, List.map_cons, List.map_nil, List.length_cons, List.length_nil, List.replicate_succ, List.replicate_zero, List.cons_append, List.nil_append, List.append_nil, Nat.reduceAdd, Nat.reduceSub, Nat.reduceMul, Nat.zero_add, dSeq, dNext, dSet, dSetO, dPut, dPar, dPar3, dParOD, dParOO, dParDO, dIfS, dRet, dRetO, dRetN, dDrop, dBin, dUn, dC, dVar, dCB, dCBO, daCons, daNil, daLend, dats, one, two, oneO, dIxO, dOwn1, dOwn2, fIx, fLen, dBl, dTru, dNot, dAnd, dOr, dIf, dAndV, dOrV, dNotV, dChain, dFr, dTup, dLst, dApp, dPopAt, dFor, diRng1, diRng2, diAny, gN, items, itemsD, oAdd, oSub, oMul, oDiv, oMod, oPow, oNeg, oCmp, oLt, oLe, oGt, oGe, oEq, oNe, oIn, oIsN, oNotN, isN, oIx, oLen, lenD, oInt, oAbs, oInts, oBool, oTuple, oAll, oAny, oSum, oSumA, oSl, dSl, pNo, pSo, oSorted, oList, oJoin, dMt1, dCall, dCallO, dCallT, argsOf, lent, opt, truth, MO.toD, Rv.toD, putOuts, putMO, List.getElem?_cons_zero, List.getElem?_cons_succ, List.set_cons_zero, List.set_cons_succ, Option.map_some, dIsi, dNo, at0, at1, at2, ix30, ix31, ix32, ends, outW, dComp, dYes, wipeD, back, dMake, dMeth, dLenSetS, oInD, dDict0, dDPut, dGet, dPar3DDO, dProp, dFld, dFldO, dFldSet, dSortSet, daKw, decide_eq_true_eq, shI, shS, shB, shN, eqI, eqS, true_and, List.contains_nil, beq_iff_eq, ↓reduceIte, Bool.false_eq_true]
  refine ⟨kilo_line (by decide), kilo_line (by decide), kilo_line (by decide), kilo_line (by decide), kilo_line (by decide), kilo_line (by decide), kilo_line (by decide), kilo_line (by decide), kilo_line (by decide), by unfold Fits; omega, ?_⟩
  refine use_pick (j := (_, _, _)) (by simp) (by simp) fun d j1 hd => ?_
  have hv : Vl d := odd_vl d hd
  simp only [entry, lend, jr, List.map_cons, List.map_nil, List.length_cons, List.length_nil, List.replicate_succ, List.replicate_zero, List.cons_append, List.nil_append, List.append_nil, Nat.reduceAdd, Nat.reduceSub, Nat.reduceMul, Nat.zero_add, dSeq, dNext, dSet, dSetO, dPut, dPar, dPar3, dParOD, dParOO, dParDO, dIfS, dRet, dRetO, dRetN, dDrop, dBin, dUn, dC, dVar, dCB, dCBO, daCons, daNil, daLend, dats, one, two, oneO, dIxO, dOwn1, dOwn2, fIx, fLen, dBl, dTru, dNot, dAnd, dOr, dIf, dAndV, dOrV, dNotV, dChain, dFr, dTup, dLst, dApp, dPopAt, dFor, diRng1, diRng2, diAny, gN, items, itemsD, oAdd, oSub, oMul, oDiv, oMod, oPow, oNeg, oCmp, oLt, oLe, oGt, oGe, oEq, oNe, oIn, oIsN, oNotN, isN, oIx, oLen, lenD, oInt, oAbs, oInts, oBool, oTuple, oAll, oAny, oSum, oSumA, oSl, dSl, pNo, pSo, oSorted, oList, oJoin, dMt1, dCall, dCallO, dCallT, argsOf, lent, opt, truth, MO.toD, Rv.toD, putOuts, putMO, List.getElem?_cons_zero, List.getElem?_cons_succ, List.set_cons_zero, List.set_cons_succ, Option.map_some, dIsi, dNo, at0, at1, at2, ix30, ix31, ix32, ends, outW, dComp, dYes, wipeD, back, dMake, dMeth, dLenSetS, oInD, dDict0, dDPut, dGet, dPar3DDO, dProp, dFld, dFldO, dFldSet, dSortSet, daKw, decide_eq_true_eq, shI, shS, shB, shN, eqI, eqS, true_and, List.contains_nil, beq_iff_eq, ↓reduceIte, Bool.false_eq_true]
  exact fin d j1 hv
/-! ### k01: errors as values -/
theorem ev_isX {ρ : En} {R : Dt → En → Prop} {U : XP} {g : List (Addr × Bool)} {i : Nat} {p C : Addr} {fs : List (Str × Dt)} {b : Bool} (h : ρ[i]? = some (.dat (excD p C fs))) (m : (C, b) ∈ g) (q : R (.bl b) ρ) : dIsX g (dVar i) ρ R U := by
  unfold dIsX dVar
  rw [h]
  exact ⟨p, C, fs, b, rfl, m, q⟩
theorem xt_mem (K : PySem.W.Frag) {bs : List Bool} {i : Nat} (hi : i < 22) (hl : bs.length = 22) : (xC K i, bs.getD i false) ∈ xt K bs := by
  have h1 : i < xNames.length := hi
  have h2 : i < bs.length := by omega
  unfold xt xC
  refine List.mem_map.mpr ⟨(xNames[i], bs[i]), ?_, ?_⟩
  · refine List.mem_of_getElem? (i := i) ?_
    rw [List.getElem?_zip_eq_some]
    exact ⟨List.getElem?_eq_getElem h1, List.getElem?_eq_getElem h2⟩
  · simp only [List.getD_eq_getElem?_getD, List.getElem?_eq_getElem h1, List.getElem?_eq_getElem h2, Option.getD_some]
theorem ev_xt {K : PySem.W.Frag} {ρ : En} {R : Dt → En → Prop} {U : XP} {bs : List Bool} {j i : Nat} {p : Addr} {fs : List (Str × Dt)} (h : ρ[j]? = some (.dat (excD p (xC K i) fs))) (hi : i < 22) (hl : bs.length = 22) (q : R (.bl (bs.getD i false)) ρ) : dIsX (xt K bs) (dVar j) ρ R U :=
  ev_isX h (xt_mem K hi hl) q
/-- isinstance of one thing by many classes, as arguments -/
def isxA (K : PySem.W.Frag) : List (List Bool) → DA
  | [] => daNil
  | t :: ts => daCons (dIsX (xt K t) (dVar 0)) (isxA K ts)
theorem ev_isxA {K : PySem.W.Frag} {i : Nat} {p : Addr} {fs : List (Str × Dt)} (hi : i < 22) : ∀ (ts : List (List Bool)) {ρ : En} {R : List Ag → En → Prop} {U : XP}, ρ[0]? = some (.dat (excD p (xC K i) fs)) → (∀ t ∈ ts, t.length = 22) → R (ts.map fun t => .d (.bl (t.getD i false))) ρ → isxA K ts ρ R U
  | [], _, _, _, _, _, q => q
  | t :: ts, ρ, R, U, h, hl, q => by
    unfold isxA daCons
    exact ev_xt h hi (hl t List.mem_cons_self) (ev_isxA hi ts h (fun u hu => hl u (List.mem_cons_of_mem _ hu)) q)
theorem dats_bl (i : Nat) : ∀ ts : List (List Bool), dats (ts.map fun t => Ag.d (.bl (t.getD i false))) = some (ts.map fun t => Dt.bl (t.getD i false))
  | [] => rfl
  | t :: ts => by
    show (dats (ts.map fun t => Ag.d (.bl (t.getD i false)))).map (Dt.bl (t.getD i false) :: ·) = _
    rw [dats_bl i ts]
    rfl
def row (l : List Nat) : List Bool := (List.range 22).map fun i => decide (i ∈ l)
def xS (a b : Nat) : List (List Bool) := (List.range (b - a)).map fun k => row [a + k]
def vW : List Bool := row [0, 1, 2, 3, 4, 5, 6, 7, 8, 9, 10, 11, 19]
def vN : List Bool := row [12, 13, 20]
def vP : List Bool := row [14, 15, 16, 17, 18, 21]
noncomputable def mSorts (K : PySem.W.Frag) : DSt := dSeq (dSet 1 (dFr (dLst (isxA K (xS 0 3))))) (dSeq (dSet 1 (dBin oAdd (dVar 1) (dFr (dLst (isxA K (xS 3 6)))))) (dSeq (dSet 1 (dBin oAdd (dVar 1) (dFr (dLst (isxA K (xS 6 9)))))) (dSeq (dSet 1 (dBin oAdd (dVar 1) (dFr (dLst (isxA K (xS 9 12)))))) (dSeq (dSet 1 (dBin oAdd (dVar 1) (dFr (dLst (isxA K (xS 12 15)))))) (dSeq (dSet 1 (dBin oAdd (dVar 1) (dFr (dLst (isxA K (xS 15 18)))))) (dSeq (dSet 1 (dBin oAdd (dVar 1) (dFr (dLst (isxA K (xS 18 19)))))) (dRet (dVar 1))))))))
theorem mSorts_eq (K : PySem.W.Frag) : m_L_sorts K = mSorts K := rfl
def colB (i : Nat) (ts : List (List Bool)) : List Bool := ts.map fun t => t.getD i false
theorem col_eq (i : Nat) (ts : List (List Bool)) : (ts.map fun t => Dt.bl (t.getD i false)) = (colB i ts).map Dt.bl := by
  unfold colB
  rw [List.map_map]
  rfl
theorem ev_lx {K : PySem.W.Frag} {ρ : En} {R : Dt → En → Prop} {U : XP} {i : Nat} {p : Addr} {fs : List (Str × Dt)} {ts : List (List Bool)} (h : ρ[0]? = some (.dat (excD p (xC K i) fs))) (hi : i < 22) (hl : ∀ t ∈ ts, t.length = 22) (hn : ts.length ≤ 1000) (q : R (.lst ((colB i ts).map Dt.bl)) ρ) : dFr (dLst (isxA K ts)) ρ R U := by
  unfold dFr dLst
  refine ev_isxA hi ts h hl ?_
  dsimp only
  rw [dats_bl, col_eq]
  exact ⟨kilo_line (by unfold colB; simpa using hn), q⟩
theorem ev_st {K : PySem.W.Frag} {i : Nat} {p : Addr} {fs : List (Str × Dt)} {ts : List (List Bool)} {acc : List Bool} {b : DSt} {D : DEn} (hi : i < 22) (hl : ∀ t ∈ ts, t.length = 22) (hn : ts.length ≤ 100) (ha : acc.length ≤ 100)
    (q : b D [.dat (excD p (xC K i) fs), .dat (.lst ((acc ++ colB i ts).map Dt.bl))]) : dSeq (dSet 1 (dBin oAdd (dVar 1) (dFr (dLst (isxA K ts))))) b D [.dat (excD p (xC K i) fs), .dat (.lst (acc.map Dt.bl))] := by
  show dFr (dLst (isxA K ts)) _ (fun y ρ2 => oAdd (.lst (acc.map Dt.bl)) y fun z => b D (ρ2.set 1 (.dat z))) D.ex
  refine ev_lx rfl hi hl (by omega) ?_
  have l1 : (colB i ts).length = ts.length := by unfold colB; simp
  refine ⟨by unfold Fits; simp only [List.length_map]; omega, ?_⟩
  rw [← List.map_append]
  exact q
theorem ev_st0 {K : PySem.W.Frag} {i : Nat} {p : Addr} {fs : List (Str × Dt)} {ts : List (List Bool)} {s1 : Sl} {b : DSt} {D : DEn} (hi : i < 22) (hl : ∀ t ∈ ts, t.length = 22) (hn : ts.length ≤ 100)
    (q : b D [.dat (excD p (xC K i) fs), .dat (.lst ((colB i ts).map Dt.bl))]) : dSeq (dSet 1 (dFr (dLst (isxA K ts)))) b D [.dat (excD p (xC K i) fs), s1] := by
  show dFr (dLst (isxA K ts)) _ (fun y ρ2 => b D (ρ2.set 1 (.dat y))) D.ex
  exact ev_lx rfl hi hl (by omega) q
theorem row_len {l : List Nat} : (row l).length = 22 := by unfold row; simp
theorem xS_len {a b : Nat} : ∀ t ∈ xS a b, t.length = 22 := fun t ht => by
  obtain ⟨k, _, rfl⟩ := List.mem_map.mp ht
  exact row_len
theorem sorts_at : ∀ i, i < 19 → ((((((colB i (xS 0 3) ++ colB i (xS 3 6)) ++ colB i (xS 6 9)) ++ colB i (xS 9 12)) ++ colB i (xS 12 15)) ++ colB i (xS 15 18)) ++ colB i (xS 18 19)) = (List.range 19).map fun j => decide (j = i) := by decide +kernel
theorem math_L_sorts (K : PySem.W.Frag) : ∀ args Q U, sp_L_sorts K args Q U → m_L_sorts K (ends args Q U) (entry (List.length N_L_sorts) args) := by
  rintro args Q U ⟨⟨p, i, fs⟩, rfl, hi, hQ⟩
  have hi : i < 19 := hi
  have h22 : i < 22 := by omega
  have fin : Q (.d (oneOf 19 i)) [] := hQ () trivial
  clear hQ
  rw [mSorts_eq]
  show mSorts K _ [.dat (excD p (xC K i) fs), .no]
  unfold mSorts
  refine ev_st0 h22 xS_len (by decide) ?_
  have lc : ∀ a b, (colB i (xS a b)).length = b - a := fun a b => by unfold colB xS; simp
  refine ev_st h22 xS_len (by decide) (by simp only [List.length_append, lc]; decide) ?_
  refine ev_st h22 xS_len (by decide) (by simp only [List.length_append, lc]; decide) ?_
  refine ev_st h22 xS_len (by decide) (by simp only [List.length_append, lc]; decide) ?_
  refine ev_st h22 xS_len (by decide) (by simp only [List.length_append, lc]; decide) ?_
  refine ev_st h22 xS_len (by decide) (by simp only [List.length_append, lc]; decide) ?_
  refine ev_st h22 xS_len (by decide) (by simp only [List.length_append, lc]; decide) ?_
  rw [sorts_at i hi, List.map_map]
  exact fin
theorem ev_andX {K : PySem.W.Frag} {ρ : En} {R : Dt → En → Prop} {U : XP} {bs : List Bool} {j i : Nat} {p : Addr} {fs : List (Str × Dt)} (h : ρ[j]? = some (.dat (excD p (xC K i) fs))) (hi : i < 22) (hl : bs.length = 22) (q : R (.bl (bs.getD i false)) ρ) : dAndV (dIsX (xt K bs) (dVar j)) (dIsX (xt K bs) (dVar j)) ρ R U := by
  unfold dAndV
  refine ev_xt h hi hl ?_
  cases hb : bs.getD i false with
  | true =>
    rw [hb] at q
    simp only [entry, lend, jr, List.map_cons, List.map_nil, List.length_cons, List.length_nil, List.replicate_succ, List.replicate_zero, List.cons_append, List.nil_append, List.append_nil, Nat.reduceAdd, Nat.reduceSub, Nat.reduceMul, Nat.zero_add, dSeq, dNext, dSet, dSetO, dPut, dPar, dPar3, dParOD, dParOO, dParDO, dIfS, dRet, dRetO, dRetN, dDrop, dBin, dUn, dC, dVar, dCB, dCBO, daCons, daNil, daLend, dats, one, two, oneO, dIxO, dOwn1, dOwn2, fIx, fLen, dBl, dTru, dNot, dAnd, dOr, dIf, dAndV, dOrV, dNotV, dChain, dFr, dTup, dLst, dApp, dPopAt, dFor, diRng1, diRng2, diAny, gN, items, itemsD, oAdd, oSub, oMul, oDiv, oMod, oPow, oNeg, oCmp, oLt, oLe, oGt, oGe, oEq, oNe, oIn, oIsN, oNotN, isN, oIx, oLen, lenD, oInt, oAbs, oInts, oBool, oTuple, oAll, oAny, oSum, oSumA, oSl, dSl, pNo, pSo, oSorted, oList, oJoin, dMt1, dCall, dCallO, dCallT, argsOf, lent, opt, truth, MO.toD, Rv.toD, putOuts, putMO, List.getElem?_cons_zero, List.getElem?_cons_succ, List.set_cons_zero, List.set_cons_succ, Option.map_some, dIsi, dNo, at0, at1, at2, ix30, ix31, ix32, ends, outW, dComp, dYes, wipeD, back, dMake, dMeth, dLenSetS, oInD, dDict0, dDPut, dGet, dPar3DDO, dProp, dFld, dFldO, dFldSet, dSortSet, daKw, decide_eq_true_eq, shI, shS, shB, shN, eqI, eqS, true_and, List.contains_nil, beq_iff_eq, ↓reduceIte, Bool.false_eq_true]
    refine ev_xt h hi hl ?_
    rw [hb]
    exact q
  | false =>
    rw [hb] at q
    simp only [entry, lend, jr, List.map_cons, List.map_nil, List.length_cons, List.length_nil, List.replicate_succ, List.replicate_zero, List.cons_append, List.nil_append, List.append_nil, Nat.reduceAdd, Nat.reduceSub, Nat.reduceMul, Nat.zero_add, dSeq, dNext, dSet, dSetO, dPut, dPar, dPar3, dParOD, dParOO, dParDO, dIfS, dRet, dRetO, dRetN, dDrop, dBin, dUn, dC, dVar, dCB, dCBO, daCons, daNil, daLend, dats, one, two, oneO, dIxO, dOwn1, dOwn2, fIx, fLen, dBl, dTru, dNot, dAnd, dOr, dIf, dAndV, dOrV, dNotV, dChain, dFr, dTup, dLst, dApp, dPopAt, dFor, diRng1, diRng2, diAny, gN, items, itemsD, oAdd, oSub, oMul, oDiv, oMod, oPow, oNeg, oCmp, oLt, oLe, oGt, oGe, oEq, oNe, oIn, oIsN, oNotN, isN, oIx, oLen, lenD, oInt, oAbs, oInts, oBool, oTuple, oAll, oAny, oSum, oSumA, oSl, dSl, pNo, pSo, oSorted, oList, oJoin, dMt1, dCall, dCallO, dCallT, argsOf, lent, opt, truth, MO.toD, Rv.toD, putOuts, putMO, List.getElem?_cons_zero, List.getElem?_cons_succ, List.set_cons_zero, List.set_cons_succ, Option.map_some, dIsi, dNo, at0, at1, at2, ix30, ix31, ix32, ends, outW, dComp, dYes, wipeD, back, dMake, dMeth, dLenSetS, oInD, dDict0, dDPut, dGet, dPar3DDO, dProp, dFld, dFldO, dFldSet, dSortSet, daKw, decide_eq_true_eq, shI, shS, shB, shN, eqI, eqS, true_and, List.contains_nil, beq_iff_eq, ↓reduceIte, Bool.false_eq_true]
    exact q
theorem bases_at : ∀ i, i < 22 → ([vW.getD i false, vN.getD i false] ++ [vP.getD i false]) = (List.range 3).map fun j => decide (j = xU i) := by decide +kernel
noncomputable def mBases (K : PySem.W.Frag) : DSt := dSeq (dSetO 1 (dLst (daCons (dAndV (dIsX (xt K vW) (dVar 0)) (dIsX (xt K vW) (dVar 0))) daNil))) (dSeq (dDrop (dApp 1 (dAndV (dIsX (xt K vN) (dVar 0)) (dIsX (xt K vN) (dVar 0))))) (dRet (dBin oAdd (dVar 1) (dFr (dLst (daCons (dAndV (dIsX (xt K vP) (dVar 0)) (dIsX (xt K vP) (dVar 0))) daNil))))))
theorem mBases_eq (K : PySem.W.Frag) : m_L_bases K = mBases K := rfl
theorem math_L_bases (K : PySem.W.Frag) : ∀ args Q U, sp_L_bases K args Q U → m_L_bases K (ends args Q U) (entry (List.length N_L_bases) args) := by
  rintro args Q U ⟨⟨p, i, fs⟩, rfl, hi, hQ⟩
  have hi : i < 22 := hi
  have fin : Q (.d (oneOf 3 (xU i))) [] := hQ () trivial
  clear hQ
  rw [mBases_eq]
  show mBases K _ [.dat (excD p (xC K i) fs), .no]
  unfold mBases
  show dAndV _ _ _ _ _
  refine ev_andX rfl hi row_len ?_
  simp only [dAndV, entry, lend, jr, List.map_cons, List.map_nil, List.length_cons, List.length_nil, List.replicate_succ, List.replicate_zero, List.cons_append, List.nil_append, List.append_nil, Nat.reduceAdd, Nat.reduceSub, Nat.reduceMul, Nat.zero_add, dNext, dSet, dSetO, dPut, dPar, dPar3, dParOD, dParOO, dParDO, dRet, dRetO, dRetN, dDrop, dBin, dUn, dC, dVar, dCB, dCBO, daCons, daNil, daLend, dats, one, two, oneO, dIxO, dOwn1, dOwn2, fIx, fLen, dBl, dTru, dNot, dAnd, dOr, dAndV, dOrV, dNotV, dChain, dFr, dTup, dLst, dApp, dPopAt, dFor, diRng1, diRng2, diAny, gN, items, itemsD, oAdd, oSub, oMul, oDiv, oMod, oPow, oNeg, oCmp, oLt, oLe, oGt, oGe, oEq, oNe, oIn, oIsN, oNotN, isN, oIx, oLen, lenD, oInt, oAbs, oInts, oBool, oTuple, oAll, oAny, oSum, oSumA, oSl, dSl, pNo, pSo, oSorted, oList, oJoin, dMt1, dCall, dCallO, dCallT, argsOf, lent, opt, truth, MO.toD, Rv.toD, putOuts, putMO, List.getElem?_cons_zero, List.getElem?_cons_succ, List.set_cons_zero, List.set_cons_succ, Option.map_some, dIsi, dNo, at0, at1, at2, ix30, ix31, ix32, dComp, dYes, wipeD, back, dMake, dMeth, dLenSetS, oInD, dDict0, dDPut, dGet, dPar3DDO, dProp, dFld, dFldO, dFldSet, dSortSet, daKw, decide_eq_true_eq, shI, shS, shB, shN, eqI, eqS, true_and, List.contains_nil, beq_iff_eq, ↓reduceIte, Bool.false_eq_true]
  refine ⟨kilo_line (by decide), fun p1 => ?_⟩
  refine seq_step fun k1 hk1 => ?_
  show dApp 1 _ _ _ _
  unfold dApp
  show dAndV _ _ _ _ _
  refine ev_andX rfl hi row_len ?_
  simp only [entry, lend, jr, List.map_cons, List.map_nil, List.length_cons, List.length_nil, List.replicate_succ, List.replicate_zero, List.cons_append, List.nil_append, List.append_nil, Nat.reduceAdd, Nat.reduceSub, Nat.reduceMul, Nat.zero_add, dNext, dSet, dSetO, dPut, dPar, dPar3, dParOD, dParOO, dParDO, dRet, dRetO, dRetN, dDrop, dBin, dUn, dC, dVar, dCB, dCBO, daCons, daNil, daLend, dats, one, two, oneO, dIxO, dOwn1, dOwn2, fIx, fLen, dBl, dTru, dNot, dAnd, dOr, dAndV, dOrV, dNotV, dChain, dFr, dTup, dLst, dApp, dPopAt, dFor, diRng1, diRng2, diAny, gN, items, itemsD, oAdd, oSub, oMul, oDiv, oMod, oPow, oNeg, oCmp, oLt, oLe, oGt, oGe, oEq, oNe, oIn, oIsN, oNotN, isN, oIx, oLen, lenD, oInt, oAbs, oInts, oBool, oTuple, oAll, oAny, oSum, oSumA, oSl, dSl, pNo, pSo, oSorted, oList, oJoin, dMt1, dCall, dCallO, dCallT, argsOf, lent, opt, truth, MO.toD, Rv.toD, putOuts, putMO, List.getElem?_cons_zero, List.getElem?_cons_succ, List.set_cons_zero, List.set_cons_succ, Option.map_some, dIsi, dNo, at0, at1, at2, ix30, ix31, ix32, dComp, dYes, wipeD, back, dMake, dMeth, dLenSetS, oInD, dDict0, dDPut, dGet, dPar3DDO, dProp, dFld, dFldO, dFldSet, dSortSet, daKw, decide_eq_true_eq, shI, shS, shB, shN, eqI, eqS, true_and, List.contains_nil, beq_iff_eq, ↓reduceIte, Bool.false_eq_true]
  refine ⟨by unfold Fits; omega, hk1 _ ?_⟩
  have fin3 : Q (.d (.lst [.bl (vW.getD i false), .bl (vN.getD i false), .bl (vP.getD i false)])) [] := by
    have e := bases_at i hi
    have e2 : [Dt.bl (vW.getD i false), .bl (vN.getD i false), .bl (vP.getD i false)] = (List.range 3).map fun j => Dt.bl (decide (j = xU i)) := by
      have := congrArg (List.map Dt.bl) e
      rw [List.map_map] at this
      exact this
    rw [e2]
    exact fin
  simp only [entry, lend, jr, List.map_cons, List.map_nil, List.length_cons, List.length_nil, List.replicate_succ, List.replicate_zero, List.cons_append, List.nil_append, List.append_nil, Nat.reduceAdd, Nat.reduceSub, Nat.reduceMul, Nat.zero_add, dSeq, dNext, dSet, dSetO, dPut, dPar, dPar3, dParOD, dParOO, dParDO, dIfS, dRet, dRetO, dRetN, dDrop, dBin, dUn, dC, dVar, dCB, dCBO, daCons, daNil, daLend, dats, one, two, oneO, dIxO, dOwn1, dOwn2, fIx, fLen, dBl, dTru, dNot, dAnd, dOr, dIf, dAndV, dOrV, dNotV, dChain, dFr, dTup, dLst, dApp, dPopAt, dFor, diRng1, diRng2, diAny, gN, items, itemsD, oAdd, oSub, oMul, oDiv, oMod, oPow, oNeg, oCmp, oLt, oLe, oGt, oGe, oEq, oNe, oIn, oIsN, oNotN, isN, oIx, oLen, lenD, oInt, oAbs, oInts, oBool, oTuple, oAll, oAny, oSum, oSumA, oSl, dSl, pNo, pSo, oSorted, oList, oJoin, dMt1, dCall, dCallO, dCallT, argsOf, lent, opt, truth, MO.toD, Rv.toD, putOuts, putMO, List.getElem?_cons_zero, List.getElem?_cons_succ, List.set_cons_zero, List.set_cons_succ, Option.map_some, dIsi, dNo, at0, at1, at2, ix30, ix31, ix32, ends, outW, dComp, dYes, wipeD, back, dMake, dMeth, dLenSetS, oInD, dDict0, dDPut, dGet, dPar3DDO, dProp, dFld, dFldO, dFldSet, dSortSet, daKw, decide_eq_true_eq, shI, shS, shB, shN, eqI, eqS, true_and, List.contains_nil, beq_iff_eq, ↓reduceIte, Bool.false_eq_true]
  refine ev_xt rfl hi row_len ?_
  cases hb : vP.getD i false with
  | true =>
    rw [hb] at fin3
    simp only [entry, lend, jr, List.map_cons, List.map_nil, List.length_cons, List.length_nil, List.replicate_succ, List.replicate_zero, List.cons_append, List.nil_append, List.append_nil, Nat.reduceAdd, Nat.reduceSub, Nat.reduceMul, Nat.zero_add, dSeq, dNext, dSet, dSetO, dPut, dPar, dPar3, dParOD, dParOO, dParDO, dIfS, dRet, dRetO, dRetN, dDrop, dBin, dUn, dC, dVar, dCB, dCBO, daCons, daNil, daLend, dats, one, two, oneO, dIxO, dOwn1, dOwn2, fIx, fLen, dBl, dTru, dNot, dAnd, dOr, dIf, dAndV, dOrV, dNotV, dChain, dFr, dTup, dLst, dApp, dPopAt, dFor, diRng1, diRng2, diAny, gN, items, itemsD, oAdd, oSub, oMul, oDiv, oMod, oPow, oNeg, oCmp, oLt, oLe, oGt, oGe, oEq, oNe, oIn, oIsN, oNotN, isN, oIx, oLen, lenD, oInt, oAbs, oInts, oBool, oTuple, oAll, oAny, oSum, oSumA, oSl, dSl, pNo, pSo, oSorted, oList, oJoin, dMt1, dCall, dCallO, dCallT, argsOf, lent, opt, truth, MO.toD, Rv.toD, putOuts, putMO, List.getElem?_cons_zero, List.getElem?_cons_succ, List.set_cons_zero, List.set_cons_succ, Option.map_some, dIsi, dNo, at0, at1, at2, ix30, ix31, ix32, ends, outW, dComp, dYes, wipeD, back, dMake, dMeth, dLenSetS, oInD, dDict0, dDPut, dGet, dPar3DDO, dProp, dFld, dFldO, dFldSet, dSortSet, daKw, decide_eq_true_eq, shI, shS, shB, shN, eqI, eqS, true_and, List.contains_nil, beq_iff_eq, ↓reduceIte, Bool.false_eq_true]
    refine ev_xt rfl hi row_len ?_
    rw [hb]
    exact ⟨kilo_line (by decide), by unfold Fits; omega, fin3⟩
  | false =>
    rw [hb] at fin3
    simp only [entry, lend, jr, List.map_cons, List.map_nil, List.length_cons, List.length_nil, List.replicate_succ, List.replicate_zero, List.cons_append, List.nil_append, List.append_nil, Nat.reduceAdd, Nat.reduceSub, Nat.reduceMul, Nat.zero_add, dSeq, dNext, dSet, dSetO, dPut, dPar, dPar3, dParOD, dParOO, dParDO, dIfS, dRet, dRetO, dRetN, dDrop, dBin, dUn, dC, dVar, dCB, dCBO, daCons, daNil, daLend, dats, one, two, oneO, dIxO, dOwn1, dOwn2, fIx, fLen, dBl, dTru, dNot, dAnd, dOr, dIf, dAndV, dOrV, dNotV, dChain, dFr, dTup, dLst, dApp, dPopAt, dFor, diRng1, diRng2, diAny, gN, items, itemsD, oAdd, oSub, oMul, oDiv, oMod, oPow, oNeg, oCmp, oLt, oLe, oGt, oGe, oEq, oNe, oIn, oIsN, oNotN, isN, oIx, oLen, lenD, oInt, oAbs, oInts, oBool, oTuple, oAll, oAny, oSum, oSumA, oSl, dSl, pNo, pSo, oSorted, oList, oJoin, dMt1, dCall, dCallO, dCallT, argsOf, lent, opt, truth, MO.toD, Rv.toD, putOuts, putMO, List.getElem?_cons_zero, List.getElem?_cons_succ, List.set_cons_zero, List.set_cons_succ, Option.map_some, dIsi, dNo, at0, at1, at2, ix30, ix31, ix32, ends, outW, dComp, dYes, wipeD, back, dMake, dMeth, dLenSetS, oInD, dDict0, dDPut, dGet, dPar3DDO, dProp, dFld, dFldO, dFldSet, dSortSet, daKw, decide_eq_true_eq, shI, shS, shB, shN, eqI, eqS, true_and, List.contains_nil, beq_iff_eq, ↓reduceIte, Bool.false_eq_true]
    exact ⟨kilo_line (by decide), by unfold Fits; omega, fin3⟩
/-! ### what an error keeps -/
theorem ev_xf {ρ : En} {R : Dt → En → Prop} {U : XP} {Cs : List Addr} {f : Str} {i : Nat} {p C : Addr} {fs : List (Str × Dt)} {d : Dt} (h : ρ[i]? = some (.dat (excD p C fs))) (m : C ∈ Cs) (l : fs.lookup f = some d) (q : R d ρ) : dXfX Cs f (dVar i) ρ R U := by
  unfold dXfX dVar
  rw [h]
  refine ⟨p, C, fs, rfl, m, ?_⟩
  rw [l]
  exact q
theorem math_L_kept (K : PySem.W.Frag) : ∀ args Q U, sp_L_kept K args Q U → m_L_kept K (ends args Q U) (entry (List.length N_L_kept) args) := by
  rintro args Q U ⟨⟨p, i, d⟩, rfl, hi, hQ⟩
  have hi : i < 18 := hi
  have fin : Q (.d d) [] := hQ () trivial
  clear hQ
  unfold m_L_kept
  show dIf _ _ _ _ _ _
  refine ifv_step fun kb kt kf => ?_
  simp only [entry, lend, jr, List.map_cons, List.map_nil, List.length_cons, List.length_nil, List.replicate_succ, List.replicate_zero, List.cons_append, List.nil_append, List.append_nil, Nat.reduceAdd, Nat.reduceSub, Nat.reduceMul, Nat.zero_add, dNext, dSet, dSetO, dPut, dPar, dPar3, dParOD, dParOO, dParDO, dRet, dRetO, dRetN, dDrop, dBin, dUn, dC, dVar, dCB, dCBO, daCons, daNil, daLend, dats, one, two, oneO, dIxO, dOwn1, dOwn2, fIx, fLen, dBl, dTru, dNot, dAnd, dOr, dAndV, dOrV, dNotV, dChain, dFr, dTup, dLst, dApp, dPopAt, dFor, diRng1, diRng2, diAny, gN, items, itemsD, oAdd, oSub, oMul, oDiv, oMod, oPow, oNeg, oCmp, oLt, oLe, oGt, oGe, oEq, oNe, oIn, oIsN, oNotN, isN, oIx, oLen, lenD, oInt, oAbs, oInts, oBool, oTuple, oAll, oAny, oSum, oSumA, oSl, dSl, pNo, pSo, oSorted, oList, oJoin, dMt1, dCall, dCallO, dCallT, argsOf, lent, opt, truth, MO.toD, Rv.toD, putOuts, putMO, List.getElem?_cons_zero, List.getElem?_cons_succ, List.set_cons_zero, List.set_cons_succ, Option.map_some, dIsi, dNo, at0, at1, at2, ix30, ix31, ix32, dComp, dYes, wipeD, back, dMake, dMeth, dLenSetS, oInD, dDict0, dDPut, dGet, dPar3DDO, dProp, dFld, dFldO, dFldSet, dSortSet, daKw, decide_eq_true_eq, shI, shS, shB, shN, eqI, eqS, true_and, List.contains_nil, beq_iff_eq, ↓reduceIte, Bool.false_eq_true]
  have hy : (8 < i ∧ i < 12) ∨ i = 17 → kb true [.dat (excD p (xC K i) [(xF i, d)]), .dat (.int (i : Int))] := fun h => kt _ (by
    refine ev_xf rfl ?_ (by unfold xF; rw [if_pos h]; exact List.lookup_cons_self) fin
    have : i = 9 ∨ i = 10 ∨ i = 11 ∨ i = 17 := by omega
    rcases this with rfl | rfl | rfl | rfl
    · exact List.mem_of_getElem? (i := 0) rfl
    · exact List.mem_of_getElem? (i := 1) rfl
    · exact List.mem_of_getElem? (i := 2) rfl
    · exact List.mem_of_getElem? (i := 3) rfl)
  have hn : ¬ ((8 < i ∧ i < 12) ∨ i = 17) → kb false [.dat (excD p (xC K i) [(xF i, d)]), .dat (.int (i : Int))] := fun h => kf _ (by
    refine ev_xf rfl ?_ (by unfold xF; rw [if_neg h]; exact List.lookup_cons_self) fin
    have : i = 0 ∨ i = 1 ∨ i = 2 ∨ i = 3 ∨ i = 4 ∨ i = 5 ∨ i = 6 ∨ i = 7 ∨ i = 8 ∨ i = 12 ∨ i = 13 ∨ i = 14 ∨ i = 15 ∨ i = 16 := by omega
    rcases this with rfl | rfl | rfl | rfl | rfl | rfl | rfl | rfl | rfl | rfl | rfl | rfl | rfl | rfl
    · exact List.mem_of_getElem? (i := 0) rfl
    · exact List.mem_of_getElem? (i := 1) rfl
    · exact List.mem_of_getElem? (i := 2) rfl
    · exact List.mem_of_getElem? (i := 3) rfl
    · exact List.mem_of_getElem? (i := 4) rfl
    · exact List.mem_of_getElem? (i := 5) rfl
    · exact List.mem_of_getElem? (i := 6) rfl
    · exact List.mem_of_getElem? (i := 7) rfl
    · exact List.mem_of_getElem? (i := 8) rfl
    · exact List.mem_of_getElem? (i := 9) rfl
    · exact List.mem_of_getElem? (i := 10) rfl
    · exact List.mem_of_getElem? (i := 11) rfl
    · exact List.mem_of_getElem? (i := 12) rfl
    · exact List.mem_of_getElem? (i := 13) rfl)
  have h17 : ((i : Int) == 17) = decide (i = 17) := by
    by_cases e : i = 17
    · rw [e]; rfl
    · rw [decide_eq_false e]
      have : ¬ (i : Int) = 17 := by omega
      simpa using this
  rw [h17]
  have end17 : ¬ (8 < i ∧ i < 12) → kb (decide (i = 17)) [.dat (excD p (xC K i) [(xF i, d)]), .dat (.int (i : Int))] := fun h => by
    by_cases e : i = 17
    · rw [decide_eq_true e]; exact hy (.inr e)
    · rw [decide_eq_false e]; exact hn (fun z => z.elim h e)
  by_cases h8 : (8 : Int) < i
  · rw [decide_eq_true h8]
    dsimp only
    by_cases h12 : (i : Int) < 12
    · rw [if_pos h12]; exact hy (.inl ⟨by omega, by omega⟩)
    · rw [if_neg h12]; exact end17 (by omega)
  · rw [decide_eq_false h8]
    dsimp only
    exact end17 (by omega)
/-! ### an error of each class -/
def pick (ps : List Addr) (i : Nat) : Addr := ps.getD i 0
theorem math_L_by_place (K : PySem.W.Frag) : ∀ args Q U, sp_L_by_place K args Q U → m_L_by_place K (ends args Q U) (entry (List.length N_L_by_place) args) := by
  rintro args Q U ⟨⟨a, b⟩, rfl, _, hQ⟩
  have fin : ∀ ps : List Addr, Q (.d (.lst (xvals K (pick ps) a b))) [] := fun ps => hQ (pick ps) trivial
  clear hQ
  unfold m_L_by_place
  simp only [dMkX, entry, lend, jr, List.map_cons, List.map_nil, List.length_cons, List.length_nil, List.replicate_succ, List.replicate_zero, List.cons_append, List.nil_append, List.append_nil, Nat.reduceAdd, Nat.reduceSub, Nat.reduceMul, Nat.zero_add, dSeq, dNext, dSet, dSetO, dPut, dPar, dPar3, dParOD, dParOO, dParDO, dIfS, dRet, dRetO, dRetN, dDrop, dBin, dUn, dC, dVar, dCB, dCBO, daCons, daNil, daLend, dats, one, two, oneO, dIxO, dOwn1, dOwn2, fIx, fLen, dBl, dTru, dNot, dAnd, dOr, dIf, dAndV, dOrV, dNotV, dChain, dFr, dTup, dLst, dApp, dPopAt, dFor, diRng1, diRng2, diAny, gN, items, itemsD, oAdd, oSub, oMul, oDiv, oMod, oPow, oNeg, oCmp, oLt, oLe, oGt, oGe, oEq, oNe, oIn, oIsN, oNotN, isN, oIx, oLen, lenD, oInt, oAbs, oInts, oBool, oTuple, oAll, oAny, oSum, oSumA, oSl, dSl, pNo, pSo, oSorted, oList, oJoin, dMt1, dCall, dCallO, dCallT, argsOf, lent, opt, truth, MO.toD, Rv.toD, putOuts, putMO, List.getElem?_cons_zero, List.getElem?_cons_succ, List.set_cons_zero, List.set_cons_succ, Option.map_some, dIsi, dNo, at0, at1, at2, ix30, ix31, ix32, ends, outW, dComp, dYes, wipeD, back, dMake, dMeth, dLenSetS, oInD, dDict0, dDPut, dGet, dPar3DDO, dProp, dFld, dFldO, dFldSet, dSortSet, daKw, decide_eq_true_eq, shI, shS, shB, shN, eqI, eqS, true_and, List.contains_nil, beq_iff_eq, ↓reduceIte, Bool.false_eq_true]
  intro p0 p1 p2 p3
  refine ⟨kilo_line (by decide), fun p4 p5 p6 p7 => ⟨kilo_line (by decide), by unfold Fits; omega, fun p8 p9 p10 p11 => ⟨kilo_line (by decide), by unfold Fits; omega, fun p12 p13 p14 p15 => ⟨kilo_line (by decide), by unfold Fits; omega, fun p16 p17 => ⟨kilo_line (by decide), by unfold Fits; omega, ?_⟩⟩⟩⟩⟩
  exact fin [p0, p1, p2, p3, p4, p5, p6, p7, p8, p9, p10, p11, p12, p13, p14, p15, p16, p17]
theorem math_L_by_word (K : PySem.W.Frag) : ∀ args Q U, sp_L_by_word K args Q U → m_L_by_word K (ends args Q U) (entry (List.length N_L_by_word) args) := by
  rintro args Q U ⟨⟨a, b⟩, rfl, _, hQ⟩
  have fin : ∀ ps : List Addr, Q (.d (.lst (xvals K (pick ps) a b))) [] := fun ps => hQ (pick ps) trivial
  clear hQ
  unfold m_L_by_word
  simp only [dMkX, entry, lend, jr, List.map_cons, List.map_nil, List.length_cons, List.length_nil, List.replicate_succ, List.replicate_zero, List.cons_append, List.nil_append, List.append_nil, Nat.reduceAdd, Nat.reduceSub, Nat.reduceMul, Nat.zero_add, dSeq, dNext, dSet, dSetO, dPut, dPar, dPar3, dParOD, dParOO, dParDO, dIfS, dRet, dRetO, dRetN, dDrop, dBin, dUn, dC, dVar, dCB, dCBO, daCons, daNil, daLend, dats, one, two, oneO, dIxO, dOwn1, dOwn2, fIx, fLen, dBl, dTru, dNot, dAnd, dOr, dIf, dAndV, dOrV, dNotV, dChain, dFr, dTup, dLst, dApp, dPopAt, dFor, diRng1, diRng2, diAny, gN, items, itemsD, oAdd, oSub, oMul, oDiv, oMod, oPow, oNeg, oCmp, oLt, oLe, oGt, oGe, oEq, oNe, oIn, oIsN, oNotN, isN, oIx, oLen, lenD, oInt, oAbs, oInts, oBool, oTuple, oAll, oAny, oSum, oSumA, oSl, dSl, pNo, pSo, oSorted, oList, oJoin, dMt1, dCall, dCallO, dCallT, argsOf, lent, opt, truth, MO.toD, Rv.toD, putOuts, putMO, List.getElem?_cons_zero, List.getElem?_cons_succ, List.set_cons_zero, List.set_cons_succ, Option.map_some, dIsi, dNo, at0, at1, at2, ix30, ix31, ix32, ends, outW, dComp, dYes, wipeD, back, dMake, dMeth, dLenSetS, oInD, dDict0, dDPut, dGet, dPar3DDO, dProp, dFld, dFldO, dFldSet, dSortSet, daKw, decide_eq_true_eq, shI, shS, shB, shN, eqI, eqS, true_and, List.contains_nil, beq_iff_eq, ↓reduceIte, Bool.false_eq_true]
  intro p0 p1 p2
  refine ⟨kilo_line (by decide), fun p3 p4 p5 => ⟨kilo_line (by decide), by unfold Fits; omega, fun p6 p7 p8 => ⟨kilo_line (by decide), by unfold Fits; omega, fun p9 p10 p11 => ⟨kilo_line (by decide), by unfold Fits; omega, fun p12 p13 p14 => ⟨kilo_line (by decide), by unfold Fits; omega, fun p15 p16 p17 => ⟨kilo_line (by decide), by unfold Fits; omega, ?_⟩⟩⟩⟩⟩⟩
  exact fin [p0, p1, p2, p3, p4, p5, p6, p7, p8, p9, p10, p11, p12, p13, p14, p15, p16, p17]
theorem use_bases {K : PySem.W.Frag} {p : Addr} {i : Nat} {fs : List (Str × Dt)} {Q : Rv → List MO → Prop} {U : Xn → List MO → Prop} (hi : i < 22) (q : Q (.d (oneOf 3 (xU i))) []) : sp_L_bases K [.dat (excD p (xC K i) fs)] Q U :=
  use_F (A := fun x : XV => [.dat (excD x.1 (xC K x.2.1) x.2.2)]) (C := fun x : XV => x.2.1 < 22) (p, i, fs) hi q
theorem use_sorts {K : PySem.W.Frag} {p : Addr} {i : Nat} {fs : List (Str × Dt)} {Q : Rv → List MO → Prop} {U : Xn → List MO → Prop} (hi : i < 19) (q : Q (.d (oneOf 19 i)) []) : sp_L_sorts K [.dat (excD p (xC K i) fs)] Q U :=
  use_F (A := fun x : XV => [.dat (excD x.1 (xC K x.2.1) x.2.2)]) (C := fun x : XV => x.2.1 < 19) (p, i, fs) hi q
theorem use_kept {K : PySem.W.Frag} {p : Addr} {i : Nat} {d : Dt} {Q : Rv → List MO → Prop} {U : Xn → List MO → Prop} (hi : i < 18) (q : Q (.d d) []) : sp_L_kept K [.dat (excD p (xC K i) [(xF i, d)]), .dat (.int (i : Nat))] Q U :=
  use_F (A := fun x : Addr × Nat × Dt => [.dat (excD x.1 (xC K x.2.1) [(xF x.2.1, x.2.2)]), .dat (.int (x.2.1 : Nat))]) (C := fun x : Addr × Nat × Dt => x.2.1 < 18) (p, i, d) hi q

/-! ### k01: the law -/
theorem use_odd {K : PySem.W.Frag} {b : Bool} {p : Addr} {j : Jr} {Q : Rv → List MO → Prop} {U : Xn → List MO → Prop} (h : ∀ (d : Dt) (j : Jr), Vl d → Q (.d d) [jr j]) : sp_L_odd K [.own b p (jr j)] Q U :=
  ⟨((b, p, j), ()), rfl, trivial, fun y hy => h y.1 y.2 hy⟩
theorem made_at {K : PySem.W.Frag} {ps : Nat → Addr} {q : Addr} {a b : Dt} {i : Nat} (hi : i < 19) : ∃ p fs, L2.atI (xvals K ps a b ++ [excD q (xC K 18) []]) (i : Int) = some (excD p (xC K i) fs) ∧ (i < 18 → fs = [(xF i, if i % 2 = 0 then a else b)]) := by
  have lx : (xvals K ps a b).length = 18 := by unfold xvals; simp
  rw [atN]
  by_cases h : i < 18
  · refine ⟨ps i, _, ?_, fun _ => rfl⟩
    rw [List.getElem?_append_left (by omega)]
    unfold xvals
    rw [List.getElem?_map, List.getElem?_range h]
    rfl
  · obtain rfl : i = 18 := by omega
    refine ⟨q, [], ?_, fun z => absurd z h⟩
    rw [List.getElem?_append_right (by omega), lx]
    rfl
theorem one_sh7 (n k : Nat) : Sh 7 (oneOf n k) := fun d hd => by
  obtain ⟨j, _, rfl⟩ := List.mem_map.mp hd
  rw [shB]
  trivial
theorem one_sh (n k : Nat) : Sh 8 (oneOf n k) := fun d hd => by
  obtain ⟨j, _, rfl⟩ := List.mem_map.mp hd
  rw [shB]
  trivial
theorem bls_eq : ∀ l : List Bool, eqDs (l.map Dt.bl) (l.map Dt.bl) = true
  | [] => by simp [eqDs]
  | b :: l => by
    simp only [List.map_cons, eqDs, eqBl, beq_self_eq_true, bls_eq l, Bool.and_self]
theorem one_eq (n k : Nat) : eqD (oneOf n k) (oneOf n k) = true := by
  unfold oneOf
  have e : (List.range n).map (fun j => Dt.bl (decide (j = k))) = ((List.range n).map fun j => decide (j = k)).map Dt.bl := by
    rw [List.map_map]
    rfl
  rw [e]
  simp only [eqD]
  exact bls_eq _
def isI (k : Nat) : Dt → Dt
  | .int x => .bl (x == (k : Int))
  | _ => .bl false
theorem one_comp (n k : Nat) : ((rangeD 0 n).filter fun _ => true).map (isI k) = (List.range n).map fun j => Dt.bl (decide (j = k)) := by
  rw [List.filter_eq_self.mpr (fun _ _ => rfl)]
  unfold rangeD
  rw [List.map_map]
  refine List.map_congr_left fun j _ => ?_
  show Dt.bl ((0 : Int) + (j : Int) == (k : Int)) = _
  congr 1
  by_cases e : j = k
  · rw [e, decide_eq_true rfl]
    simp
  · rw [decide_eq_false e]
    have : ¬ (0 : Int) + j = k := by omega
    simpa using this
theorem math_L_right (K : PySem.W.Frag) : ∀ args Q U, sp_L_right K args Q U → m_L_right K (ends args Q U) (entry (List.length N_L_right) args) := by
  rintro args Q U ⟨⟨⟨bb, p, j⟩, x⟩, rfl, _, hQ⟩
  have fin : ∀ j : Jr, Q (.d (.bl true)) [jr j] := fun j => hQ ((), j) trivial
  clear hQ
  unfold m_L_right
  refine seq_step fun k1 hk1 => ?_
  simp only [entry, lend, jr, List.map_cons, List.map_nil, List.length_cons, List.length_nil, List.replicate_succ, List.replicate_zero, List.cons_append, List.nil_append, List.append_nil, Nat.reduceAdd, Nat.reduceSub, Nat.reduceMul, Nat.zero_add, dNext, dSet, dSetO, dPut, dPar, dPar3, dParOD, dParOO, dParDO, dRet, dRetO, dRetN, dDrop, dBin, dUn, dC, dVar, dCB, dCBO, daCons, daNil, daLend, dats, one, two, oneO, dIxO, dOwn1, dOwn2, fIx, fLen, dBl, dTru, dNot, dAnd, dOr, dAndV, dOrV, dNotV, dChain, dFr, dTup, dLst, dApp, dPopAt, dFor, diRng1, diRng2, diAny, gN, items, itemsD, oAdd, oSub, oMul, oDiv, oMod, oPow, oNeg, oCmp, oLt, oLe, oGt, oGe, oEq, oNe, oIn, oIsN, oNotN, isN, oIx, oLen, lenD, oInt, oAbs, oInts, oBool, oTuple, oAll, oAny, oSum, oSumA, oSl, dSl, pNo, pSo, oSorted, oList, oJoin, dMt1, dCall, dCallO, dCallT, argsOf, lent, opt, truth, MO.toD, Rv.toD, putOuts, putMO, List.getElem?_cons_zero, List.getElem?_cons_succ, List.set_cons_zero, List.set_cons_succ, Option.map_some, dIsi, dNo, at0, at1, at2, ix30, ix31, ix32, dComp, dYes, wipeD, back, dMake, dMeth, dLenSetS, oInD, dDict0, dDPut, dGet, dPar3DDO, dProp, dFld, dFldO, dFldSet, dSortSet, daKw, decide_eq_true_eq, shI, shS, shB, shN, eqI, eqS, true_and, List.contains_nil, beq_iff_eq, ↓reduceIte, Bool.false_eq_true]
  refine use_odd (j := (_, _, _)) fun a j1 va => ?_
  simp only [entry, lend, jr, List.map_cons, List.map_nil, List.length_cons, List.length_nil, List.replicate_succ, List.replicate_zero, List.cons_append, List.nil_append, List.append_nil, Nat.reduceAdd, Nat.reduceSub, Nat.reduceMul, Nat.zero_add, dNext, dSet, dSetO, dPut, dPar, dPar3, dParOD, dParOO, dParDO, dRet, dRetO, dRetN, dDrop, dBin, dUn, dC, dVar, dCB, dCBO, daCons, daNil, daLend, dats, one, two, oneO, dIxO, dOwn1, dOwn2, fIx, fLen, dBl, dTru, dNot, dAnd, dOr, dAndV, dOrV, dNotV, dChain, dFr, dTup, dLst, dApp, dPopAt, dFor, diRng1, diRng2, diAny, gN, items, itemsD, oAdd, oSub, oMul, oDiv, oMod, oPow, oNeg, oCmp, oLt, oLe, oGt, oGe, oEq, oNe, oIn, oIsN, oNotN, isN, oIx, oLen, lenD, oInt, oAbs, oInts, oBool, oTuple, oAll, oAny, oSum, oSumA, oSl, dSl, pNo, pSo, oSorted, oList, oJoin, dMt1, dCall, dCallO, dCallT, argsOf, lent, opt, truth, MO.toD, Rv.toD, putOuts, putMO, List.getElem?_cons_zero, List.getElem?_cons_succ, List.set_cons_zero, List.set_cons_succ, Option.map_some, dIsi, dNo, at0, at1, at2, ix30, ix31, ix32, dComp, dYes, wipeD, back, dMake, dMeth, dLenSetS, oInD, dDict0, dDPut, dGet, dPar3DDO, dProp, dFld, dFldO, dFldSet, dSortSet, daKw, decide_eq_true_eq, shI, shS, shB, shN, eqI, eqS, true_and, List.contains_nil, beq_iff_eq, ↓reduceIte, Bool.false_eq_true]
  refine use_odd (j := (_, _, _)) fun c j2 vc => ?_
  simp only [entry, lend, jr, List.map_cons, List.map_nil, List.length_cons, List.length_nil, List.replicate_succ, List.replicate_zero, List.cons_append, List.nil_append, List.append_nil, Nat.reduceAdd, Nat.reduceSub, Nat.reduceMul, Nat.zero_add, dNext, dSet, dSetO, dPut, dPar, dPar3, dParOD, dParOO, dParDO, dRet, dRetO, dRetN, dDrop, dBin, dUn, dC, dVar, dCB, dCBO, daCons, daNil, daLend, dats, one, two, oneO, dIxO, dOwn1, dOwn2, fIx, fLen, dBl, dTru, dNot, dAnd, dOr, dAndV, dOrV, dNotV, dChain, dFr, dTup, dLst, dApp, dPopAt, dFor, diRng1, diRng2, diAny, gN, items, itemsD, oAdd, oSub, oMul, oDiv, oMod, oPow, oNeg, oCmp, oLt, oLe, oGt, oGe, oEq, oNe, oIn, oIsN, oNotN, isN, oIx, oLen, lenD, oInt, oAbs, oInts, oBool, oTuple, oAll, oAny, oSum, oSumA, oSl, dSl, pNo, pSo, oSorted, oList, oJoin, dMt1, dCall, dCallO, dCallT, argsOf, lent, opt, truth, MO.toD, Rv.toD, putOuts, putMO, List.getElem?_cons_zero, List.getElem?_cons_succ, List.set_cons_zero, List.set_cons_succ, Option.map_some, dIsi, dNo, at0, at1, at2, ix30, ix31, ix32, dComp, dYes, wipeD, back, dMake, dMeth, dLenSetS, oInD, dDict0, dDPut, dGet, dPar3DDO, dProp, dFld, dFldO, dFldSet, dSortSet, daKw, decide_eq_true_eq, shI, shS, shB, shN, eqI, eqS, true_and, List.contains_nil, beq_iff_eq, ↓reduceIte, Bool.false_eq_true]
  refine hk1 _ (seq_step fun k2 hk2 => ?_)
  simp only [entry, lend, jr, List.map_cons, List.map_nil, List.length_cons, List.length_nil, List.replicate_succ, List.replicate_zero, List.cons_append, List.nil_append, List.append_nil, Nat.reduceAdd, Nat.reduceSub, Nat.reduceMul, Nat.zero_add, dNext, dSet, dSetO, dPut, dPar, dPar3, dParOD, dParOO, dParDO, dRet, dRetO, dRetN, dDrop, dBin, dUn, dC, dVar, dCB, dCBO, daCons, daNil, daLend, dats, one, two, oneO, dIxO, dOwn1, dOwn2, fIx, fLen, dBl, dTru, dNot, dAnd, dOr, dAndV, dOrV, dNotV, dChain, dFr, dTup, dLst, dApp, dPopAt, dFor, diRng1, diRng2, diAny, gN, items, itemsD, oAdd, oSub, oMul, oDiv, oMod, oPow, oNeg, oCmp, oLt, oLe, oGt, oGe, oEq, oNe, oIn, oIsN, oNotN, isN, oIx, oLen, lenD, oInt, oAbs, oInts, oBool, oTuple, oAll, oAny, oSum, oSumA, oSl, dSl, pNo, pSo, oSorted, oList, oJoin, dMt1, dCall, dCallO, dCallT, argsOf, lent, opt, truth, MO.toD, Rv.toD, putOuts, putMO, List.getElem?_cons_zero, List.getElem?_cons_succ, List.set_cons_zero, List.set_cons_succ, Option.map_some, dIsi, dNo, at0, at1, at2, ix30, ix31, ix32, dComp, dYes, wipeD, back, dMake, dMeth, dLenSetS, oInD, dDict0, dDPut, dGet, dPar3DDO, dProp, dFld, dFldO, dFldSet, dSortSet, daKw, decide_eq_true_eq, shI, shS, shB, shN, eqI, eqS, true_and, List.contains_nil, beq_iff_eq, ↓reduceIte, Bool.false_eq_true]
  refine ⟨(a, c), rfl, trivial, fun ps _ => ?_⟩
  simp only [entry, lend, jr, List.map_cons, List.map_nil, List.length_cons, List.length_nil, List.replicate_succ, List.replicate_zero, List.cons_append, List.nil_append, List.append_nil, Nat.reduceAdd, Nat.reduceSub, Nat.reduceMul, Nat.zero_add, dNext, dSet, dSetO, dPut, dPar, dPar3, dParOD, dParOO, dParDO, dRet, dRetO, dRetN, dDrop, dBin, dUn, dC, dVar, dCB, dCBO, daCons, daNil, daLend, dats, one, two, oneO, dIxO, dOwn1, dOwn2, fIx, fLen, dBl, dTru, dNot, dAnd, dOr, dAndV, dOrV, dNotV, dChain, dFr, dTup, dLst, dApp, dPopAt, dFor, diRng1, diRng2, diAny, gN, items, itemsD, oAdd, oSub, oMul, oDiv, oMod, oPow, oNeg, oCmp, oLt, oLe, oGt, oGe, oEq, oNe, oIn, oIsN, oNotN, isN, oIx, oLen, lenD, oInt, oAbs, oInts, oBool, oTuple, oAll, oAny, oSum, oSumA, oSl, dSl, pNo, pSo, oSorted, oList, oJoin, dMt1, dCall, dCallO, dCallT, argsOf, lent, opt, truth, MO.toD, Rv.toD, putOuts, putMO, List.getElem?_cons_zero, List.getElem?_cons_succ, List.set_cons_zero, List.set_cons_succ, Option.map_some, dIsi, dNo, at0, at1, at2, ix30, ix31, ix32, dComp, dYes, wipeD, back, dMake, dMeth, dLenSetS, oInD, dDict0, dDPut, dGet, dPar3DDO, dProp, dFld, dFldO, dFldSet, dSortSet, daKw, decide_eq_true_eq, shI, shS, shB, shN, eqI, eqS, true_and, List.contains_nil, beq_iff_eq, ↓reduceIte, Bool.false_eq_true]
  refine ⟨(a, c), rfl, trivial, fun ps' _ => ?_⟩
  simp only [entry, lend, jr, List.map_cons, List.map_nil, List.length_cons, List.length_nil, List.replicate_succ, List.replicate_zero, List.cons_append, List.nil_append, List.append_nil, Nat.reduceAdd, Nat.reduceSub, Nat.reduceMul, Nat.zero_add, dNext, dSet, dSetO, dPut, dPar, dPar3, dParOD, dParOO, dParDO, dRet, dRetO, dRetN, dDrop, dBin, dUn, dC, dVar, dCB, dCBO, daCons, daNil, daLend, dats, one, two, oneO, dIxO, dOwn1, dOwn2, fIx, fLen, dBl, dTru, dNot, dAnd, dOr, dAndV, dOrV, dNotV, dChain, dFr, dTup, dLst, dApp, dPopAt, dFor, diRng1, diRng2, diAny, gN, items, itemsD, oAdd, oSub, oMul, oDiv, oMod, oPow, oNeg, oCmp, oLt, oLe, oGt, oGe, oEq, oNe, oIn, oIsN, oNotN, isN, oIx, oLen, lenD, oInt, oAbs, oInts, oBool, oTuple, oAll, oAny, oSum, oSumA, oSl, dSl, pNo, pSo, oSorted, oList, oJoin, dMt1, dCall, dCallO, dCallT, argsOf, lent, opt, truth, MO.toD, Rv.toD, putOuts, putMO, List.getElem?_cons_zero, List.getElem?_cons_succ, List.set_cons_zero, List.set_cons_succ, Option.map_some, dIsi, dNo, at0, at1, at2, ix30, ix31, ix32, dComp, dYes, wipeD, back, dMake, dMeth, dLenSetS, oInD, dDict0, dDPut, dGet, dPar3DDO, dProp, dFld, dFldO, dFldSet, dSortSet, daKw, decide_eq_true_eq, shI, shS, shB, shN, eqI, eqS, true_and, List.contains_nil, beq_iff_eq, ↓reduceIte, Bool.false_eq_true]
  refine ⟨kilo_line (by decide), ?_⟩
  refine loop_ind (fun ds ρ => (∀ d ∈ ds, ∃ ps, d = .lst (xvals K ps a c)) ∧ ∃ s1 s4 s5 s6 : Sl, ρ = [.own true p (jr j2), s1, .dat a, .dat c, s4, s5, s6, .no]) ?_ ?_ _ _ ⟨fun d hd => ?_, _, _, _, _, rfl⟩
  · rintro ρ ⟨_, s1, s4, s5, s6, rfl⟩
    refine hk2 _ ?_
    simp only [entry, lend, jr, List.map_cons, List.map_nil, List.length_cons, List.length_nil, List.replicate_succ, List.replicate_zero, List.cons_append, List.nil_append, List.append_nil, Nat.reduceAdd, Nat.reduceSub, Nat.reduceMul, Nat.zero_add, dSeq, dNext, dSet, dSetO, dPut, dPar, dPar3, dParOD, dParOO, dParDO, dIfS, dRet, dRetO, dRetN, dDrop, dBin, dUn, dC, dVar, dCB, dCBO, daCons, daNil, daLend, dats, one, two, oneO, dIxO, dOwn1, dOwn2, fIx, fLen, dBl, dTru, dNot, dAnd, dOr, dIf, dAndV, dOrV, dNotV, dChain, dFr, dTup, dLst, dApp, dPopAt, dFor, diRng1, diRng2, diAny, gN, items, itemsD, oAdd, oSub, oMul, oDiv, oMod, oPow, oNeg, oCmp, oLt, oLe, oGt, oGe, oEq, oNe, oIn, oIsN, oNotN, isN, oIx, oLen, lenD, oInt, oAbs, oInts, oBool, oTuple, oAll, oAny, oSum, oSumA, oSl, dSl, pNo, pSo, oSorted, oList, oJoin, dMt1, dCall, dCallO, dCallT, argsOf, lent, opt, truth, MO.toD, Rv.toD, putOuts, putMO, List.getElem?_cons_zero, List.getElem?_cons_succ, List.set_cons_zero, List.set_cons_succ, Option.map_some, dIsi, dNo, at0, at1, at2, ix30, ix31, ix32, ends, outW, dComp, dYes, wipeD, back, dMake, dMeth, dLenSetS, oInD, dDict0, dDPut, dGet, dPar3DDO, dProp, dFld, dFldO, dFldSet, dSortSet, daKw, decide_eq_true_eq, shI, shS, shB, shN, eqI, eqS, true_and, List.contains_nil, beq_iff_eq, ↓reduceIte, Bool.false_eq_true]
    exact fin j2
  · rintro d ds ρ k ⟨hd, s1, s4, s5, s6, rfl⟩ hk
    obtain ⟨qs, rfl⟩ := hd d List.mem_cons_self
    have lx : (xvals K qs a c).length = 18 := by unfold xvals; simp
    refine seq_step fun k3 hk3 => ?_
    simp only [dMkX0, entry, lend, jr, List.map_cons, List.map_nil, List.length_cons, List.length_nil, List.replicate_succ, List.replicate_zero, List.cons_append, List.nil_append, List.append_nil, Nat.reduceAdd, Nat.reduceSub, Nat.reduceMul, Nat.zero_add, dNext, dSet, dSetO, dPut, dPar, dPar3, dParOD, dParOO, dParDO, dRet, dRetO, dRetN, dDrop, dBin, dUn, dC, dVar, dCB, dCBO, daCons, daNil, daLend, dats, one, two, oneO, dIxO, dOwn1, dOwn2, fIx, fLen, dBl, dTru, dNot, dAnd, dOr, dAndV, dOrV, dNotV, dChain, dFr, dTup, dLst, dApp, dPopAt, dFor, diRng1, diRng2, diAny, gN, items, itemsD, oAdd, oSub, oMul, oDiv, oMod, oPow, oNeg, oCmp, oLt, oLe, oGt, oGe, oEq, oNe, oIn, oIsN, oNotN, isN, oIx, oLen, lenD, oInt, oAbs, oInts, oBool, oTuple, oAll, oAny, oSum, oSumA, oSl, dSl, pNo, pSo, oSorted, oList, oJoin, dMt1, dCall, dCallO, dCallT, argsOf, lent, opt, truth, MO.toD, Rv.toD, putOuts, putMO, List.getElem?_cons_zero, List.getElem?_cons_succ, List.set_cons_zero, List.set_cons_succ, Option.map_some, dIsi, dNo, at0, at1, at2, ix30, ix31, ix32, dComp, dYes, wipeD, back, dMake, dMeth, dLenSetS, oInD, dDict0, dDPut, dGet, dPar3DDO, dProp, dFld, dFldO, dFldSet, dSortSet, daKw, decide_eq_true_eq, shI, shS, shB, shN, eqI, eqS, true_and, List.contains_nil, beq_iff_eq, ↓reduceIte, Bool.false_eq_true]
    intro q
    refine ⟨kilo_line (by decide), by unfold Fits; rw [lx]; omega, hk3 _ ?_⟩
    simp only [entry, lend, jr, List.map_cons, List.map_nil, List.length_cons, List.length_nil, List.replicate_succ, List.replicate_zero, List.cons_append, List.nil_append, List.append_nil, Nat.reduceAdd, Nat.reduceSub, Nat.reduceMul, Nat.zero_add, dNext, dSet, dSetO, dPut, dPar, dPar3, dParOD, dParOO, dParDO, dRet, dRetO, dRetN, dDrop, dBin, dUn, dC, dVar, dCB, dCBO, daCons, daNil, daLend, dats, one, two, oneO, dIxO, dOwn1, dOwn2, fIx, fLen, dBl, dTru, dNot, dAnd, dOr, dAndV, dOrV, dNotV, dChain, dFr, dTup, dLst, dApp, dPopAt, dFor, diRng1, diRng2, diAny, gN, items, itemsD, oAdd, oSub, oMul, oDiv, oMod, oPow, oNeg, oCmp, oLt, oLe, oGt, oGe, oEq, oNe, oIn, oIsN, oNotN, isN, oIx, oLen, lenD, oInt, oAbs, oInts, oBool, oTuple, oAll, oAny, oSum, oSumA, oSl, dSl, pNo, pSo, oSorted, oList, oJoin, dMt1, dCall, dCallO, dCallT, argsOf, lent, opt, truth, MO.toD, Rv.toD, putOuts, putMO, List.getElem?_cons_zero, List.getElem?_cons_succ, List.set_cons_zero, List.set_cons_succ, Option.map_some, dIsi, dNo, at0, at1, at2, ix30, ix31, ix32, dComp, dYes, wipeD, back, dMake, dMeth, dLenSetS, oInD, dDict0, dDPut, dGet, dPar3DDO, dProp, dFld, dFldO, dFldSet, dSortSet, daKw, decide_eq_true_eq, shI, shS, shB, shN, eqI, eqS, true_and, List.contains_nil, beq_iff_eq, ↓reduceIte, Bool.false_eq_true]
    refine ⟨by decide, by decide, ?_⟩
    refine loop_range 0 19 (fun i ρ => ∃ s4 s5 s6 : Sl, ρ = [.own true p (jr j2), .dat (.lst (xvals K qs a c ++ [excD q (xC K 18) []])), .dat a, .dat c, s4, s5, s6, .no]) ⟨_, _, _, rfl⟩ ?_ ?_
    · rintro i ρ k4 hi ⟨s4, s5, s6, rfl⟩ hk4
      obtain ⟨p', fs, ea, ef⟩ := made_at (K := K) (ps := qs) (q := q) (a := a) (b := c) hi
      refine seq_step fun k5 hk5 => if_step fun kb kt kf => ?_
      rw [Int.zero_add]
      simp only [ea, entry, lend, jr, List.map_cons, List.map_nil, List.length_cons, List.length_nil, List.replicate_succ, List.replicate_zero, List.cons_append, List.nil_append, List.append_nil, Nat.reduceAdd, Nat.reduceSub, Nat.reduceMul, Nat.zero_add, dNext, dSet, dSetO, dPut, dPar, dPar3, dParOD, dParOO, dParDO, dRet, dRetO, dRetN, dDrop, dBin, dUn, dC, dVar, dCB, dCBO, daCons, daNil, daLend, dats, one, two, oneO, dIxO, dOwn1, dOwn2, fIx, fLen, dBl, dTru, dNot, dAnd, dOr, dAndV, dOrV, dNotV, dChain, dFr, dTup, dLst, dApp, dPopAt, dFor, diRng1, diRng2, diAny, gN, items, itemsD, oAdd, oSub, oMul, oDiv, oMod, oPow, oNeg, oCmp, oLt, oLe, oGt, oGe, oEq, oNe, oIn, oIsN, oNotN, isN, oIx, oLen, lenD, oInt, oAbs, oInts, oBool, oTuple, oAll, oAny, oSum, oSumA, oSl, dSl, pNo, pSo, oSorted, oList, oJoin, dMt1, dCall, dCallO, dCallT, argsOf, lent, opt, truth, MO.toD, Rv.toD, putOuts, putMO, List.getElem?_cons_zero, List.getElem?_cons_succ, List.set_cons_zero, List.set_cons_succ, Option.map_some, dIsi, dNo, at0, at1, at2, ix30, ix31, ix32, dComp, dYes, wipeD, back, dMake, dMeth, dLenSetS, oInD, dDict0, dDPut, dGet, dPar3DDO, dProp, dFld, dFldO, dFldSet, dSortSet, daKw, decide_eq_true_eq, shI, shS, shB, shN, eqI, eqS, true_and, List.contains_nil, beq_iff_eq, ↓reduceIte, Bool.false_eq_true]
      have comp : ∀ (n k : Nat) (s4 s5 s6 : Sl) (R : List Dt → En → Prop) (v : Nat), (v = 4 ∧ s4 = .dat (.int (k : Int)) ∨ v = 5 ∧ s5 = .dat (.int (k : Int))) →
          R ((List.range n).map fun j => .bl (decide (j = k))) [.own true p (jr j2), .dat (.lst (xvals K qs a c ++ [excD q (xC K 18) []])), .dat a, .dat c, s4, s5, s6, .no] →
          compL (gN 7) dYes (dBin oEq (dVar 7) (dVar v)) [7] (rangeD 0 n) [] [.own true p (jr j2), .dat (.lst (xvals K qs a c ++ [excD q (xC K 18) []])), .dat a, .dat c, s4, s5, s6, .no] R := fun n k s4 s5 s6 R v hv hR => by
        refine comp_pure (fun _ => true) (isI k) _ _ (fun d hd k1 k2 hh => ?_) ?_
        · unfold rangeD at hd
          obtain ⟨j', _, rfl⟩ := List.mem_map.mp hd
          rw [if_pos rfl] at hh
          rcases hv with ⟨rfl, rfl⟩ | ⟨rfl, rfl⟩
          · simp only [entry, lend, jr, List.map_cons, List.map_nil, List.length_cons, List.length_nil, List.replicate_succ, List.replicate_zero, List.cons_append, List.nil_append, List.append_nil, Nat.reduceAdd, Nat.reduceSub, Nat.reduceMul, Nat.zero_add, dSeq, dNext, dSet, dSetO, dPut, dPar, dPar3, dParOD, dParOO, dParDO, dIfS, dRet, dRetO, dRetN, dDrop, dBin, dUn, dC, dVar, dCB, dCBO, daCons, daNil, daLend, dats, one, two, oneO, dIxO, dOwn1, dOwn2, fIx, fLen, dBl, dTru, dNot, dAnd, dOr, dIf, dAndV, dOrV, dNotV, dChain, dFr, dTup, dLst, dApp, dPopAt, dFor, diRng1, diRng2, diAny, gN, items, itemsD, oAdd, oSub, oMul, oDiv, oMod, oPow, oNeg, oCmp, oLt, oLe, oGt, oGe, oEq, oNe, oIn, oIsN, oNotN, isN, oIx, oLen, lenD, oInt, oAbs, oInts, oBool, oTuple, oAll, oAny, oSum, oSumA, oSl, dSl, pNo, pSo, oSorted, oList, oJoin, dMt1, dCall, dCallO, dCallT, argsOf, lent, opt, truth, MO.toD, Rv.toD, putOuts, putMO, List.getElem?_cons_zero, List.getElem?_cons_succ, List.set_cons_zero, List.set_cons_succ, Option.map_some, dIsi, dNo, at0, at1, at2, ix30, ix31, ix32, ends, outW, dComp, dYes, wipeD, back, dMake, dMeth, dLenSetS, oInD, dDict0, dDPut, dGet, dPar3DDO, dProp, dFld, dFldO, dFldSet, dSortSet, daKw, decide_eq_true_eq, shI, shS, shB, shN, eqI, eqS, true_and, List.contains_nil, beq_iff_eq, ↓reduceIte, Bool.false_eq_true]
            exact hh
          · simp only [entry, lend, jr, List.map_cons, List.map_nil, List.length_cons, List.length_nil, List.replicate_succ, List.replicate_zero, List.cons_append, List.nil_append, List.append_nil, Nat.reduceAdd, Nat.reduceSub, Nat.reduceMul, Nat.zero_add, dSeq, dNext, dSet, dSetO, dPut, dPar, dPar3, dParOD, dParOO, dParDO, dIfS, dRet, dRetO, dRetN, dDrop, dBin, dUn, dC, dVar, dCB, dCBO, daCons, daNil, daLend, dats, one, two, oneO, dIxO, dOwn1, dOwn2, fIx, fLen, dBl, dTru, dNot, dAnd, dOr, dIf, dAndV, dOrV, dNotV, dChain, dFr, dTup, dLst, dApp, dPopAt, dFor, diRng1, diRng2, diAny, gN, items, itemsD, oAdd, oSub, oMul, oDiv, oMod, oPow, oNeg, oCmp, oLt, oLe, oGt, oGe, oEq, oNe, oIn, oIsN, oNotN, isN, oIx, oLen, lenD, oInt, oAbs, oInts, oBool, oTuple, oAll, oAny, oSum, oSumA, oSl, dSl, pNo, pSo, oSorted, oList, oJoin, dMt1, dCall, dCallO, dCallT, argsOf, lent, opt, truth, MO.toD, Rv.toD, putOuts, putMO, List.getElem?_cons_zero, List.getElem?_cons_succ, List.set_cons_zero, List.set_cons_succ, Option.map_some, dIsi, dNo, at0, at1, at2, ix30, ix31, ix32, ends, outW, dComp, dYes, wipeD, back, dMake, dMeth, dLenSetS, oInD, dDict0, dDPut, dGet, dPar3DDO, dProp, dFld, dFldO, dFldSet, dSortSet, daKw, decide_eq_true_eq, shI, shS, shB, shN, eqI, eqS, true_and, List.contains_nil, beq_iff_eq, ↓reduceIte, Bool.false_eq_true]
            exact hh
        · rw [List.nil_append, one_comp]
          exact hR
      refine use_sorts hi ?_
      simp only [entry, lend, jr, List.map_cons, List.map_nil, List.length_cons, List.length_nil, List.replicate_succ, List.replicate_zero, List.cons_append, List.nil_append, List.append_nil, Nat.reduceAdd, Nat.reduceSub, Nat.reduceMul, Nat.zero_add, dNext, dSet, dSetO, dPut, dPar, dPar3, dParOD, dParOO, dParDO, dRet, dRetO, dRetN, dDrop, dBin, dUn, dC, dVar, dCB, dCBO, daCons, daNil, daLend, dats, one, two, oneO, dIxO, dOwn1, dOwn2, fIx, fLen, dBl, dTru, dNot, dAnd, dOr, dAndV, dOrV, dNotV, dChain, dFr, dTup, dLst, dApp, dPopAt, dFor, diRng1, diRng2, diAny, gN, items, itemsD, oAdd, oSub, oMul, oDiv, oMod, oPow, oNeg, oCmp, oLt, oLe, oGt, oGe, oEq, oNe, oIn, oIsN, oNotN, isN, oIx, oLen, lenD, oInt, oAbs, oInts, oBool, oTuple, oAll, oAny, oSum, oSumA, oSl, dSl, pNo, pSo, oSorted, oList, oJoin, dMt1, dCall, dCallO, dCallT, argsOf, lent, opt, truth, MO.toD, Rv.toD, putOuts, putMO, List.getElem?_cons_zero, List.getElem?_cons_succ, List.set_cons_zero, List.set_cons_succ, Option.map_some, dIsi, dNo, at0, at1, at2, ix30, ix31, ix32, dComp, dYes, wipeD, back, dMake, dMeth, dLenSetS, oInD, dDict0, dDPut, dGet, dPar3DDO, dProp, dFld, dFldO, dFldSet, dSortSet, daKw, decide_eq_true_eq, shI, shS, shB, shN, eqI, eqS, true_and, List.contains_nil, beq_iff_eq, ↓reduceIte, Bool.false_eq_true]
      refine ⟨by decide, by decide, kilo_line (by unfold rangeD; simp), ?_⟩
      refine comp 19 i _ _ _ _ 4 (.inl ⟨rfl, rfl⟩) ?_
      refine ⟨one_sh 19 i, one_sh 19 i, ?_⟩
      show kb (!eqD (oneOf 19 i) (oneOf 19 i)) _
      rw [one_eq]
      refine kf _ (hk5 _ (seq_step fun k6 hk6 => ?_))
      simp only [entry, lend, jr, List.map_cons, List.map_nil, List.length_cons, List.length_nil, List.replicate_succ, List.replicate_zero, List.cons_append, List.nil_append, List.append_nil, Nat.reduceAdd, Nat.reduceSub, Nat.reduceMul, Nat.zero_add, dSeq, dNext, dSet, dSetO, dPut, dPar, dPar3, dParOD, dParOO, dParDO, dIfS, dRet, dRetO, dRetN, dDrop, dBin, dUn, dC, dVar, dCB, dCBO, daCons, daNil, daLend, dats, one, two, oneO, dIxO, dOwn1, dOwn2, fIx, fLen, dBl, dTru, dNot, dAnd, dOr, dIf, dAndV, dOrV, dNotV, dChain, dFr, dTup, dLst, dApp, dPopAt, dFor, diRng1, diRng2, diAny, gN, items, itemsD, oAdd, oSub, oMul, oDiv, oMod, oPow, oNeg, oCmp, oLt, oLe, oGt, oGe, oEq, oNe, oIn, oIsN, oNotN, isN, oIx, oLen, lenD, oInt, oAbs, oInts, oBool, oTuple, oAll, oAny, oSum, oSumA, oSl, dSl, pNo, pSo, oSorted, oList, oJoin, dMt1, dCall, dCallO, dCallT, argsOf, lent, opt, truth, MO.toD, Rv.toD, putOuts, putMO, List.getElem?_cons_zero, List.getElem?_cons_succ, List.set_cons_zero, List.set_cons_succ, Option.map_some, dIsi, dNo, at0, at1, at2, ix30, ix31, ix32, ends, outW, dComp, dYes, wipeD, back, dMake, dMeth, dLenSetS, oInD, dDict0, dDPut, dGet, dPar3DDO, dProp, dFld, dFldO, dFldSet, dSortSet, daKw, decide_eq_true_eq, shI, shS, shB, shN, eqI, eqS, true_and, List.contains_nil, beq_iff_eq, ↓reduceIte, Bool.false_eq_true]
      have hU : ∀ n : Int, n = (xU i : Nat) → k6 [.own true p (jr j2), .dat (.lst (xvals K qs a c ++ [excD q (xC K 18) []])), .dat a, .dat c, .dat (.int (i : Int)), .dat (.int n), s6, .no] := fun n hn => by
        subst hn
        refine hk6 _ (seq_step fun k7 hk7 => if_step fun kb2 kt2 kf2 => ?_)
        simp only [ea, entry, lend, jr, List.map_cons, List.map_nil, List.length_cons, List.length_nil, List.replicate_succ, List.replicate_zero, List.cons_append, List.nil_append, List.append_nil, Nat.reduceAdd, Nat.reduceSub, Nat.reduceMul, Nat.zero_add, dNext, dSet, dSetO, dPut, dPar, dPar3, dParOD, dParOO, dParDO, dRet, dRetO, dRetN, dDrop, dBin, dUn, dC, dVar, dCB, dCBO, daCons, daNil, daLend, dats, one, two, oneO, dIxO, dOwn1, dOwn2, fIx, fLen, dBl, dTru, dNot, dAnd, dOr, dAndV, dOrV, dNotV, dChain, dFr, dTup, dLst, dApp, dPopAt, dFor, diRng1, diRng2, diAny, gN, items, itemsD, oAdd, oSub, oMul, oDiv, oMod, oPow, oNeg, oCmp, oLt, oLe, oGt, oGe, oEq, oNe, oIn, oIsN, oNotN, isN, oIx, oLen, lenD, oInt, oAbs, oInts, oBool, oTuple, oAll, oAny, oSum, oSumA, oSl, dSl, pNo, pSo, oSorted, oList, oJoin, dMt1, dCall, dCallO, dCallT, argsOf, lent, opt, truth, MO.toD, Rv.toD, putOuts, putMO, List.getElem?_cons_zero, List.getElem?_cons_succ, List.set_cons_zero, List.set_cons_succ, Option.map_some, dIsi, dNo, at0, at1, at2, ix30, ix31, ix32, dComp, dYes, wipeD, back, dMake, dMeth, dLenSetS, oInD, dDict0, dDPut, dGet, dPar3DDO, dProp, dFld, dFldO, dFldSet, dSortSet, daKw, decide_eq_true_eq, shI, shS, shB, shN, eqI, eqS, true_and, List.contains_nil, beq_iff_eq, ↓reduceIte, Bool.false_eq_true]
        refine use_bases (by omega) ?_
        simp only [entry, lend, jr, List.map_cons, List.map_nil, List.length_cons, List.length_nil, List.replicate_succ, List.replicate_zero, List.cons_append, List.nil_append, List.append_nil, Nat.reduceAdd, Nat.reduceSub, Nat.reduceMul, Nat.zero_add, dNext, dSet, dSetO, dPut, dPar, dPar3, dParOD, dParOO, dParDO, dRet, dRetO, dRetN, dDrop, dBin, dUn, dC, dVar, dCB, dCBO, daCons, daNil, daLend, dats, one, two, oneO, dIxO, dOwn1, dOwn2, fIx, fLen, dBl, dTru, dNot, dAnd, dOr, dAndV, dOrV, dNotV, dChain, dFr, dTup, dLst, dApp, dPopAt, dFor, diRng1, diRng2, diAny, gN, items, itemsD, oAdd, oSub, oMul, oDiv, oMod, oPow, oNeg, oCmp, oLt, oLe, oGt, oGe, oEq, oNe, oIn, oIsN, oNotN, isN, oIx, oLen, lenD, oInt, oAbs, oInts, oBool, oTuple, oAll, oAny, oSum, oSumA, oSl, dSl, pNo, pSo, oSorted, oList, oJoin, dMt1, dCall, dCallO, dCallT, argsOf, lent, opt, truth, MO.toD, Rv.toD, putOuts, putMO, List.getElem?_cons_zero, List.getElem?_cons_succ, List.set_cons_zero, List.set_cons_succ, Option.map_some, dIsi, dNo, at0, at1, at2, ix30, ix31, ix32, dComp, dYes, wipeD, back, dMake, dMeth, dLenSetS, oInD, dDict0, dDPut, dGet, dPar3DDO, dProp, dFld, dFldO, dFldSet, dSortSet, daKw, decide_eq_true_eq, shI, shS, shB, shN, eqI, eqS, true_and, List.contains_nil, beq_iff_eq, ↓reduceIte, Bool.false_eq_true]
        refine ⟨by decide, by decide, kilo_line (by unfold rangeD; simp), ?_⟩
        refine comp 3 (xU i) _ _ _ _ 5 (.inr ⟨rfl, rfl⟩) ?_
        refine ⟨one_sh 3 (xU i), one_sh 3 (xU i), ?_⟩
        show kb2 (!eqD (oneOf 3 (xU i)) (oneOf 3 (xU i))) _
        rw [one_eq]
        refine kf2 _ (hk7 _ (seq_step fun k8 hk8 => ?_))
        simp only [entry, lend, jr, List.map_cons, List.map_nil, List.length_cons, List.length_nil, List.replicate_succ, List.replicate_zero, List.cons_append, List.nil_append, List.append_nil, Nat.reduceAdd, Nat.reduceSub, Nat.reduceMul, Nat.zero_add, dSeq, dNext, dSet, dSetO, dPut, dPar, dPar3, dParOD, dParOO, dParDO, dIfS, dRet, dRetO, dRetN, dDrop, dBin, dUn, dC, dVar, dCB, dCBO, daCons, daNil, daLend, dats, one, two, oneO, dIxO, dOwn1, dOwn2, fIx, fLen, dBl, dTru, dNot, dAnd, dOr, dIf, dAndV, dOrV, dNotV, dChain, dFr, dTup, dLst, dApp, dPopAt, dFor, diRng1, diRng2, diAny, gN, items, itemsD, oAdd, oSub, oMul, oDiv, oMod, oPow, oNeg, oCmp, oLt, oLe, oGt, oGe, oEq, oNe, oIn, oIsN, oNotN, isN, oIx, oLen, lenD, oInt, oAbs, oInts, oBool, oTuple, oAll, oAny, oSum, oSumA, oSl, dSl, pNo, pSo, oSorted, oList, oJoin, dMt1, dCall, dCallO, dCallT, argsOf, lent, opt, truth, MO.toD, Rv.toD, putOuts, putMO, List.getElem?_cons_zero, List.getElem?_cons_succ, List.set_cons_zero, List.set_cons_succ, Option.map_some, dIsi, dNo, at0, at1, at2, ix30, ix31, ix32, ends, outW, dComp, dYes, wipeD, back, dMake, dMeth, dLenSetS, oInD, dDict0, dDPut, dGet, dPar3DDO, dProp, dFld, dFldO, dFldSet, dSortSet, daKw, decide_eq_true_eq, shI, shS, shB, shN, eqI, eqS, true_and, List.contains_nil, beq_iff_eq, ↓reduceIte, Bool.false_eq_true]
        refine ⟨by decide, ?_⟩
        have hV : ∀ d : Dt, d = (if i % 2 = 0 then a else c) → Vl d → k8 [.own true p (jr j2), .dat (.lst (xvals K qs a c ++ [excD q (xC K 18) []])), .dat a, .dat c, .dat (.int (i : Int)), .dat (.int (xU i : Nat)), .dat d, .no] := fun d ed vd => by
          refine hk8 _ (if_step fun kb3 kt3 kf3 => ?_)
          by_cases h18 : (i : Int) < 18
          · obtain rfl := ef (by omega)
            rw [← ed] at ea
            simp only [ea, oReprX, decide_eq_true h18, entry, lend, jr, List.map_cons, List.map_nil, List.length_cons, List.length_nil, List.replicate_succ, List.replicate_zero, List.cons_append, List.nil_append, List.append_nil, Nat.reduceAdd, Nat.reduceSub, Nat.reduceMul, Nat.zero_add, dNext, dSet, dSetO, dPut, dPar, dPar3, dParOD, dParOO, dParDO, dRet, dRetO, dRetN, dDrop, dBin, dUn, dC, dVar, dCB, dCBO, daCons, daNil, daLend, dats, one, two, oneO, dIxO, dOwn1, dOwn2, fIx, fLen, dBl, dTru, dNot, dAnd, dOr, dAndV, dOrV, dNotV, dChain, dFr, dTup, dLst, dApp, dPopAt, dFor, diRng1, diRng2, diAny, gN, items, itemsD, oAdd, oSub, oMul, oDiv, oMod, oPow, oNeg, oCmp, oLt, oLe, oGt, oGe, oEq, oNe, oIn, oIsN, oNotN, isN, oIx, oLen, lenD, oInt, oAbs, oInts, oBool, oTuple, oAll, oAny, oSum, oSumA, oSl, dSl, pNo, pSo, oSorted, oList, oJoin, dMt1, dCall, dCallO, dCallT, argsOf, lent, opt, truth, MO.toD, Rv.toD, putOuts, putMO, List.getElem?_cons_zero, List.getElem?_cons_succ, List.set_cons_zero, List.set_cons_succ, Option.map_some, dIsi, dNo, at0, at1, at2, ix30, ix31, ix32, dComp, dYes, wipeD, back, dMake, dMeth, dLenSetS, oInD, dDict0, dDPut, dGet, dPar3DDO, dProp, dFld, dFldO, dFldSet, dSortSet, daKw, decide_eq_true_eq, shI, shS, shB, shN, eqI, eqS, true_and, List.contains_nil, beq_iff_eq, ↓reduceIte, Bool.false_eq_true]
            refine use_kept (by omega) ?_
            simp only [oReprX, entry, lend, jr, List.map_cons, List.map_nil, List.length_cons, List.length_nil, List.replicate_succ, List.replicate_zero, List.cons_append, List.nil_append, List.append_nil, Nat.reduceAdd, Nat.reduceSub, Nat.reduceMul, Nat.zero_add, dNext, dSet, dSetO, dPut, dPar, dPar3, dParOD, dParOO, dParDO, dRet, dRetO, dRetN, dDrop, dBin, dUn, dC, dVar, dCB, dCBO, daCons, daNil, daLend, dats, one, two, oneO, dIxO, dOwn1, dOwn2, fIx, fLen, dBl, dTru, dNot, dAnd, dOr, dAndV, dOrV, dNotV, dChain, dFr, dTup, dLst, dApp, dPopAt, dFor, diRng1, diRng2, diAny, gN, items, itemsD, oAdd, oSub, oMul, oDiv, oMod, oPow, oNeg, oCmp, oLt, oLe, oGt, oGe, oEq, oNe, oIn, oIsN, oNotN, isN, oIx, oLen, lenD, oInt, oAbs, oInts, oBool, oTuple, oAll, oAny, oSum, oSumA, oSl, dSl, pNo, pSo, oSorted, oList, oJoin, dMt1, dCall, dCallO, dCallT, argsOf, lent, opt, truth, MO.toD, Rv.toD, putOuts, putMO, List.getElem?_cons_zero, List.getElem?_cons_succ, List.set_cons_zero, List.set_cons_succ, Option.map_some, dIsi, dNo, at0, at1, at2, ix30, ix31, ix32, dComp, dYes, wipeD, back, dMake, dMeth, dLenSetS, oInD, dDict0, dDPut, dGet, dPar3DDO, dProp, dFld, dFldO, dFldSet, dSortSet, daKw, decide_eq_true_eq, shI, shS, shB, shN, eqI, eqS, true_and, List.contains_nil, beq_iff_eq, ↓reduceIte, Bool.false_eq_true]
            refine ⟨shw_ok vd.2, shw_ok vd.2, ?_⟩
            rw [beq_self_eq_true]
            exact kf3 _ (hk4 _ ⟨_, _, _, rfl⟩)
          · simp only [decide_eq_false h18, entry, lend, jr, List.map_cons, List.map_nil, List.length_cons, List.length_nil, List.replicate_succ, List.replicate_zero, List.cons_append, List.nil_append, List.append_nil, Nat.reduceAdd, Nat.reduceSub, Nat.reduceMul, Nat.zero_add, dNext, dSet, dSetO, dPut, dPar, dPar3, dParOD, dParOO, dParDO, dRet, dRetO, dRetN, dDrop, dBin, dUn, dC, dVar, dCB, dCBO, daCons, daNil, daLend, dats, one, two, oneO, dIxO, dOwn1, dOwn2, fIx, fLen, dBl, dTru, dNot, dAnd, dOr, dAndV, dOrV, dNotV, dChain, dFr, dTup, dLst, dApp, dPopAt, dFor, diRng1, diRng2, diAny, gN, items, itemsD, oAdd, oSub, oMul, oDiv, oMod, oPow, oNeg, oCmp, oLt, oLe, oGt, oGe, oEq, oNe, oIn, oIsN, oNotN, isN, oIx, oLen, lenD, oInt, oAbs, oInts, oBool, oTuple, oAll, oAny, oSum, oSumA, oSl, dSl, pNo, pSo, oSorted, oList, oJoin, dMt1, dCall, dCallO, dCallT, argsOf, lent, opt, truth, MO.toD, Rv.toD, putOuts, putMO, List.getElem?_cons_zero, List.getElem?_cons_succ, List.set_cons_zero, List.set_cons_succ, Option.map_some, dIsi, dNo, at0, at1, at2, ix30, ix31, ix32, dComp, dYes, wipeD, back, dMake, dMeth, dLenSetS, oInD, dDict0, dDPut, dGet, dPar3DDO, dProp, dFld, dFldO, dFldSet, dSortSet, daKw, decide_eq_true_eq, shI, shS, shB, shN, eqI, eqS, true_and, List.contains_nil, beq_iff_eq, ↓reduceIte, Bool.false_eq_true]
            exact kf3 _ (hk4 _ ⟨_, _, _, rfl⟩)
        by_cases h2 : (i : Int) % 2 = 0
        · rw [if_pos h2]
          exact hV a (by rw [if_pos (by omega)]) va
        · rw [if_neg h2]
          exact hV c (by rw [if_neg (by omega)]) vc
      by_cases h12 : (i : Int) < 12
      · rw [if_pos h12]
        exact hU 0 (by unfold xU; rw [if_pos (by omega)]; rfl)
      · rw [if_neg h12]
        by_cases h14 : (i : Int) < 14
        · rw [if_pos h14]
          exact hU 1 (by unfold xU; rw [if_neg (by omega), if_pos (by omega)]; rfl)
        · rw [if_neg h14]
          exact hU 2 (by unfold xU; rw [if_neg (by omega), if_neg (by omega), if_pos hi]; rfl)
    · rintro ρ ⟨s4, s5, s6, rfl⟩
      exact hk _ ⟨fun d hd' => hd d (List.mem_cons_of_mem _ hd'), _, _, _, _, rfl⟩
  · simp only [List.mem_cons, List.not_mem_nil, or_false] at hd
    rcases hd with rfl | rfl
    · exact ⟨ps, rfl⟩
    · exact ⟨ps', rfl⟩
theorem use_lawright {K : PySem.W.Frag} {p : Addr} {j : Jr} {Q : Rv → List MO → Prop} {U : Xn → List MO → Prop} (q : ∀ j, Q (.d (.bl true)) [jr j]) : sp_L_right K [.own false p (jr j)] Q U := ⟨((false, p, j), ()), rfl, trivial, fun y _ => q y.2⟩
theorem plains : eqD (.lst [oneOf 3 (xU 19), oneOf 3 (xU 20), oneOf 3 (xU 21)]) (.lst [.lst [.bl true, .bl false, .bl false], .lst [.bl false, .bl true, .bl false], .lst [.bl false, .bl false, .bl true]]) = true := by
  show eqD (.lst [.lst [.bl true, .bl false, .bl false], .lst [.bl false, .bl true, .bl false], .lst [.bl false, .bl false, .bl true]]) (.lst [.lst [.bl true, .bl false, .bl false], .lst [.bl false, .bl true, .bl false], .lst [.bl false, .bl false, .bl true]]) = true
  simp [eqD, eqDs]
theorem math_law (K : PySem.W.Frag) : ∀ args Q U, sp_law K args Q U → m_law K (ends args Q U) (entry (List.length N_law) args) := by
  rintro args Q U ⟨xs, rfl, hx, hQ⟩
  have hx : xs.length ≤ 63 := hx
  have fin : Q (.d (.bl true)) [] := hQ () trivial
  unfold m_law
  refine seq_step fun k1 hk1 => if_step fun kb kt kf => ?_
  simp only [entry, lend, jr, List.map_cons, List.map_nil, List.length_cons, List.length_nil, List.replicate_succ, List.replicate_zero, List.cons_append, List.nil_append, List.append_nil, Nat.reduceAdd, Nat.reduceSub, Nat.reduceMul, Nat.zero_add, dNext, dSet, dSetO, dPut, dPar, dPar3, dParOD, dParOO, dParDO, dRet, dRetO, dRetN, dDrop, dBin, dUn, dC, dVar, dCB, dCBO, daCons, daNil, daLend, dats, one, two, oneO, dIxO, dOwn1, dOwn2, fIx, fLen, dBl, dTru, dNot, dAnd, dOr, dAndV, dOrV, dNotV, dChain, dFr, dTup, dLst, dApp, dPopAt, dFor, diRng1, diRng2, diAny, gN, items, itemsD, oAdd, oSub, oMul, oDiv, oMod, oPow, oNeg, oCmp, oLt, oLe, oGt, oGe, oEq, oNe, oIn, oIsN, oNotN, isN, oIx, oLen, lenD, oInt, oAbs, oInts, oBool, oTuple, oAll, oAny, oSum, oSumA, oSl, dSl, pNo, pSo, oSorted, oList, oJoin, dMt1, dCall, dCallO, dCallT, argsOf, lent, opt, truth, MO.toD, Rv.toD, putOuts, putMO, List.getElem?_cons_zero, List.getElem?_cons_succ, List.set_cons_zero, List.set_cons_succ, Option.map_some, dIsi, dNo, at0, at1, at2, ix30, ix31, ix32, dComp, dYes, wipeD, back, dMake, dMeth, dLenSetS, oInD, dDict0, dDPut, dGet, dPar3DDO, dProp, dFld, dFldO, dFldSet, dSortSet, daKw, decide_eq_true_eq, shI, shS, shB, shN, eqI, eqS, true_and, List.contains_nil, beq_iff_eq, ↓reduceIte, Bool.false_eq_true]
  have s5 : Sh 8 (Dt.lst [Dt.int 3, Dt.int 6, Dt.int 48, Dt.int 12, Dt.int 4]) := fun d hd => by
    simp only [List.mem_cons, List.not_mem_nil, or_false] at hd
    rcases hd with rfl | rfl | rfl | rfl | rfl <;> (rw [shI]; trivial)
  refine ⟨kilo_line (by decide), kilo_line (by decide), s5, s5, ?_⟩
  rw [show eqD (Dt.lst [Dt.int 3, Dt.int 6, Dt.int 48, Dt.int 12, Dt.int 4]) (Dt.lst [Dt.int 3, Dt.int 6, Dt.int 48, Dt.int 12, Dt.int 4]) = true by simp [eqD, eqDs]]
  refine kf _ (hk1 _ (seq_step fun k2 hk2 => ?_))
  simp only [dMkX0, entry, lend, jr, List.map_cons, List.map_nil, List.length_cons, List.length_nil, List.replicate_succ, List.replicate_zero, List.cons_append, List.nil_append, List.append_nil, Nat.reduceAdd, Nat.reduceSub, Nat.reduceMul, Nat.zero_add, dNext, dSet, dSetO, dPut, dPar, dPar3, dParOD, dParOO, dParDO, dRet, dRetO, dRetN, dDrop, dBin, dUn, dC, dVar, dCB, dCBO, daCons, daNil, daLend, dats, one, two, oneO, dIxO, dOwn1, dOwn2, fIx, fLen, dBl, dTru, dNot, dAnd, dOr, dAndV, dOrV, dNotV, dChain, dFr, dTup, dLst, dApp, dPopAt, dFor, diRng1, diRng2, diAny, gN, items, itemsD, oAdd, oSub, oMul, oDiv, oMod, oPow, oNeg, oCmp, oLt, oLe, oGt, oGe, oEq, oNe, oIn, oIsN, oNotN, isN, oIx, oLen, lenD, oInt, oAbs, oInts, oBool, oTuple, oAll, oAny, oSum, oSumA, oSl, dSl, pNo, pSo, oSorted, oList, oJoin, dMt1, dCall, dCallO, dCallT, argsOf, lent, opt, truth, MO.toD, Rv.toD, putOuts, putMO, List.getElem?_cons_zero, List.getElem?_cons_succ, List.set_cons_zero, List.set_cons_succ, Option.map_some, dIsi, dNo, at0, at1, at2, ix30, ix31, ix32, dComp, dYes, wipeD, back, dMake, dMeth, dLenSetS, oInD, dDict0, dDPut, dGet, dPar3DDO, dProp, dFld, dFldO, dFldSet, dSortSet, daKw, decide_eq_true_eq, shI, shS, shB, shN, eqI, eqS, true_and, List.contains_nil, beq_iff_eq, ↓reduceIte, Bool.false_eq_true]
  intro p0 p1 p2
  refine ⟨kilo_line (by decide), hk2 _ (seq_step fun k3 hk3 => if_step fun kb kt kf => ?_)⟩
  clear hk1 hk2
  simp only [compL, entry, lend, jr, List.map_cons, List.map_nil, List.length_cons, List.length_nil, List.replicate_succ, List.replicate_zero, List.cons_append, List.nil_append, List.append_nil, Nat.reduceAdd, Nat.reduceSub, Nat.reduceMul, Nat.zero_add, dNext, dSet, dSetO, dPut, dPar, dPar3, dParOD, dParOO, dParDO, dRet, dRetO, dRetN, dDrop, dBin, dUn, dC, dVar, dCB, dCBO, daCons, daNil, daLend, dats, one, two, oneO, dIxO, dOwn1, dOwn2, fIx, fLen, dBl, dTru, dNot, dAnd, dOr, dAndV, dOrV, dNotV, dChain, dFr, dTup, dLst, dApp, dPopAt, dFor, diRng1, diRng2, diAny, gN, items, itemsD, oAdd, oSub, oMul, oDiv, oMod, oPow, oNeg, oCmp, oLt, oLe, oGt, oGe, oEq, oNe, oIn, oIsN, oNotN, isN, oIx, oLen, lenD, oInt, oAbs, oInts, oBool, oTuple, oAll, oAny, oSum, oSumA, oSl, dSl, pNo, pSo, oSorted, oList, oJoin, dMt1, dCall, dCallO, dCallT, argsOf, lent, opt, truth, MO.toD, Rv.toD, putOuts, putMO, List.getElem?_cons_zero, List.getElem?_cons_succ, List.set_cons_zero, List.set_cons_succ, Option.map_some, dIsi, dNo, at0, at1, at2, ix30, ix31, ix32, dComp, dYes, wipeD, back, dMake, dMeth, dLenSetS, oInD, dDict0, dDPut, dGet, dPar3DDO, dProp, dFld, dFldO, dFldSet, dSortSet, daKw, decide_eq_true_eq, shI, shS, shB, shN, eqI, eqS, true_and, List.contains_nil, beq_iff_eq, ↓reduceIte, Bool.false_eq_true]
  refine ⟨kilo_line (by decide), ?_⟩
  refine use_bases (i := 19) (by decide) ?_
  simp only [compL, entry, lend, jr, List.map_cons, List.map_nil, List.length_cons, List.length_nil, List.replicate_succ, List.replicate_zero, List.cons_append, List.nil_append, List.append_nil, Nat.reduceAdd, Nat.reduceSub, Nat.reduceMul, Nat.zero_add, dNext, dSet, dSetO, dPut, dPar, dPar3, dParOD, dParOO, dParDO, dRet, dRetO, dRetN, dDrop, dBin, dUn, dC, dVar, dCB, dCBO, daCons, daNil, daLend, dats, one, two, oneO, dIxO, dOwn1, dOwn2, fIx, fLen, dBl, dTru, dNot, dAnd, dOr, dAndV, dOrV, dNotV, dChain, dFr, dTup, dLst, dApp, dPopAt, dFor, diRng1, diRng2, diAny, gN, items, itemsD, oAdd, oSub, oMul, oDiv, oMod, oPow, oNeg, oCmp, oLt, oLe, oGt, oGe, oEq, oNe, oIn, oIsN, oNotN, isN, oIx, oLen, lenD, oInt, oAbs, oInts, oBool, oTuple, oAll, oAny, oSum, oSumA, oSl, dSl, pNo, pSo, oSorted, oList, oJoin, dMt1, dCall, dCallO, dCallT, argsOf, lent, opt, truth, MO.toD, Rv.toD, putOuts, putMO, List.getElem?_cons_zero, List.getElem?_cons_succ, List.set_cons_zero, List.set_cons_succ, Option.map_some, dIsi, dNo, at0, at1, at2, ix30, ix31, ix32, dComp, dYes, wipeD, back, dMake, dMeth, dLenSetS, oInD, dDict0, dDPut, dGet, dPar3DDO, dProp, dFld, dFldO, dFldSet, dSortSet, daKw, decide_eq_true_eq, shI, shS, shB, shN, eqI, eqS, true_and, List.contains_nil, beq_iff_eq, ↓reduceIte, Bool.false_eq_true]
  refine use_bases (i := 20) (by decide) ?_
  simp only [compL, entry, lend, jr, List.map_cons, List.map_nil, List.length_cons, List.length_nil, List.replicate_succ, List.replicate_zero, List.cons_append, List.nil_append, List.append_nil, Nat.reduceAdd, Nat.reduceSub, Nat.reduceMul, Nat.zero_add, dNext, dSet, dSetO, dPut, dPar, dPar3, dParOD, dParOO, dParDO, dRet, dRetO, dRetN, dDrop, dBin, dUn, dC, dVar, dCB, dCBO, daCons, daNil, daLend, dats, one, two, oneO, dIxO, dOwn1, dOwn2, fIx, fLen, dBl, dTru, dNot, dAnd, dOr, dAndV, dOrV, dNotV, dChain, dFr, dTup, dLst, dApp, dPopAt, dFor, diRng1, diRng2, diAny, gN, items, itemsD, oAdd, oSub, oMul, oDiv, oMod, oPow, oNeg, oCmp, oLt, oLe, oGt, oGe, oEq, oNe, oIn, oIsN, oNotN, isN, oIx, oLen, lenD, oInt, oAbs, oInts, oBool, oTuple, oAll, oAny, oSum, oSumA, oSl, dSl, pNo, pSo, oSorted, oList, oJoin, dMt1, dCall, dCallO, dCallT, argsOf, lent, opt, truth, MO.toD, Rv.toD, putOuts, putMO, List.getElem?_cons_zero, List.getElem?_cons_succ, List.set_cons_zero, List.set_cons_succ, Option.map_some, dIsi, dNo, at0, at1, at2, ix30, ix31, ix32, dComp, dYes, wipeD, back, dMake, dMeth, dLenSetS, oInD, dDict0, dDPut, dGet, dPar3DDO, dProp, dFld, dFldO, dFldSet, dSortSet, daKw, decide_eq_true_eq, shI, shS, shB, shN, eqI, eqS, true_and, List.contains_nil, beq_iff_eq, ↓reduceIte, Bool.false_eq_true]
  refine use_bases (i := 21) (by decide) ?_
  simp only [compL, entry, lend, jr, List.map_cons, List.map_nil, List.length_cons, List.length_nil, List.replicate_succ, List.replicate_zero, List.cons_append, List.nil_append, List.append_nil, Nat.reduceAdd, Nat.reduceSub, Nat.reduceMul, Nat.zero_add, dNext, dSet, dSetO, dPut, dPar, dPar3, dParOD, dParOO, dParDO, dRet, dRetO, dRetN, dDrop, dBin, dUn, dC, dVar, dCB, dCBO, daCons, daNil, daLend, dats, one, two, oneO, dIxO, dOwn1, dOwn2, fIx, fLen, dBl, dTru, dNot, dAnd, dOr, dAndV, dOrV, dNotV, dChain, dFr, dTup, dLst, dApp, dPopAt, dFor, diRng1, diRng2, diAny, gN, items, itemsD, oAdd, oSub, oMul, oDiv, oMod, oPow, oNeg, oCmp, oLt, oLe, oGt, oGe, oEq, oNe, oIn, oIsN, oNotN, isN, oIx, oLen, lenD, oInt, oAbs, oInts, oBool, oTuple, oAll, oAny, oSum, oSumA, oSl, dSl, pNo, pSo, oSorted, oList, oJoin, dMt1, dCall, dCallO, dCallT, argsOf, lent, opt, truth, MO.toD, Rv.toD, putOuts, putMO, List.getElem?_cons_zero, List.getElem?_cons_succ, List.set_cons_zero, List.set_cons_succ, Option.map_some, dIsi, dNo, at0, at1, at2, ix30, ix31, ix32, dComp, dYes, wipeD, back, dMake, dMeth, dLenSetS, oInD, dDict0, dDPut, dGet, dPar3DDO, dProp, dFld, dFldO, dFldSet, dSortSet, daKw, decide_eq_true_eq, shI, shS, shB, shN, eqI, eqS, true_and, List.contains_nil, beq_iff_eq, ↓reduceIte, Bool.false_eq_true]
  have sa : Sh 8 (Dt.lst [oneOf 3 (xU 19), oneOf 3 (xU 20), oneOf 3 (xU 21)]) := fun d hd => by
    simp only [List.mem_cons, List.not_mem_nil, or_false] at hd
    rcases hd with rfl | rfl | rfl <;> exact one_sh7 3 _
  refine ⟨kilo_line (by decide), kilo_line (by decide), kilo_line (by decide), kilo_line (by decide), sa, sa, ?_⟩
  rw [plains]
  refine kf _ (hk3 _ ?_)
  have hm : ∀ c : Int, 0 ≤ c → c ≤ 5 → maxI 2 (minI ((List.map Dt.int xs).length : Int) c) ≤ 5 ∧ 0 ≤ maxI 2 (minI ((List.map Dt.int xs).length : Int) c) := fun c c0 c5 => by
    unfold maxI minI
    split <;> split <;> omega
  have h4 := hm 4 (by decide) (by decide)
  simp only [entry, lend, jr, List.map_cons, List.map_nil, List.length_cons, List.length_nil, List.replicate_succ, List.replicate_zero, List.cons_append, List.nil_append, List.append_nil, Nat.reduceAdd, Nat.reduceSub, Nat.reduceMul, Nat.zero_add, dSeq, dNext, dSet, dSetO, dPut, dPar, dPar3, dParOD, dParOO, dParDO, dIfS, dRet, dRetO, dRetN, dDrop, dBin, dUn, dC, dVar, dCB, dCBO, daCons, daNil, daLend, dats, one, two, oneO, dIxO, dOwn1, dOwn2, fIx, fLen, dBl, dTru, dNot, dAnd, dOr, dIf, dAndV, dOrV, dNotV, dChain, dFr, dTup, dLst, dApp, dPopAt, dFor, diRng1, diRng2, diAny, gN, items, itemsD, oAdd, oSub, oMul, oDiv, oMod, oPow, oNeg, oCmp, oLt, oLe, oGt, oGe, oEq, oNe, oIn, oIsN, oNotN, isN, oIx, oLen, lenD, oInt, oAbs, oInts, oBool, oTuple, oAll, oAny, oSum, oSumA, oSl, dSl, pNo, pSo, oSorted, oList, oJoin, dMt1, dCall, dCallO, dCallT, argsOf, lent, opt, truth, MO.toD, Rv.toD, putOuts, putMO, List.getElem?_cons_zero, List.getElem?_cons_succ, List.set_cons_zero, List.set_cons_succ, Option.map_some, dIsi, dNo, at0, at1, at2, ix30, ix31, ix32, ends, outW, dComp, dYes, wipeD, back, dMake, dMeth, dLenSetS, oInD, dDict0, dDPut, dGet, dPar3DDO, dProp, dFld, dFldO, dFldSet, dSortSet, daKw, decide_eq_true_eq, shI, shS, shB, shN, eqI, eqS, true_and, List.contains_nil, beq_iff_eq, ↓reduceIte, Bool.false_eq_true]
  refine ⟨by omega, by omega, kilo_line (by unfold rangeD; rw [List.length_map, List.length_range]; omega), ?_⟩
  refine comp_pure (fun _ => true) (fun _ => .bl true) _ _ ?_ ?_
  · intro d hd k1 k2 hh
    unfold rangeD at hd
    obtain ⟨i, hi, rfl⟩ := List.mem_map.mp hd
    have hi := List.mem_range.mp hi
    simp only [entry, lend, jr, List.map_cons, List.map_nil, List.length_cons, List.length_nil, List.replicate_succ, List.replicate_zero, List.cons_append, List.nil_append, List.append_nil, Nat.reduceAdd, Nat.reduceSub, Nat.reduceMul, Nat.zero_add, dSeq, dNext, dSet, dSetO, dPut, dPar, dPar3, dParOD, dParOO, dParDO, dIfS, dRet, dRetO, dRetN, dDrop, dBin, dUn, dC, dVar, dCB, dCBO, daCons, daNil, daLend, dats, one, two, oneO, dIxO, dOwn1, dOwn2, fIx, fLen, dBl, dTru, dNot, dAnd, dOr, dIf, dAndV, dOrV, dNotV, dChain, dFr, dTup, dLst, dApp, dPopAt, dFor, diRng1, diRng2, diAny, gN, items, itemsD, oAdd, oSub, oMul, oDiv, oMod, oPow, oNeg, oCmp, oLt, oLe, oGt, oGe, oEq, oNe, oIn, oIsN, oNotN, isN, oIx, oLen, lenD, oInt, oAbs, oInts, oBool, oTuple, oAll, oAny, oSum, oSumA, oSl, dSl, pNo, pSo, oSorted, oList, oJoin, dMt1, dCall, dCallO, dCallT, argsOf, lent, opt, truth, MO.toD, Rv.toD, putOuts, putMO, List.getElem?_cons_zero, List.getElem?_cons_succ, List.set_cons_zero, List.set_cons_succ, Option.map_some, dIsi, dNo, at0, at1, at2, ix30, ix31, ix32, ends, outW, dComp, dYes, wipeD, back, dMake, dMeth, dLenSetS, oInD, dDict0, dDPut, dGet, dPar3DDO, dProp, dFld, dFldO, dFldSet, dSortSet, daKw, decide_eq_true_eq, shI, shS, shB, shN, eqI, eqS, true_and, List.contains_nil, beq_iff_eq, ↓reduceIte, Bool.false_eq_true]
    refine ⟨(xs, 0 + (i : Int)), rfl, ⟨hx, show (0 : Int) ≤ 0 + i by omega, show (0 : Int) + i ≤ 100 by omega⟩, fun j hj => ?_⟩
    simp only [entry, lend, jr, List.map_cons, List.map_nil, List.length_cons, List.length_nil, List.replicate_succ, List.replicate_zero, List.cons_append, List.nil_append, List.append_nil, Nat.reduceAdd, Nat.reduceSub, Nat.reduceMul, Nat.zero_add, dSeq, dNext, dSet, dSetO, dPut, dPar, dPar3, dParOD, dParOO, dParDO, dIfS, dRet, dRetO, dRetN, dDrop, dBin, dUn, dC, dVar, dCB, dCBO, daCons, daNil, daLend, dats, one, two, oneO, dIxO, dOwn1, dOwn2, fIx, fLen, dBl, dTru, dNot, dAnd, dOr, dIf, dAndV, dOrV, dNotV, dChain, dFr, dTup, dLst, dApp, dPopAt, dFor, diRng1, diRng2, diAny, gN, items, itemsD, oAdd, oSub, oMul, oDiv, oMod, oPow, oNeg, oCmp, oLt, oLe, oGt, oGe, oEq, oNe, oIn, oIsN, oNotN, isN, oIx, oLen, lenD, oInt, oAbs, oInts, oBool, oTuple, oAll, oAny, oSum, oSumA, oSl, dSl, pNo, pSo, oSorted, oList, oJoin, dMt1, dCall, dCallO, dCallT, argsOf, lent, opt, truth, MO.toD, Rv.toD, putOuts, putMO, List.getElem?_cons_zero, List.getElem?_cons_succ, List.set_cons_zero, List.set_cons_succ, Option.map_some, dIsi, dNo, at0, at1, at2, ix30, ix31, ix32, ends, outW, dComp, dYes, wipeD, back, dMake, dMeth, dLenSetS, oInD, dDict0, dDPut, dGet, dPar3DDO, dProp, dFld, dFldO, dFldSet, dSortSet, daKw, decide_eq_true_eq, shI, shS, shB, shN, eqI, eqS, true_and, List.contains_nil, beq_iff_eq, ↓reduceIte, Bool.false_eq_true]
    intro p
    refine use_lawright fun j => ?_
    simp only [entry, lend, jr, List.map_cons, List.map_nil, List.length_cons, List.length_nil, List.replicate_succ, List.replicate_zero, List.cons_append, List.nil_append, List.append_nil, Nat.reduceAdd, Nat.reduceSub, Nat.reduceMul, Nat.zero_add, dSeq, dNext, dSet, dSetO, dPut, dPar, dPar3, dParOD, dParOO, dParDO, dIfS, dRet, dRetO, dRetN, dDrop, dBin, dUn, dC, dVar, dCB, dCBO, daCons, daNil, daLend, dats, one, two, oneO, dIxO, dOwn1, dOwn2, fIx, fLen, dBl, dTru, dNot, dAnd, dOr, dIf, dAndV, dOrV, dNotV, dChain, dFr, dTup, dLst, dApp, dPopAt, dFor, diRng1, diRng2, diAny, gN, items, itemsD, oAdd, oSub, oMul, oDiv, oMod, oPow, oNeg, oCmp, oLt, oLe, oGt, oGe, oEq, oNe, oIn, oIsN, oNotN, isN, oIx, oLen, lenD, oInt, oAbs, oInts, oBool, oTuple, oAll, oAny, oSum, oSumA, oSl, dSl, pNo, pSo, oSorted, oList, oJoin, dMt1, dCall, dCallO, dCallT, argsOf, lent, opt, truth, MO.toD, Rv.toD, putOuts, putMO, List.getElem?_cons_zero, List.getElem?_cons_succ, List.set_cons_zero, List.set_cons_succ, Option.map_some, dIsi, dNo, at0, at1, at2, ix30, ix31, ix32, ends, outW, dComp, dYes, wipeD, back, dMake, dMeth, dLenSetS, oInD, dDict0, dDPut, dGet, dPar3DDO, dProp, dFld, dFldO, dFldSet, dSortSet, daKw, decide_eq_true_eq, shI, shS, shB, shN, eqI, eqS, true_and, List.contains_nil, beq_iff_eq, ↓reduceIte, Bool.false_eq_true]
    exact (by simpa using hh)
  · have em : ∀ l : List Dt, (l.filter fun _ => true).map (fun _ => Dt.bl true) = (List.replicate l.length true).map Dt.bl := fun l => by
      rw [List.filter_eq_self.mpr (fun _ _ => rfl), List.map_const', List.map_replicate]
    rw [List.nil_append, em]
    simp only [bls_map, entry, lend, jr, List.map_cons, List.map_nil, List.length_cons, List.length_nil, List.replicate_succ, List.replicate_zero, List.cons_append, List.nil_append, List.append_nil, Nat.reduceAdd, Nat.reduceSub, Nat.reduceMul, Nat.zero_add, dSeq, dNext, dSet, dSetO, dPut, dPar, dPar3, dParOD, dParOO, dParDO, dIfS, dRet, dRetO, dRetN, dDrop, dBin, dUn, dC, dVar, dCB, dCBO, daCons, daNil, daLend, dats, one, two, oneO, dIxO, dOwn1, dOwn2, fIx, fLen, dBl, dTru, dNot, dAnd, dOr, dIf, dAndV, dOrV, dNotV, dChain, dFr, dTup, dLst, dApp, dPopAt, dFor, diRng1, diRng2, diAny, gN, items, itemsD, oAdd, oSub, oMul, oDiv, oMod, oPow, oNeg, oCmp, oLt, oLe, oGt, oGe, oEq, oNe, oIn, oIsN, oNotN, isN, oIx, oLen, lenD, oInt, oAbs, oInts, oBool, oTuple, oAll, oAny, oSum, oSumA, oSl, dSl, pNo, pSo, oSorted, oList, oJoin, dMt1, dCall, dCallO, dCallT, argsOf, lent, opt, truth, MO.toD, Rv.toD, putOuts, putMO, List.getElem?_cons_zero, List.getElem?_cons_succ, List.set_cons_zero, List.set_cons_succ, Option.map_some, dIsi, dNo, at0, at1, at2, ix30, ix31, ix32, ends, outW, dComp, dYes, wipeD, back, dMake, dMeth, dLenSetS, oInD, dDict0, dDPut, dGet, dPar3DDO, dProp, dFld, dFldO, dFldSet, dSortSet, daKw, decide_eq_true_eq, shI, shS, shB, shN, eqI, eqS, true_and, List.contains_nil, beq_iff_eq, ↓reduceIte, Bool.false_eq_true]
    have al : ∀ n, (List.replicate n true).all id = true := fun n => by
      rw [List.all_eq_true]
      intro b hb
      rw [List.eq_of_mem_replicate hb]
      rfl
    rw [al]
    exact fin

structure Facts (K : PySem.W.Frag) (mg : Str → Option Value) (w : World) : Prop where
  b_ArithmeticError : mg "ArithmeticError" = none
  b_LookupError : mg "LookupError" = none
  b_ValueError : mg "ValueError" = none
  b_abs : mg "abs" = none
  b_all : mg "all" = none
  b_int : mg "int" = none
  b_isinstance : mg "isinstance" = none
  b_len : mg "len" = none
  b_max : mg "max" = none
  b_min : mg "min" = none
  b_range : mg "range" = none
  b_repr : mg "repr" = none
  f_L_bases : mg "_law_bases" = some (.ref (He.ga K "_law_bases"))
  f_L_dip : mg "_law_dip" = some (.ref (He.ga K "_law_dip"))
  f_L_pick : mg "_law_pick" = some (.ref (He.ga K "_law_pick"))
  f_L_odd : mg "_law_odd" = some (.ref (He.ga K "_law_odd"))
  f_L_by_word : mg "_law_by_word" = some (.ref (He.ga K "_law_by_word"))
  f_L_by_place : mg "_law_by_place" = some (.ref (He.ga K "_law_by_place"))
  f_L_sorts : mg "_law_sorts" = some (.ref (He.ga K "_law_sorts"))
  f_L_kept : mg "_law_kept" = some (.ref (He.ga K "_law_kept"))
  f_L_right : mg "_law_right" = some (.ref (He.ga K "_law_right"))
  f_L_jar : mg "_law_jar" = some (.ref (He.ga K "_law_jar"))
  f_law : mg "law" = some (.ref (He.ga K "law"))
  i_LEAST_THINGS : ∃ t, mg "LEAST_THINGS" = some (.int 3 t)
  i_MOST_FULL : ∃ t, mg "MOST_FULL" = some (.int 4 t)
  i_MOST_ORDERS : ∃ t, mg "MOST_ORDERS" = some (.int 48 t)
  i_MOST_OUT : ∃ t, mg "MOST_OUT" = some (.int 12 t)
  i_MOST_THINGS : ∃ t, mg "MOST_THINGS" = some (.int 6 t)
  c_Broken : mg "Broken" = some (.ref (He.ga K "Broken"))
  c_InvalidCommand : mg "InvalidCommand" = some (.ref (He.ga K "InvalidCommand"))
  c_InvalidNumber : mg "InvalidNumber" = some (.ref (He.ga K "InvalidNumber"))
  c_InvalidOrder : mg "InvalidOrder" = some (.ref (He.ga K "InvalidOrder"))
  c_InvalidOrders : mg "InvalidOrders" = some (.ref (He.ga K "InvalidOrders"))
  c_InvalidPeople : mg "InvalidPeople" = some (.ref (He.ga K "InvalidPeople"))
  c_InvalidRules : mg "InvalidRules" = some (.ref (He.ga K "InvalidRules"))
  c_InvalidText : mg "InvalidText" = some (.ref (He.ga K "InvalidText"))
  c_InvalidThings : mg "InvalidThings" = some (.ref (He.ga K "InvalidThings"))
  c_InvalidThree : mg "InvalidThree" = some (.ref (He.ga K "InvalidThree"))
  c_InvalidWish : mg "InvalidWish" = some (.ref (He.ga K "InvalidWish"))
  c_NotACrowd : mg "NotACrowd" = some (.ref (He.ga K "NotACrowd"))
  c_NotARoll : mg "NotARoll" = some (.ref (He.ga K "NotARoll"))
  c_NotCalm : mg "NotCalm" = some (.ref (He.ga K "NotCalm"))
  c_NotPossible : mg "NotPossible" = some (.ref (He.ga K "NotPossible"))
  c_NothingToUndo : mg "NothingToUndo" = some (.ref (He.ga K "NothingToUndo"))
  c_TooFew : mg "TooFew" = some (.ref (He.ga K "TooFew"))
  c_TooMany : mg "TooMany" = some (.ref (He.ga K "TooMany"))
  c_UnknownOrder : mg "UnknownOrder" = some (.ref (He.ga K "UnknownOrder"))
  c_UnknownThing : mg "UnknownThing" = some (.ref (He.ga K "UnknownThing"))
  c_WrongName : mg "WrongName" = some (.ref (He.ga K "WrongName"))
  c_WrongValue : mg "WrongValue" = some (.ref (He.ga K "WrongValue"))
  xm_InvalidThree : XcM K (He.ga K "InvalidThree") .ve (He.ma K (He.ga K "InvalidThree") "__init__") "given"
  xm_InvalidOrder : XcM K (He.ga K "InvalidOrder") .ve (He.ma K (He.ga K "InvalidOrder") "__init__") "given"
  xm_InvalidText : XcM K (He.ga K "InvalidText") .ve (He.ma K (He.ga K "InvalidText") "__init__") "given"
  xm_InvalidWish : XcM K (He.ga K "InvalidWish") .ve (He.ma K (He.ga K "InvalidWish") "__init__") "given"
  xm_InvalidNumber : XcM K (He.ga K "InvalidNumber") .ve (He.ma K (He.ga K "InvalidNumber") "__init__") "given"
  xm_InvalidThings : XcM K (He.ga K "InvalidThings") .ve (He.ma K (He.ga K "InvalidThings") "__init__") "given"
  xm_NotACrowd : XcM K (He.ga K "NotACrowd") .ve (He.ma K (He.ga K "NotACrowd") "__init__") "given"
  xm_NotARoll : XcM K (He.ga K "NotARoll") .ve (He.ma K (He.ga K "NotARoll") "__init__") "given"
  xm_InvalidCommand : XcM K (He.ga K "InvalidCommand") .ve (He.ma K (He.ga K "InvalidCommand") "__init__") "given"
  xm_InvalidRules : XcM K (He.ga K "InvalidRules") .ve (He.ma K (He.ga K "InvalidRules") "__init__") "index"
  xm_InvalidPeople : XcM K (He.ga K "InvalidPeople") .ve (He.ma K (He.ga K "InvalidPeople") "__init__") "index"
  xm_InvalidOrders : XcM K (He.ga K "InvalidOrders") .ve (He.ma K (He.ga K "InvalidOrders") "__init__") "index"
  xm_TooMany : XcM K (He.ga K "TooMany") .ae (He.ma K (He.ga K "TooMany") "__init__") "given"
  xm_UnknownOrder : XcM K (He.ga K "UnknownOrder") .le (He.ma K (He.ga K "UnknownOrder") "__init__") "given"
  xm_UnknownThing : XcM K (He.ga K "UnknownThing") .le (He.ma K (He.ga K "UnknownThing") "__init__") "given"
  xm_Broken : XcM K (He.ga K "Broken") .ae (He.ma K (He.ga K "Broken") "__init__") "index"
  xm_NotCalm : XcM K (He.ga K "NotCalm") .ae (He.ma K (He.ga K "NotCalm") "__init__") "given"
  xm_TooFew : XcM K (He.ga K "TooFew") .ae (He.ma K (He.ga K "TooFew") "__init__") "given"
  xn_NotPossible : XcN K (He.ga K "NotPossible") .ae
  xn_WrongName : XcN K (He.ga K "WrongName") .le
  xn_WrongValue : XcN K (He.ga K "WrongValue") .ve
  xn_NothingToUndo : XcN K (He.ga K "NothingToUndo") .ae
  xi_WrongValue : ∀ z ∈ ((xt K [true, true, true, true, true, true, true, true, true, true, true, true, false, false, false, false, false, false, false, true, false, false]) : List (Addr × Bool)), L2.ExcC K z.1 ∧ PySem.W.kitOne K (.ref z.1) (.ref (He.ga K "WrongValue")) = some z.2
  xi_ValueError : ∀ z ∈ ((xt K [true, true, true, true, true, true, true, true, true, true, true, true, false, false, false, false, false, false, false, true, false, false]) : List (Addr × Bool)), L2.ExcC K z.1 ∧ PySem.W.kitOne K (.ref z.1) (.type "ValueError") = some z.2
  xi_WrongName : ∀ z ∈ ((xt K [false, false, false, false, false, false, false, false, false, false, false, false, true, true, false, false, false, false, false, false, true, false]) : List (Addr × Bool)), L2.ExcC K z.1 ∧ PySem.W.kitOne K (.ref z.1) (.ref (He.ga K "WrongName")) = some z.2
  xi_LookupError : ∀ z ∈ ((xt K [false, false, false, false, false, false, false, false, false, false, false, false, true, true, false, false, false, false, false, false, true, false]) : List (Addr × Bool)), L2.ExcC K z.1 ∧ PySem.W.kitOne K (.ref z.1) (.type "LookupError") = some z.2
  xi_NotPossible : ∀ z ∈ ((xt K [false, false, false, false, false, false, false, false, false, false, false, false, false, false, true, true, true, true, true, false, false, true]) : List (Addr × Bool)), L2.ExcC K z.1 ∧ PySem.W.kitOne K (.ref z.1) (.ref (He.ga K "NotPossible")) = some z.2
  xi_ArithmeticError : ∀ z ∈ ((xt K [false, false, false, false, false, false, false, false, false, false, false, false, false, false, true, true, true, true, true, false, false, true]) : List (Addr × Bool)), L2.ExcC K z.1 ∧ PySem.W.kitOne K (.ref z.1) (.type "ArithmeticError") = some z.2
  xi_InvalidThree : ∀ z ∈ ((xt K [false, false, true, false, false, false, false, false, false, false, false, false, false, false, false, false, false, false, false, false, false, false]) : List (Addr × Bool)), L2.ExcC K z.1 ∧ PySem.W.kitOne K (.ref z.1) (.ref (He.ga K "InvalidThree")) = some z.2
  xi_InvalidOrder : ∀ z ∈ ((xt K [false, true, false, false, false, false, false, false, false, false, false, false, false, false, false, false, false, false, false, false, false, false]) : List (Addr × Bool)), L2.ExcC K z.1 ∧ PySem.W.kitOne K (.ref z.1) (.ref (He.ga K "InvalidOrder")) = some z.2
  xi_InvalidText : ∀ z ∈ ((xt K [true, false, false, false, false, false, false, false, false, false, false, false, false, false, false, false, false, false, false, false, false, false]) : List (Addr × Bool)), L2.ExcC K z.1 ∧ PySem.W.kitOne K (.ref z.1) (.ref (He.ga K "InvalidText")) = some z.2
  xi_InvalidWish : ∀ z ∈ ((xt K [false, false, false, false, false, true, false, false, false, false, false, false, false, false, false, false, false, false, false, false, false, false]) : List (Addr × Bool)), L2.ExcC K z.1 ∧ PySem.W.kitOne K (.ref z.1) (.ref (He.ga K "InvalidWish")) = some z.2
  xi_InvalidNumber : ∀ z ∈ ((xt K [false, false, false, false, true, false, false, false, false, false, false, false, false, false, false, false, false, false, false, false, false, false]) : List (Addr × Bool)), L2.ExcC K z.1 ∧ PySem.W.kitOne K (.ref z.1) (.ref (He.ga K "InvalidNumber")) = some z.2
  xi_InvalidThings : ∀ z ∈ ((xt K [false, false, false, true, false, false, false, false, false, false, false, false, false, false, false, false, false, false, false, false, false, false]) : List (Addr × Bool)), L2.ExcC K z.1 ∧ PySem.W.kitOne K (.ref z.1) (.ref (He.ga K "InvalidThings")) = some z.2
  xi_NotACrowd : ∀ z ∈ ((xt K [false, false, false, false, false, false, false, false, true, false, false, false, false, false, false, false, false, false, false, false, false, false]) : List (Addr × Bool)), L2.ExcC K z.1 ∧ PySem.W.kitOne K (.ref z.1) (.ref (He.ga K "NotACrowd")) = some z.2
  xi_NotARoll : ∀ z ∈ ((xt K [false, false, false, false, false, false, false, true, false, false, false, false, false, false, false, false, false, false, false, false, false, false]) : List (Addr × Bool)), L2.ExcC K z.1 ∧ PySem.W.kitOne K (.ref z.1) (.ref (He.ga K "NotARoll")) = some z.2
  xi_InvalidCommand : ∀ z ∈ ((xt K [false, false, false, false, false, false, true, false, false, false, false, false, false, false, false, false, false, false, false, false, false, false]) : List (Addr × Bool)), L2.ExcC K z.1 ∧ PySem.W.kitOne K (.ref z.1) (.ref (He.ga K "InvalidCommand")) = some z.2
  xi_InvalidRules : ∀ z ∈ ((xt K [false, false, false, false, false, false, false, false, false, false, false, true, false, false, false, false, false, false, false, false, false, false]) : List (Addr × Bool)), L2.ExcC K z.1 ∧ PySem.W.kitOne K (.ref z.1) (.ref (He.ga K "InvalidRules")) = some z.2
  xi_InvalidPeople : ∀ z ∈ ((xt K [false, false, false, false, false, false, false, false, false, false, true, false, false, false, false, false, false, false, false, false, false, false]) : List (Addr × Bool)), L2.ExcC K z.1 ∧ PySem.W.kitOne K (.ref z.1) (.ref (He.ga K "InvalidPeople")) = some z.2
  xi_InvalidOrders : ∀ z ∈ ((xt K [false, false, false, false, false, false, false, false, false, true, false, false, false, false, false, false, false, false, false, false, false, false]) : List (Addr × Bool)), L2.ExcC K z.1 ∧ PySem.W.kitOne K (.ref z.1) (.ref (He.ga K "InvalidOrders")) = some z.2
  xi_TooMany : ∀ z ∈ ((xt K [false, false, false, false, false, false, false, false, false, false, false, false, false, false, true, false, false, false, false, false, false, false]) : List (Addr × Bool)), L2.ExcC K z.1 ∧ PySem.W.kitOne K (.ref z.1) (.ref (He.ga K "TooMany")) = some z.2
  xi_UnknownOrder : ∀ z ∈ ((xt K [false, false, false, false, false, false, false, false, false, false, false, false, false, true, false, false, false, false, false, false, false, false]) : List (Addr × Bool)), L2.ExcC K z.1 ∧ PySem.W.kitOne K (.ref z.1) (.ref (He.ga K "UnknownOrder")) = some z.2
  xi_UnknownThing : ∀ z ∈ ((xt K [false, false, false, false, false, false, false, false, false, false, false, false, true, false, false, false, false, false, false, false, false, false]) : List (Addr × Bool)), L2.ExcC K z.1 ∧ PySem.W.kitOne K (.ref z.1) (.ref (He.ga K "UnknownThing")) = some z.2
  xi_Broken : ∀ z ∈ ((xt K [false, false, false, false, false, false, false, false, false, false, false, false, false, false, false, false, false, true, false, false, false, false]) : List (Addr × Bool)), L2.ExcC K z.1 ∧ PySem.W.kitOne K (.ref z.1) (.ref (He.ga K "Broken")) = some z.2
  xi_NotCalm : ∀ z ∈ ((xt K [false, false, false, false, false, false, false, false, false, false, false, false, false, false, false, false, true, false, false, false, false, false]) : List (Addr × Bool)), L2.ExcC K z.1 ∧ PySem.W.kitOne K (.ref z.1) (.ref (He.ga K "NotCalm")) = some z.2
  xi_TooFew : ∀ z ∈ ((xt K [false, false, false, false, false, false, false, false, false, false, false, false, false, false, false, true, false, false, false, false, false, false]) : List (Addr × Bool)), L2.ExcC K z.1 ∧ PySem.W.kitOne K (.ref z.1) (.ref (He.ga K "TooFew")) = some z.2
  xi_NothingToUndo : ∀ z ∈ ((xt K [false, false, false, false, false, false, false, false, false, false, false, false, false, false, false, false, false, false, true, false, false, false]) : List (Addr × Bool)), L2.ExcC K z.1 ∧ PySem.W.kitOne K (.ref z.1) (.ref (He.ga K "NothingToUndo")) = some z.2
  xf_index : ∀ C ∈ ([He.ga K "InvalidOrders", He.ga K "InvalidPeople", He.ga K "InvalidRules", He.ga K "Broken"] : List Addr), XfC K C ∧ PySem.W.findIn K (.ref C) "index" = some none
  xf_given : ∀ C ∈ ([He.ga K "InvalidText", He.ga K "InvalidOrder", He.ga K "InvalidThree", He.ga K "InvalidThings", He.ga K "InvalidNumber", He.ga K "InvalidWish", He.ga K "InvalidCommand", He.ga K "NotARoll", He.ga K "NotACrowd", He.ga K "UnknownThing", He.ga K "UnknownOrder", He.ga K "TooMany", He.ga K "TooFew", He.ga K "NotCalm"] : List Addr), XfC K C ∧ PySem.W.findIn K (.ref C) "given" = some none
section
variable {P : Program} {w : World} {K : PySem.W.Frag} {mg : Str → Option Value} {base : Heap} {T : List (Addr × Str)}
theorem der_L_bases (F : Facts K mg w) {fd : FuncData} (Fn : FnA K a_L_bases fd) : Fd T P w K mg base 1 (a_L_bases.adr K) P_L_bases fd (sp_L_bases K) := by
  exact fn_D (k := 0) (m := m_L_bases K) Fn sc_L_bases mono_L_bases len_L_bases (fun cdv A outer s H E Z hr hgd =>
    (ds_cons (ds_setO (i := 1) sc_L_bases.nd (d_lst (da_cons (d_and (d_isX F.xi_WrongValue (d_var 0) (pe_glob (v := .ref _) rfl F.c_WrongValue rfl) (ClsV.own _) (hm := F.b_isinstance)) (d_one (d_isX F.xi_ValueError (d_var 0) (pe_bltn (v := .ty "ValueError") rfl F.b_ValueError rfl rfl) (ClsV.ty _) (hm := F.b_isinstance)))) da_nil))) (ds_cons (ds_expr (d_append 1 (d_and (d_isX F.xi_WrongName (d_var 0) (pe_glob (v := .ref _) rfl F.c_WrongName rfl) (ClsV.own _) (hm := F.b_isinstance)) (d_one (d_isX F.xi_LookupError (d_var 0) (pe_bltn (v := .ty "LookupError") rfl F.b_LookupError rfl rfl) (ClsV.ty _) (hm := F.b_isinstance)))))) (ds_one (ds_ret (d_op opAddA v_add (d_var 1) (DOk.frz (d_lst (da_cons (d_and (d_isX F.xi_NotPossible (d_var 0) (pe_glob (v := .ref _) rfl F.c_NotPossible rfl) (ClsV.own _) (hm := F.b_isinstance)) (d_one (d_isX F.xi_ArithmeticError (d_var 0) (pe_bltn (v := .ty "ArithmeticError") rfl F.b_ArithmeticError rfl rfl) (ClsV.ty _) (hm := F.b_isinstance)))) da_nil))))))))) (math_L_bases K)
theorem der_L_dip (F : Facts K mg w) {fd : FuncData} (Fn : FnA K a_L_dip fd) : Fd T P w K mg base 1 (a_L_dip.adr K) P_L_dip fd (sp_L_dip K) := by
  exact fn_D (k := 0) (m := m_L_dip K) Fn sc_L_dip mono_L_dip len_L_dip (fun cdv A outer s H E Z hr hgd =>
    (ds_cons (ds_put 0 (d_op opAddA v_add (d_indexO 0 d_int) d_int) d_int) (ds_cons (ds_if (t_cmp opGt v_cmp (d_indexO 0 d_int) d_int) (ds_cons (ds_set (i := 3) sc_L_dip.nd (d_op op_mod v_mod (d_cb v_int (fun t ha => by exact pe_callTy call_int1 rfl F.b_int rfl ha) (da_cons (d_indexO 0 d_int) da_nil)) (d_var 1))) (ds_cons (ds_put 0 (d_op op_fdivQ v_divQ (d_cb v_int (fun t ha => by exact pe_callTy call_int1 rfl F.b_int rfl ha) (da_cons (d_indexO 0 d_int) da_nil)) (d_var 1)) d_int) (ds_one (ds_ret (d_var 3))))) ds_nil) (ds_cons (ds_set (i := 2) sc_L_dip.nd (d_cb v_int (fun t ha => by exact pe_callTy call_int1 rfl F.b_int rfl ha) (da_cons (d_indexO 0 d_int) da_nil))) (ds_cons (ds_put 0 (d_op op_mod v_mod (d_cb v_int (fun t ha => by exact pe_callTy call_int1 rfl F.b_int rfl ha) (da_cons (d_op opAddA v_add (d_op opAddA v_add (d_op opMulA v_mul (d_var 2) d_int) (d_op opMulA v_mul (d_indexO 0 d_int) d_int)) d_int) da_nil)) d_int) d_int) (ds_one (ds_ret (d_op op_mod v_mod (d_cb v_int (fun t ha => by exact pe_callTy call_int1 rfl F.b_int rfl ha) (da_cons (d_op op_fdivQ v_divQ (d_indexO 0 d_int) d_int) da_nil)) (d_var 1))))))))) (math_L_dip K)
theorem der_L_pick (F : Facts K mg w) {fd : FuncData} (Fn : FnA K a_L_pick fd) (C_L_dip : ∃ fd, FnA K a_L_dip fd ∧ Fd T P w K mg base 1 (a_L_dip.adr K) P_L_dip fd (sp_L_dip K)) : Fd T P w K mg base 2 (a_L_pick.adr K) P_L_pick fd (sp_L_pick K) := by
  obtain ⟨fd_L_dip, Fn_L_dip, D_L_dip⟩ := C_L_dip
  have bk_L_dip := bindP (ps := P_L_dip) Fn_L_dip fun _ _ _ _ _ _ us hl => match us, hl with | [_, _], _ => rfl
  exact fn_D (k := 1) (m := m_L_pick K) Fn sc_L_pick mono_L_pick len_L_pick (fun cdv A outer s H E Z hr hgd =>
    (ds_cons (ds_set (i := 2) sc_L_pick.nd (d_call hr hgd (D_L_dip.le (by decide)) F.f_L_dip bk_L_dip pass_cx (ev_pos (da_lend 0 (da_cons (d_cb v_len (fun t ha => by exact pe_callB call_lenX rfl F.b_len rfl ha) (da_cons (d_var 1) da_nil)) da_nil))))) (ds_one (ds_ret (d_index (d_var 1) (d_var 2)))))) (math_L_pick K)
theorem der_L_odd (F : Facts K mg w) {fd : FuncData} (Fn : FnA K a_L_odd fd) (C_L_pick : ∃ fd, FnA K a_L_pick fd ∧ Fd T P w K mg base 2 (a_L_pick.adr K) P_L_pick fd (sp_L_pick K)) : Fd T P w K mg base 3 (a_L_odd.adr K) P_L_odd fd (sp_L_odd K) := by
  obtain ⟨fd_L_pick, Fn_L_pick, D_L_pick⟩ := C_L_pick
  have bk_L_pick := bindP (ps := P_L_pick) Fn_L_pick fun _ _ _ _ _ _ us hl => match us, hl with | [_, _], _ => rfl
  exact fn_D (k := 2) (m := m_L_odd K) Fn sc_L_odd mono_L_odd len_L_odd (fun cdv A outer s H E Z hr hgd =>
    (ds_cons (ds_set (i := 1) sc_L_odd.nd (DOk.frz (d_lst (da_cons d_non (da_cons d_bl (da_cons d_bl (da_cons d_int (da_cons d_int (da_cons (d_un un_neg v_neg d_int) (da_cons d_int (da_cons (d_op op_pow v_pow d_int d_int) (da_cons (d_str (l := [])) da_nil)))))))))))) (ds_cons (ds_set (i := 1) sc_L_odd.nd (d_op opAddA v_add (d_var 1) (DOk.frz (d_lst (da_cons (d_str (l := [97])) (da_cons (d_str (l := [97, 98])) (da_cons (d_str (l := [97, 98, 99])) (da_cons (d_str (l := [97, 99, 98])) (da_cons (d_tup da_nil) (da_cons (d_tup (da_cons (d_str (l := [97, 98, 99])) da_nil)) (da_cons (d_tup (da_cons d_int (da_cons d_int da_nil))) (da_cons (DOk.frz (d_lst (da_cons (d_str (l := [97, 98, 99])) da_nil))) (da_cons (DOk.frz (d_lst da_nil)) da_nil))))))))))))) (ds_one (ds_ret (d_call hr hgd (D_L_pick.le (by decide)) F.f_L_pick bk_L_pick pass_cx (ev_pos (da_lend 0 (da_cons (d_op opAddA v_add (d_var 1) (DOk.frz (d_lst (da_cons (DOk.frz d_dict0) (da_cons (DOk.frz (d_dictC [([97, 98, 99], 1)] (pps_cons pe_str pe_int pps_nil))) (da_cons (d_tup (da_cons d_non (da_cons d_int da_nil))) (da_cons (d_str (l := [97, 98, 99, 10, 99, 98, 97])) (da_cons (d_tup (da_cons (d_tup (da_cons (d_str (l := [97, 98, 99])) da_nil)) da_nil)) (da_cons (d_tup (da_cons (d_str (l := [97, 98, 99])) (da_cons (d_str (l := [97, 98, 99])) da_nil))) (da_cons (DOk.frz (d_lst (da_cons (DOk.frz (d_lst da_nil)) da_nil))) (da_cons (d_tup (da_cons (d_tup da_nil) da_nil)) (da_cons (d_str (l := [67, 65, 66])) da_nil)))))))))))) da_nil))))))))) (math_L_odd K)
theorem der_InvalidThree_init (F : Facts K mg w) {fd : FuncData} (Fn : FnA K a_InvalidThree_init fd) : IniK P w K mg base (a_InvalidThree_init.adr K) "given" := by
  exact ini_okK rfl Fn sc_InvalidThree_init (bindP (ps := P_InvalidThree_init) Fn fun _ _ _ _ _ _ us hl => match us, hl with | [_, _], _ => rfl) (bindU Fn fun _ _ _ _ _ _ us hl => match us, hl with | [_, _], _ => rfl)
theorem der_InvalidOrder_init (F : Facts K mg w) {fd : FuncData} (Fn : FnA K a_InvalidOrder_init fd) : IniK P w K mg base (a_InvalidOrder_init.adr K) "given" := by
  exact ini_okK rfl Fn sc_InvalidOrder_init (bindP (ps := P_InvalidOrder_init) Fn fun _ _ _ _ _ _ us hl => match us, hl with | [_, _], _ => rfl) (bindU Fn fun _ _ _ _ _ _ us hl => match us, hl with | [_, _], _ => rfl)
theorem der_InvalidText_init (F : Facts K mg w) {fd : FuncData} (Fn : FnA K a_InvalidText_init fd) : IniK P w K mg base (a_InvalidText_init.adr K) "given" := by
  exact ini_okK rfl Fn sc_InvalidText_init (bindP (ps := P_InvalidText_init) Fn fun _ _ _ _ _ _ us hl => match us, hl with | [_, _], _ => rfl) (bindU Fn fun _ _ _ _ _ _ us hl => match us, hl with | [_, _], _ => rfl)
theorem der_InvalidWish_init (F : Facts K mg w) {fd : FuncData} (Fn : FnA K a_InvalidWish_init fd) : IniK P w K mg base (a_InvalidWish_init.adr K) "given" := by
  exact ini_okK rfl Fn sc_InvalidWish_init (bindP (ps := P_InvalidWish_init) Fn fun _ _ _ _ _ _ us hl => match us, hl with | [_, _], _ => rfl) (bindU Fn fun _ _ _ _ _ _ us hl => match us, hl with | [_, _], _ => rfl)
theorem der_InvalidNumber_init (F : Facts K mg w) {fd : FuncData} (Fn : FnA K a_InvalidNumber_init fd) : IniK P w K mg base (a_InvalidNumber_init.adr K) "given" := by
  exact ini_okK rfl Fn sc_InvalidNumber_init (bindP (ps := P_InvalidNumber_init) Fn fun _ _ _ _ _ _ us hl => match us, hl with | [_, _], _ => rfl) (bindU Fn fun _ _ _ _ _ _ us hl => match us, hl with | [_, _], _ => rfl)
theorem der_InvalidThings_init (F : Facts K mg w) {fd : FuncData} (Fn : FnA K a_InvalidThings_init fd) : IniK P w K mg base (a_InvalidThings_init.adr K) "given" := by
  exact ini_okK rfl Fn sc_InvalidThings_init (bindP (ps := P_InvalidThings_init) Fn fun _ _ _ _ _ _ us hl => match us, hl with | [_, _], _ => rfl) (bindU Fn fun _ _ _ _ _ _ us hl => match us, hl with | [_, _], _ => rfl)
theorem der_NotACrowd_init (F : Facts K mg w) {fd : FuncData} (Fn : FnA K a_NotACrowd_init fd) : IniK P w K mg base (a_NotACrowd_init.adr K) "given" := by
  exact ini_okK rfl Fn sc_NotACrowd_init (bindP (ps := P_NotACrowd_init) Fn fun _ _ _ _ _ _ us hl => match us, hl with | [_, _], _ => rfl) (bindU Fn fun _ _ _ _ _ _ us hl => match us, hl with | [_, _], _ => rfl)
theorem der_NotARoll_init (F : Facts K mg w) {fd : FuncData} (Fn : FnA K a_NotARoll_init fd) : IniK P w K mg base (a_NotARoll_init.adr K) "given" := by
  exact ini_okK rfl Fn sc_NotARoll_init (bindP (ps := P_NotARoll_init) Fn fun _ _ _ _ _ _ us hl => match us, hl with | [_, _], _ => rfl) (bindU Fn fun _ _ _ _ _ _ us hl => match us, hl with | [_, _], _ => rfl)
theorem der_InvalidCommand_init (F : Facts K mg w) {fd : FuncData} (Fn : FnA K a_InvalidCommand_init fd) : IniK P w K mg base (a_InvalidCommand_init.adr K) "given" := by
  exact ini_okK rfl Fn sc_InvalidCommand_init (bindP (ps := P_InvalidCommand_init) Fn fun _ _ _ _ _ _ us hl => match us, hl with | [_, _], _ => rfl) (bindU Fn fun _ _ _ _ _ _ us hl => match us, hl with | [_, _], _ => rfl)
theorem der_InvalidRules_init (F : Facts K mg w) {fd : FuncData} (Fn : FnA K a_InvalidRules_init fd) : IniK P w K mg base (a_InvalidRules_init.adr K) "index" := by
  exact ini_okK rfl Fn sc_InvalidRules_init (bindP (ps := P_InvalidRules_init) Fn fun _ _ _ _ _ _ us hl => match us, hl with | [_, _], _ => rfl) (bindU Fn fun _ _ _ _ _ _ us hl => match us, hl with | [_, _], _ => rfl)
theorem der_InvalidPeople_init (F : Facts K mg w) {fd : FuncData} (Fn : FnA K a_InvalidPeople_init fd) : IniK P w K mg base (a_InvalidPeople_init.adr K) "index" := by
  exact ini_okK rfl Fn sc_InvalidPeople_init (bindP (ps := P_InvalidPeople_init) Fn fun _ _ _ _ _ _ us hl => match us, hl with | [_, _], _ => rfl) (bindU Fn fun _ _ _ _ _ _ us hl => match us, hl with | [_, _], _ => rfl)
theorem der_InvalidOrders_init (F : Facts K mg w) {fd : FuncData} (Fn : FnA K a_InvalidOrders_init fd) : IniK P w K mg base (a_InvalidOrders_init.adr K) "index" := by
  exact ini_okK rfl Fn sc_InvalidOrders_init (bindP (ps := P_InvalidOrders_init) Fn fun _ _ _ _ _ _ us hl => match us, hl with | [_, _], _ => rfl) (bindU Fn fun _ _ _ _ _ _ us hl => match us, hl with | [_, _], _ => rfl)
theorem der_TooMany_init (F : Facts K mg w) {fd : FuncData} (Fn : FnA K a_TooMany_init fd) : IniK P w K mg base (a_TooMany_init.adr K) "given" := by
  exact ini_okK rfl Fn sc_TooMany_init (bindP (ps := P_TooMany_init) Fn fun _ _ _ _ _ _ us hl => match us, hl with | [_, _], _ => rfl) (bindU Fn fun _ _ _ _ _ _ us hl => match us, hl with | [_, _], _ => rfl)
theorem der_UnknownOrder_init (F : Facts K mg w) {fd : FuncData} (Fn : FnA K a_UnknownOrder_init fd) : IniK P w K mg base (a_UnknownOrder_init.adr K) "given" := by
  exact ini_okK rfl Fn sc_UnknownOrder_init (bindP (ps := P_UnknownOrder_init) Fn fun _ _ _ _ _ _ us hl => match us, hl with | [_, _], _ => rfl) (bindU Fn fun _ _ _ _ _ _ us hl => match us, hl with | [_, _], _ => rfl)
theorem der_UnknownThing_init (F : Facts K mg w) {fd : FuncData} (Fn : FnA K a_UnknownThing_init fd) : IniK P w K mg base (a_UnknownThing_init.adr K) "given" := by
  exact ini_okK rfl Fn sc_UnknownThing_init (bindP (ps := P_UnknownThing_init) Fn fun _ _ _ _ _ _ us hl => match us, hl with | [_, _], _ => rfl) (bindU Fn fun _ _ _ _ _ _ us hl => match us, hl with | [_, _], _ => rfl)
theorem der_Broken_init (F : Facts K mg w) {fd : FuncData} (Fn : FnA K a_Broken_init fd) : IniK P w K mg base (a_Broken_init.adr K) "index" := by
  exact ini_okK rfl Fn sc_Broken_init (bindP (ps := P_Broken_init) Fn fun _ _ _ _ _ _ us hl => match us, hl with | [_, _], _ => rfl) (bindU Fn fun _ _ _ _ _ _ us hl => match us, hl with | [_, _], _ => rfl)
theorem der_NotCalm_init (F : Facts K mg w) {fd : FuncData} (Fn : FnA K a_NotCalm_init fd) : IniK P w K mg base (a_NotCalm_init.adr K) "given" := by
  exact ini_okK rfl Fn sc_NotCalm_init (bindP (ps := P_NotCalm_init) Fn fun _ _ _ _ _ _ us hl => match us, hl with | [_, _], _ => rfl) (bindU Fn fun _ _ _ _ _ _ us hl => match us, hl with | [_, _], _ => rfl)
theorem der_TooFew_init (F : Facts K mg w) {fd : FuncData} (Fn : FnA K a_TooFew_init fd) : IniK P w K mg base (a_TooFew_init.adr K) "given" := by
  exact ini_okK rfl Fn sc_TooFew_init (bindP (ps := P_TooFew_init) Fn fun _ _ _ _ _ _ us hl => match us, hl with | [_, _], _ => rfl) (bindU Fn fun _ _ _ _ _ _ us hl => match us, hl with | [_, _], _ => rfl)
theorem der_L_by_word (F : Facts K mg w) {fd : FuncData} (Fn : FnA K a_L_by_word fd) (C_Broken_init : ∃ fd, FnA K a_Broken_init fd ∧ IniK P w K mg base (a_Broken_init.adr K) "index") (C_InvalidCommand_init : ∃ fd, FnA K a_InvalidCommand_init fd ∧ IniK P w K mg base (a_InvalidCommand_init.adr K) "given") (C_InvalidNumber_init : ∃ fd, FnA K a_InvalidNumber_init fd ∧ IniK P w K mg base (a_InvalidNumber_init.adr K) "given") (C_InvalidOrder_init : ∃ fd, FnA K a_InvalidOrder_init fd ∧ IniK P w K mg base (a_InvalidOrder_init.adr K) "given") (C_InvalidOrders_init : ∃ fd, FnA K a_InvalidOrders_init fd ∧ IniK P w K mg base (a_InvalidOrders_init.adr K) "index") (C_InvalidPeople_init : ∃ fd, FnA K a_InvalidPeople_init fd ∧ IniK P w K mg base (a_InvalidPeople_init.adr K) "index") (C_InvalidRules_init : ∃ fd, FnA K a_InvalidRules_init fd ∧ IniK P w K mg base (a_InvalidRules_init.adr K) "index") (C_InvalidText_init : ∃ fd, FnA K a_InvalidText_init fd ∧ IniK P w K mg base (a_InvalidText_init.adr K) "given") (C_InvalidThings_init : ∃ fd, FnA K a_InvalidThings_init fd ∧ IniK P w K mg base (a_InvalidThings_init.adr K) "given") (C_InvalidThree_init : ∃ fd, FnA K a_InvalidThree_init fd ∧ IniK P w K mg base (a_InvalidThree_init.adr K) "given") (C_InvalidWish_init : ∃ fd, FnA K a_InvalidWish_init fd ∧ IniK P w K mg base (a_InvalidWish_init.adr K) "given") (C_NotACrowd_init : ∃ fd, FnA K a_NotACrowd_init fd ∧ IniK P w K mg base (a_NotACrowd_init.adr K) "given") (C_NotARoll_init : ∃ fd, FnA K a_NotARoll_init fd ∧ IniK P w K mg base (a_NotARoll_init.adr K) "given") (C_NotCalm_init : ∃ fd, FnA K a_NotCalm_init fd ∧ IniK P w K mg base (a_NotCalm_init.adr K) "given") (C_TooFew_init : ∃ fd, FnA K a_TooFew_init fd ∧ IniK P w K mg base (a_TooFew_init.adr K) "given") (C_TooMany_init : ∃ fd, FnA K a_TooMany_init fd ∧ IniK P w K mg base (a_TooMany_init.adr K) "given") (C_UnknownOrder_init : ∃ fd, FnA K a_UnknownOrder_init fd ∧ IniK P w K mg base (a_UnknownOrder_init.adr K) "given") (C_UnknownThing_init : ∃ fd, FnA K a_UnknownThing_init fd ∧ IniK P w K mg base (a_UnknownThing_init.adr K) "given") : Fd T P w K mg base 3 (a_L_by_word.adr K) P_L_by_word fd (sp_L_by_word K) := by
  obtain ⟨fd_Broken_init, Fn_Broken_init, D_Broken_init⟩ := C_Broken_init
  obtain ⟨fd_InvalidCommand_init, Fn_InvalidCommand_init, D_InvalidCommand_init⟩ := C_InvalidCommand_init
  obtain ⟨fd_InvalidNumber_init, Fn_InvalidNumber_init, D_InvalidNumber_init⟩ := C_InvalidNumber_init
  obtain ⟨fd_InvalidOrder_init, Fn_InvalidOrder_init, D_InvalidOrder_init⟩ := C_InvalidOrder_init
  obtain ⟨fd_InvalidOrders_init, Fn_InvalidOrders_init, D_InvalidOrders_init⟩ := C_InvalidOrders_init
  obtain ⟨fd_InvalidPeople_init, Fn_InvalidPeople_init, D_InvalidPeople_init⟩ := C_InvalidPeople_init
  obtain ⟨fd_InvalidRules_init, Fn_InvalidRules_init, D_InvalidRules_init⟩ := C_InvalidRules_init
  obtain ⟨fd_InvalidText_init, Fn_InvalidText_init, D_InvalidText_init⟩ := C_InvalidText_init
  obtain ⟨fd_InvalidThings_init, Fn_InvalidThings_init, D_InvalidThings_init⟩ := C_InvalidThings_init
  obtain ⟨fd_InvalidThree_init, Fn_InvalidThree_init, D_InvalidThree_init⟩ := C_InvalidThree_init
  obtain ⟨fd_InvalidWish_init, Fn_InvalidWish_init, D_InvalidWish_init⟩ := C_InvalidWish_init
  obtain ⟨fd_NotACrowd_init, Fn_NotACrowd_init, D_NotACrowd_init⟩ := C_NotACrowd_init
  obtain ⟨fd_NotARoll_init, Fn_NotARoll_init, D_NotARoll_init⟩ := C_NotARoll_init
  obtain ⟨fd_NotCalm_init, Fn_NotCalm_init, D_NotCalm_init⟩ := C_NotCalm_init
  obtain ⟨fd_TooFew_init, Fn_TooFew_init, D_TooFew_init⟩ := C_TooFew_init
  obtain ⟨fd_TooMany_init, Fn_TooMany_init, D_TooMany_init⟩ := C_TooMany_init
  obtain ⟨fd_UnknownOrder_init, Fn_UnknownOrder_init, D_UnknownOrder_init⟩ := C_UnknownOrder_init
  obtain ⟨fd_UnknownThing_init, Fn_UnknownThing_init, D_UnknownThing_init⟩ := C_UnknownThing_init
  exact fn_D (k := 2) (m := m_L_by_word K) Fn sc_L_by_word mono_L_by_word len_L_by_word (fun cdv A outer s H E Z hr hgd =>
    (ds_cons (ds_set (i := 2) sc_L_by_word.nd (DOk.frz (d_lst (da_cons (d_mkXk F.xm_InvalidText D_InvalidText_init (hr.mono (by decide)) hgd F.c_InvalidText (d_var 0)) (da_cons (d_mkXk F.xm_InvalidOrder D_InvalidOrder_init (hr.mono (by decide)) hgd F.c_InvalidOrder (d_var 1)) (da_cons (d_mkXk F.xm_InvalidThree D_InvalidThree_init (hr.mono (by decide)) hgd F.c_InvalidThree (d_var 0)) da_nil)))))) (ds_cons (ds_set (i := 2) sc_L_by_word.nd (d_op opAddA v_add (d_var 2) (DOk.frz (d_lst (da_cons (d_mkXk F.xm_InvalidThings D_InvalidThings_init (hr.mono (by decide)) hgd F.c_InvalidThings (d_var 1)) (da_cons (d_mkXk F.xm_InvalidNumber D_InvalidNumber_init (hr.mono (by decide)) hgd F.c_InvalidNumber (d_var 0)) (da_cons (d_mkXk F.xm_InvalidWish D_InvalidWish_init (hr.mono (by decide)) hgd F.c_InvalidWish (d_var 1)) da_nil))))))) (ds_cons (ds_set (i := 2) sc_L_by_word.nd (d_op opAddA v_add (d_var 2) (DOk.frz (d_lst (da_cons (d_mkXk F.xm_InvalidCommand D_InvalidCommand_init (hr.mono (by decide)) hgd F.c_InvalidCommand (d_var 0)) (da_cons (d_mkXk F.xm_NotARoll D_NotARoll_init (hr.mono (by decide)) hgd F.c_NotARoll (d_var 1)) (da_cons (d_mkXk F.xm_NotACrowd D_NotACrowd_init (hr.mono (by decide)) hgd F.c_NotACrowd (d_var 0)) da_nil))))))) (ds_cons (ds_set (i := 2) sc_L_by_word.nd (d_op opAddA v_add (d_var 2) (DOk.frz (d_lst (da_cons (d_mkXk F.xm_InvalidOrders D_InvalidOrders_init (hr.mono (by decide)) hgd F.c_InvalidOrders (d_var 1)) (da_cons (d_mkXk F.xm_InvalidPeople D_InvalidPeople_init (hr.mono (by decide)) hgd F.c_InvalidPeople (d_var 0)) (da_cons (d_mkXk F.xm_InvalidRules D_InvalidRules_init (hr.mono (by decide)) hgd F.c_InvalidRules (d_var 1)) da_nil))))))) (ds_cons (ds_set (i := 2) sc_L_by_word.nd (d_op opAddA v_add (d_var 2) (DOk.frz (d_lst (da_cons (d_mkXk F.xm_UnknownThing D_UnknownThing_init (hr.mono (by decide)) hgd F.c_UnknownThing (d_var 0)) (da_cons (d_mkXk F.xm_UnknownOrder D_UnknownOrder_init (hr.mono (by decide)) hgd F.c_UnknownOrder (d_var 1)) (da_cons (d_mkXk F.xm_TooMany D_TooMany_init (hr.mono (by decide)) hgd F.c_TooMany (d_var 0)) da_nil))))))) (ds_cons (ds_set (i := 2) sc_L_by_word.nd (d_op opAddA v_add (d_var 2) (DOk.frz (d_lst (da_cons (d_mkXk F.xm_TooFew D_TooFew_init (hr.mono (by decide)) hgd F.c_TooFew (d_var 1)) (da_cons (d_mkXk F.xm_NotCalm D_NotCalm_init (hr.mono (by decide)) hgd F.c_NotCalm (d_var 0)) (da_cons (d_mkXk F.xm_Broken D_Broken_init (hr.mono (by decide)) hgd F.c_Broken (d_var 1)) da_nil))))))) (ds_one (ds_ret (d_var 2)))))))))) (math_L_by_word K)
theorem der_L_by_place (F : Facts K mg w) {fd : FuncData} (Fn : FnA K a_L_by_place fd) (C_Broken_init : ∃ fd, FnA K a_Broken_init fd ∧ IniK P w K mg base (a_Broken_init.adr K) "index") (C_InvalidCommand_init : ∃ fd, FnA K a_InvalidCommand_init fd ∧ IniK P w K mg base (a_InvalidCommand_init.adr K) "given") (C_InvalidNumber_init : ∃ fd, FnA K a_InvalidNumber_init fd ∧ IniK P w K mg base (a_InvalidNumber_init.adr K) "given") (C_InvalidOrder_init : ∃ fd, FnA K a_InvalidOrder_init fd ∧ IniK P w K mg base (a_InvalidOrder_init.adr K) "given") (C_InvalidOrders_init : ∃ fd, FnA K a_InvalidOrders_init fd ∧ IniK P w K mg base (a_InvalidOrders_init.adr K) "index") (C_InvalidPeople_init : ∃ fd, FnA K a_InvalidPeople_init fd ∧ IniK P w K mg base (a_InvalidPeople_init.adr K) "index") (C_InvalidRules_init : ∃ fd, FnA K a_InvalidRules_init fd ∧ IniK P w K mg base (a_InvalidRules_init.adr K) "index") (C_InvalidText_init : ∃ fd, FnA K a_InvalidText_init fd ∧ IniK P w K mg base (a_InvalidText_init.adr K) "given") (C_InvalidThings_init : ∃ fd, FnA K a_InvalidThings_init fd ∧ IniK P w K mg base (a_InvalidThings_init.adr K) "given") (C_InvalidThree_init : ∃ fd, FnA K a_InvalidThree_init fd ∧ IniK P w K mg base (a_InvalidThree_init.adr K) "given") (C_InvalidWish_init : ∃ fd, FnA K a_InvalidWish_init fd ∧ IniK P w K mg base (a_InvalidWish_init.adr K) "given") (C_NotACrowd_init : ∃ fd, FnA K a_NotACrowd_init fd ∧ IniK P w K mg base (a_NotACrowd_init.adr K) "given") (C_NotARoll_init : ∃ fd, FnA K a_NotARoll_init fd ∧ IniK P w K mg base (a_NotARoll_init.adr K) "given") (C_NotCalm_init : ∃ fd, FnA K a_NotCalm_init fd ∧ IniK P w K mg base (a_NotCalm_init.adr K) "given") (C_TooFew_init : ∃ fd, FnA K a_TooFew_init fd ∧ IniK P w K mg base (a_TooFew_init.adr K) "given") (C_TooMany_init : ∃ fd, FnA K a_TooMany_init fd ∧ IniK P w K mg base (a_TooMany_init.adr K) "given") (C_UnknownOrder_init : ∃ fd, FnA K a_UnknownOrder_init fd ∧ IniK P w K mg base (a_UnknownOrder_init.adr K) "given") (C_UnknownThing_init : ∃ fd, FnA K a_UnknownThing_init fd ∧ IniK P w K mg base (a_UnknownThing_init.adr K) "given") : Fd T P w K mg base 3 (a_L_by_place.adr K) P_L_by_place fd (sp_L_by_place K) := by
  obtain ⟨fd_Broken_init, Fn_Broken_init, D_Broken_init⟩ := C_Broken_init
  obtain ⟨fd_InvalidCommand_init, Fn_InvalidCommand_init, D_InvalidCommand_init⟩ := C_InvalidCommand_init
  obtain ⟨fd_InvalidNumber_init, Fn_InvalidNumber_init, D_InvalidNumber_init⟩ := C_InvalidNumber_init
  obtain ⟨fd_InvalidOrder_init, Fn_InvalidOrder_init, D_InvalidOrder_init⟩ := C_InvalidOrder_init
  obtain ⟨fd_InvalidOrders_init, Fn_InvalidOrders_init, D_InvalidOrders_init⟩ := C_InvalidOrders_init
  obtain ⟨fd_InvalidPeople_init, Fn_InvalidPeople_init, D_InvalidPeople_init⟩ := C_InvalidPeople_init
  obtain ⟨fd_InvalidRules_init, Fn_InvalidRules_init, D_InvalidRules_init⟩ := C_InvalidRules_init
  obtain ⟨fd_InvalidText_init, Fn_InvalidText_init, D_InvalidText_init⟩ := C_InvalidText_init
  obtain ⟨fd_InvalidThings_init, Fn_InvalidThings_init, D_InvalidThings_init⟩ := C_InvalidThings_init
  obtain ⟨fd_InvalidThree_init, Fn_InvalidThree_init, D_InvalidThree_init⟩ := C_InvalidThree_init
  obtain ⟨fd_InvalidWish_init, Fn_InvalidWish_init, D_InvalidWish_init⟩ := C_InvalidWish_init
  obtain ⟨fd_NotACrowd_init, Fn_NotACrowd_init, D_NotACrowd_init⟩ := C_NotACrowd_init
  obtain ⟨fd_NotARoll_init, Fn_NotARoll_init, D_NotARoll_init⟩ := C_NotARoll_init
  obtain ⟨fd_NotCalm_init, Fn_NotCalm_init, D_NotCalm_init⟩ := C_NotCalm_init
  obtain ⟨fd_TooFew_init, Fn_TooFew_init, D_TooFew_init⟩ := C_TooFew_init
  obtain ⟨fd_TooMany_init, Fn_TooMany_init, D_TooMany_init⟩ := C_TooMany_init
  obtain ⟨fd_UnknownOrder_init, Fn_UnknownOrder_init, D_UnknownOrder_init⟩ := C_UnknownOrder_init
  obtain ⟨fd_UnknownThing_init, Fn_UnknownThing_init, D_UnknownThing_init⟩ := C_UnknownThing_init
  exact fn_D (k := 2) (m := m_L_by_place K) Fn sc_L_by_place mono_L_by_place len_L_by_place (fun cdv A outer s H E Z hr hgd =>
    (ds_cons (ds_set (i := 2) sc_L_by_place.nd (DOk.frz (d_lst (da_cons (d_mkX F.xm_InvalidText D_InvalidText_init (hr.mono (by decide)) hgd F.c_InvalidText (d_var 0)) (da_cons (d_mkX F.xm_InvalidOrder D_InvalidOrder_init (hr.mono (by decide)) hgd F.c_InvalidOrder (d_var 1)) (da_cons (d_mkX F.xm_InvalidThree D_InvalidThree_init (hr.mono (by decide)) hgd F.c_InvalidThree (d_var 0)) (da_cons (d_mkX F.xm_InvalidThings D_InvalidThings_init (hr.mono (by decide)) hgd F.c_InvalidThings (d_var 1)) da_nil))))))) (ds_cons (ds_set (i := 2) sc_L_by_place.nd (d_op opAddA v_add (d_var 2) (DOk.frz (d_lst (da_cons (d_mkX F.xm_InvalidNumber D_InvalidNumber_init (hr.mono (by decide)) hgd F.c_InvalidNumber (d_var 0)) (da_cons (d_mkX F.xm_InvalidWish D_InvalidWish_init (hr.mono (by decide)) hgd F.c_InvalidWish (d_var 1)) (da_cons (d_mkX F.xm_InvalidCommand D_InvalidCommand_init (hr.mono (by decide)) hgd F.c_InvalidCommand (d_var 0)) (da_cons (d_mkX F.xm_NotARoll D_NotARoll_init (hr.mono (by decide)) hgd F.c_NotARoll (d_var 1)) da_nil)))))))) (ds_cons (ds_set (i := 2) sc_L_by_place.nd (d_op opAddA v_add (d_var 2) (DOk.frz (d_lst (da_cons (d_mkX F.xm_NotACrowd D_NotACrowd_init (hr.mono (by decide)) hgd F.c_NotACrowd (d_var 0)) (da_cons (d_mkX F.xm_InvalidOrders D_InvalidOrders_init (hr.mono (by decide)) hgd F.c_InvalidOrders (d_var 1)) (da_cons (d_mkX F.xm_InvalidPeople D_InvalidPeople_init (hr.mono (by decide)) hgd F.c_InvalidPeople (d_var 0)) (da_cons (d_mkX F.xm_InvalidRules D_InvalidRules_init (hr.mono (by decide)) hgd F.c_InvalidRules (d_var 1)) da_nil)))))))) (ds_cons (ds_set (i := 2) sc_L_by_place.nd (d_op opAddA v_add (d_var 2) (DOk.frz (d_lst (da_cons (d_mkX F.xm_UnknownThing D_UnknownThing_init (hr.mono (by decide)) hgd F.c_UnknownThing (d_var 0)) (da_cons (d_mkX F.xm_UnknownOrder D_UnknownOrder_init (hr.mono (by decide)) hgd F.c_UnknownOrder (d_var 1)) (da_cons (d_mkX F.xm_TooMany D_TooMany_init (hr.mono (by decide)) hgd F.c_TooMany (d_var 0)) (da_cons (d_mkX F.xm_TooFew D_TooFew_init (hr.mono (by decide)) hgd F.c_TooFew (d_var 1)) da_nil)))))))) (ds_cons (ds_set (i := 2) sc_L_by_place.nd (d_op opAddA v_add (d_var 2) (DOk.frz (d_lst (da_cons (d_mkX F.xm_NotCalm D_NotCalm_init (hr.mono (by decide)) hgd F.c_NotCalm (d_var 0)) (da_cons (d_mkX F.xm_Broken D_Broken_init (hr.mono (by decide)) hgd F.c_Broken (d_var 1)) da_nil)))))) (ds_one (ds_ret (d_var 2))))))))) (math_L_by_place K)
theorem der_L_sorts (F : Facts K mg w) {fd : FuncData} (Fn : FnA K a_L_sorts fd) : Fd T P w K mg base 1 (a_L_sorts.adr K) P_L_sorts fd (sp_L_sorts K) := by
  exact fn_D (k := 0) (m := m_L_sorts K) Fn sc_L_sorts mono_L_sorts len_L_sorts (fun cdv A outer s H E Z hr hgd =>
    (ds_cons (ds_set (i := 1) sc_L_sorts.nd (DOk.frz (d_lst (da_cons (d_isX F.xi_InvalidText (d_var 0) (pe_glob (v := .ref _) rfl F.c_InvalidText rfl) (ClsV.own _) (hm := F.b_isinstance)) (da_cons (d_isX F.xi_InvalidOrder (d_var 0) (pe_glob (v := .ref _) rfl F.c_InvalidOrder rfl) (ClsV.own _) (hm := F.b_isinstance)) (da_cons (d_isX F.xi_InvalidThree (d_var 0) (pe_glob (v := .ref _) rfl F.c_InvalidThree rfl) (ClsV.own _) (hm := F.b_isinstance)) da_nil)))))) (ds_cons (ds_set (i := 1) sc_L_sorts.nd (d_op opAddA v_add (d_var 1) (DOk.frz (d_lst (da_cons (d_isX F.xi_InvalidThings (d_var 0) (pe_glob (v := .ref _) rfl F.c_InvalidThings rfl) (ClsV.own _) (hm := F.b_isinstance)) (da_cons (d_isX F.xi_InvalidNumber (d_var 0) (pe_glob (v := .ref _) rfl F.c_InvalidNumber rfl) (ClsV.own _) (hm := F.b_isinstance)) (da_cons (d_isX F.xi_InvalidWish (d_var 0) (pe_glob (v := .ref _) rfl F.c_InvalidWish rfl) (ClsV.own _) (hm := F.b_isinstance)) da_nil))))))) (ds_cons (ds_set (i := 1) sc_L_sorts.nd (d_op opAddA v_add (d_var 1) (DOk.frz (d_lst (da_cons (d_isX F.xi_InvalidCommand (d_var 0) (pe_glob (v := .ref _) rfl F.c_InvalidCommand rfl) (ClsV.own _) (hm := F.b_isinstance)) (da_cons (d_isX F.xi_NotARoll (d_var 0) (pe_glob (v := .ref _) rfl F.c_NotARoll rfl) (ClsV.own _) (hm := F.b_isinstance)) (da_cons (d_isX F.xi_NotACrowd (d_var 0) (pe_glob (v := .ref _) rfl F.c_NotACrowd rfl) (ClsV.own _) (hm := F.b_isinstance)) da_nil))))))) (ds_cons (ds_set (i := 1) sc_L_sorts.nd (d_op opAddA v_add (d_var 1) (DOk.frz (d_lst (da_cons (d_isX F.xi_InvalidOrders (d_var 0) (pe_glob (v := .ref _) rfl F.c_InvalidOrders rfl) (ClsV.own _) (hm := F.b_isinstance)) (da_cons (d_isX F.xi_InvalidPeople (d_var 0) (pe_glob (v := .ref _) rfl F.c_InvalidPeople rfl) (ClsV.own _) (hm := F.b_isinstance)) (da_cons (d_isX F.xi_InvalidRules (d_var 0) (pe_glob (v := .ref _) rfl F.c_InvalidRules rfl) (ClsV.own _) (hm := F.b_isinstance)) da_nil))))))) (ds_cons (ds_set (i := 1) sc_L_sorts.nd (d_op opAddA v_add (d_var 1) (DOk.frz (d_lst (da_cons (d_isX F.xi_UnknownThing (d_var 0) (pe_glob (v := .ref _) rfl F.c_UnknownThing rfl) (ClsV.own _) (hm := F.b_isinstance)) (da_cons (d_isX F.xi_UnknownOrder (d_var 0) (pe_glob (v := .ref _) rfl F.c_UnknownOrder rfl) (ClsV.own _) (hm := F.b_isinstance)) (da_cons (d_isX F.xi_TooMany (d_var 0) (pe_glob (v := .ref _) rfl F.c_TooMany rfl) (ClsV.own _) (hm := F.b_isinstance)) da_nil))))))) (ds_cons (ds_set (i := 1) sc_L_sorts.nd (d_op opAddA v_add (d_var 1) (DOk.frz (d_lst (da_cons (d_isX F.xi_TooFew (d_var 0) (pe_glob (v := .ref _) rfl F.c_TooFew rfl) (ClsV.own _) (hm := F.b_isinstance)) (da_cons (d_isX F.xi_NotCalm (d_var 0) (pe_glob (v := .ref _) rfl F.c_NotCalm rfl) (ClsV.own _) (hm := F.b_isinstance)) (da_cons (d_isX F.xi_Broken (d_var 0) (pe_glob (v := .ref _) rfl F.c_Broken rfl) (ClsV.own _) (hm := F.b_isinstance)) da_nil))))))) (ds_cons (ds_set (i := 1) sc_L_sorts.nd (d_op opAddA v_add (d_var 1) (DOk.frz (d_lst (da_cons (d_isX F.xi_NothingToUndo (d_var 0) (pe_glob (v := .ref _) rfl F.c_NothingToUndo rfl) (ClsV.own _) (hm := F.b_isinstance)) da_nil))))) (ds_one (ds_ret (d_var 1))))))))))) (math_L_sorts K)
theorem der_L_kept (F : Facts K mg w) {fd : FuncData} (Fn : FnA K a_L_kept fd) : Fd T P w K mg base 1 (a_L_kept.adr K) P_L_kept fd (sp_L_kept K) := by
  exact fn_D (k := 0) (m := m_L_kept K) Fn sc_L_kept mono_L_kept len_L_kept (fun cdv A outer s H E Z hr hgd =>
    (ds_one (ds_ret (d_if (t_w (w_or (t_chain opLt opLt v_cmp v_cmp d_int (d_var 1) d_int) (w_or1 (t_cmp (opEqP hr.units) v_eq (d_var 1) d_int)))) (d_xfX F.xf_index (d_var 0)) (d_xfX F.xf_given (d_var 0)))))) (math_L_kept K)
theorem der_L_right (F : Facts K mg w) {fd : FuncData} (Fn : FnA K a_L_right fd) (C_L_bases : ∃ fd, FnA K a_L_bases fd ∧ Fd T P w K mg base 1 (a_L_bases.adr K) P_L_bases fd (sp_L_bases K)) (C_L_by_place : ∃ fd, FnA K a_L_by_place fd ∧ Fd T P w K mg base 3 (a_L_by_place.adr K) P_L_by_place fd (sp_L_by_place K)) (C_L_by_word : ∃ fd, FnA K a_L_by_word fd ∧ Fd T P w K mg base 3 (a_L_by_word.adr K) P_L_by_word fd (sp_L_by_word K)) (C_L_kept : ∃ fd, FnA K a_L_kept fd ∧ Fd T P w K mg base 1 (a_L_kept.adr K) P_L_kept fd (sp_L_kept K)) (C_L_odd : ∃ fd, FnA K a_L_odd fd ∧ Fd T P w K mg base 3 (a_L_odd.adr K) P_L_odd fd (sp_L_odd K)) (C_L_sorts : ∃ fd, FnA K a_L_sorts fd ∧ Fd T P w K mg base 1 (a_L_sorts.adr K) P_L_sorts fd (sp_L_sorts K)) : Fd T P w K mg base 4 (a_L_right.adr K) P_L_right fd (sp_L_right K) := by
  obtain ⟨fd_L_bases, Fn_L_bases, D_L_bases⟩ := C_L_bases
  have bk_L_bases := bindP (ps := P_L_bases) Fn_L_bases fun _ _ _ _ _ _ us hl => match us, hl with | [_], _ => rfl
  obtain ⟨fd_L_by_place, Fn_L_by_place, D_L_by_place⟩ := C_L_by_place
  have bk_L_by_place := bindP (ps := P_L_by_place) Fn_L_by_place fun _ _ _ _ _ _ us hl => match us, hl with | [_, _], _ => rfl
  obtain ⟨fd_L_by_word, Fn_L_by_word, D_L_by_word⟩ := C_L_by_word
  have bk_L_by_word := bindP (ps := P_L_by_word) Fn_L_by_word fun _ _ _ _ _ _ us hl => match us, hl with | [_, _], _ => rfl
  obtain ⟨fd_L_kept, Fn_L_kept, D_L_kept⟩ := C_L_kept
  have bk_L_kept := bindP (ps := P_L_kept) Fn_L_kept fun _ _ _ _ _ _ us hl => match us, hl with | [_, _], _ => rfl
  obtain ⟨fd_L_odd, Fn_L_odd, D_L_odd⟩ := C_L_odd
  have bk_L_odd := bindP (ps := P_L_odd) Fn_L_odd fun _ _ _ _ _ _ us hl => match us, hl with | [_], _ => rfl
  obtain ⟨fd_L_sorts, Fn_L_sorts, D_L_sorts⟩ := C_L_sorts
  have bk_L_sorts := bindP (ps := P_L_sorts) Fn_L_sorts fun _ _ _ _ _ _ us hl => match us, hl with | [_], _ => rfl
  exact fn_D (k := 3) (m := m_L_right K) Fn sc_L_right mono_L_right len_L_right (fun cdv A outer s H E Z hr hgd =>
    (ds_cons (ds_par (i := 2) (j := 3) rfl sc_L_right.nd (d_call hr hgd (D_L_odd.le (by decide)) F.f_L_odd bk_L_odd pass_cx (ev_pos (da_lend 0 da_nil))) (d_call hr hgd (D_L_odd.le (by decide)) F.f_L_odd bk_L_odd pass_cx (ev_pos (da_lend 0 da_nil)))) (ds_cons (ds_for owns_cx rfl (di_any (DOk.frz (d_lst (da_cons (d_call hr hgd (D_L_by_place.le (by decide)) F.f_L_by_place bk_L_by_place pass_cx (ev_pos (da_cons (d_var 2) (da_cons (d_var 3) da_nil)))) (da_cons (d_call hr hgd (D_L_by_word.le (by decide)) F.f_L_by_word bk_L_by_word pass_cx (ev_pos (da_cons (d_var 2) (da_cons (d_var 3) da_nil)))) da_nil))))) (g_name (i := 1) sc_L_right.nd) (ds_cons (ds_set (i := 1) sc_L_right.nd (d_op opAddA v_add (d_var 1) (DOk.frz (d_lst (da_cons (d_mkX0 F.xn_NothingToUndo F.c_NothingToUndo) da_nil))))) (ds_one (ds_for owns_cx rfl (di_range1 F.b_range d_int) (g_name (i := 4) sc_L_right.nd) (ds_cons (ds_if (t_cmp (opNeP hr.units) v_ne (d_call hr hgd (D_L_sorts.le (by decide)) F.f_L_sorts bk_L_sorts pass_cx (ev_pos (da_cons (d_index (d_var 1) (d_var 4)) da_nil))) (DOk.frz (d_comp rfl sc_L_right.nd (by exact (di_range1 F.b_range d_int)) (blkOk_by (own := [("_law_k", 7)]) (by kernel_rfl)) (by decide) (fun s0 H0 C0 cl0 fp0 Z0 => (g_name (i := 7) sc_L_right.nd)) (fun s0 H0 C0 cl0 fp0 Z0 => ti_nil) (fun s0 H0 C0 cl0 fp0 Z0 => (d_cmp (opEqP hr.units) v_eq (d_var 7) (d_var 4)))))) (ds_one (ds_ret d_bl)) ds_nil) (ds_cons (ds_set (i := 5) sc_L_right.nd (d_if (t_cmp opLt v_cmp (d_var 4) d_int) d_int (d_if (t_cmp opLt v_cmp (d_var 4) d_int) d_int d_int))) (ds_cons (ds_if (t_cmp (opNeP hr.units) v_ne (d_call hr hgd (D_L_bases.le (by decide)) F.f_L_bases bk_L_bases pass_cx (ev_pos (da_cons (d_index (d_var 1) (d_var 4)) da_nil))) (DOk.frz (d_comp rfl sc_L_right.nd (by exact (di_range1 F.b_range d_int)) (blkOk_by (own := [("_law_k", 7)]) (by kernel_rfl)) (by decide) (fun s0 H0 C0 cl0 fp0 Z0 => (g_name (i := 7) sc_L_right.nd)) (fun s0 H0 C0 cl0 fp0 Z0 => ti_nil) (fun s0 H0 C0 cl0 fp0 Z0 => (d_cmp (opEqP hr.units) v_eq (d_var 7) (d_var 5)))))) (ds_one (ds_ret d_bl)) ds_nil) (ds_cons (ds_set (i := 6) sc_L_right.nd (d_if (t_cmp (opEqP hr.units) v_eq (d_op op_mod v_mod (d_cb v_int (fun t ha => by exact pe_callTy call_int1 rfl F.b_int rfl ha) (da_cons (d_var 4) da_nil)) d_int) d_int) (d_var 2) (d_var 3))) (ds_one (ds_if (t_w (w_and (t_cmp opLt v_cmp (d_var 4) d_int) (w_and1 (t_cmp (opNeP hr.units) v_ne (d_cb v_reprX (fun t ha => by exact pe_callB (cr_reprX hgd hr.units) rfl F.b_repr rfl ha) (da_cons (d_call hr hgd (D_L_kept.le (by decide)) F.f_L_kept bk_L_kept pass_cx (ev_pos (da_cons (d_index (d_var 1) (d_var 4)) (da_cons (d_var 4) da_nil)))) da_nil)) (d_cb v_reprX (fun t ha => by exact pe_callB (cr_reprX hgd hr.units) rfl F.b_repr rfl ha) (da_cons (d_var 6) da_nil)))))) (ds_one (ds_ret d_bl)) ds_nil)))))))))) (ds_one (ds_ret d_bl))))) (math_L_right K)
theorem der_L_jar (F : Facts K mg w) {fd : FuncData} (Fn : FnA K a_L_jar fd) : Fd T P w K mg base 1 (a_L_jar.adr K) P_L_jar fd (sp_L_jar K) := by
  exact fn_D (k := 0) (m := m_L_jar K) Fn sc_L_jar mono_L_jar len_L_jar (fun cdv A outer s H E Z hr hgd =>
    (ds_cons (ds_set (i := 2) sc_L_jar.nd (d_op opAddA v_add (d_op opMulA v_mul (d_op opMulA v_mul d_int (d_op opAddA v_add (d_var 1) d_int)) (d_op opAddA v_add (d_var 1) d_int)) (d_op opMulA v_mul d_int (d_cb v_len (fun t ha => by exact pe_callB call_lenX rfl F.b_len rfl ha) (da_cons (d_var 0) da_nil))))) (ds_cons (ds_for owns_cx rfl (di_any (d_sl (d_var 0) p_no (p_so d_int))) (g_name (i := 3) sc_L_jar.nd) (ds_one (ds_set (i := 2) sc_L_jar.nd (d_op op_mod v_mod (d_cb v_int (fun t ha => by exact pe_callTy call_int1 rfl F.b_int rfl ha) (da_cons (d_op opAddA v_add (d_op opMulA v_mul (d_var 2) d_int) (d_var 3)) da_nil)) d_int)))) (ds_cons (ds_set (i := 4) sc_L_jar.nd (d_if (t_cmp opLt v_cmp (d_var 1) (d_cb v_len (fun t ha => by exact pe_callB call_lenX rfl F.b_len rfl ha) (da_cons (d_var 0) da_nil))) (d_index (d_var 0) (d_var 1)) d_int)) (ds_cons (ds_set (i := 5) sc_L_jar.nd (d_if (t_w (w_or (t_cmp opLt v_cmp (d_var 4) d_int) (w_or1 (t_cmp opGe v_cmp (d_var 4) (d_op op_pow v_pow d_int d_int))))) (d_cb v_abs (fun t ha => by exact pe_callB call_abs rfl F.b_abs rfl ha) (da_cons (d_var 4) da_nil)) d_int)) (ds_one (ds_retO (d_lst (da_cons (d_var 5) (da_cons (d_op op_mod v_mod (d_cb v_int (fun t ha => by exact pe_callTy call_int1 rfl F.b_int rfl ha) (da_cons (d_op opAddA v_add (d_op opAddA v_add (d_op opMulA v_mul (d_var 2) d_int) (d_op opMulA v_mul (d_var 4) d_int)) (d_op opMulA v_mul d_int (d_op opAddA v_add (d_var 1) d_int))) da_nil)) d_int) (da_cons d_int da_nil))))))))))) (math_L_jar K)
theorem der_law (F : Facts K mg w) {fd : FuncData} (Fn : FnA K a_law fd) (C_L_bases : ∃ fd, FnA K a_L_bases fd ∧ Fd T P w K mg base 1 (a_L_bases.adr K) P_L_bases fd (sp_L_bases K)) (C_L_jar : ∃ fd, FnA K a_L_jar fd ∧ Fd T P w K mg base 1 (a_L_jar.adr K) P_L_jar fd (sp_L_jar K)) (C_L_right : ∃ fd, FnA K a_L_right fd ∧ Fd T P w K mg base 4 (a_L_right.adr K) P_L_right fd (sp_L_right K)) : Fd T P w K mg base 5 (a_law.adr K) P_law fd (sp_law K) := by
  obtain ⟨fd_L_bases, Fn_L_bases, D_L_bases⟩ := C_L_bases
  have bk_L_bases := bindP (ps := P_L_bases) Fn_L_bases fun _ _ _ _ _ _ us hl => match us, hl with | [_], _ => rfl
  obtain ⟨fd_L_jar, Fn_L_jar, D_L_jar⟩ := C_L_jar
  have bk_L_jar := bindP (ps := P_L_jar) Fn_L_jar fun _ _ _ _ _ _ us hl => match us, hl with | [_, _], _ => rfl
  obtain ⟨fd_L_right, Fn_L_right, D_L_right⟩ := C_L_right
  have bk_L_right := bindP (ps := P_L_right) Fn_L_right fun _ _ _ _ _ _ us hl => match us, hl with | [_], _ => rfl
  exact fn_D (k := 4) (m := m_law K) Fn sc_law mono_law len_law (fun cdv A outer s H E Z hr hgd =>
    (ds_cons (ds_if (t_cmp (opNeP hr.units) v_ne (DOk.frz (d_lst (da_cons (d_gI F.i_LEAST_THINGS) (da_cons (d_gI F.i_MOST_THINGS) (da_cons (d_gI F.i_MOST_ORDERS) (da_cons (d_gI F.i_MOST_OUT) (da_cons (d_gI F.i_MOST_FULL) da_nil))))))) (DOk.frz (d_lst (da_cons d_int (da_cons d_int (da_cons d_int (da_cons d_int (da_cons d_int da_nil)))))))) (ds_one (ds_ret d_bl)) ds_nil) (ds_cons (ds_set (i := 1) sc_law.nd (DOk.frz (d_lst (da_cons (d_mkX0 F.xn_WrongValue F.c_WrongValue) (da_cons (d_mkX0 F.xn_WrongName F.c_WrongName) (da_cons (d_mkX0 F.xn_NotPossible F.c_NotPossible) da_nil)))))) (ds_cons (ds_if (t_cmp (opNeP hr.units) v_ne (DOk.frz (d_comp rfl sc_law.nd (by exact (di_any (d_var 1))) (blkOk_by (own := [("_law_e", 2)]) (by kernel_rfl)) (by decide) (fun s0 H0 C0 cl0 fp0 Z0 => (g_name (i := 2) sc_law.nd)) (fun s0 H0 C0 cl0 fp0 Z0 => ti_nil) (fun s0 H0 C0 cl0 fp0 Z0 => (d_call hr hgd (D_L_bases.le (by decide)) F.f_L_bases bk_L_bases pass_f (ev_pos (da_cons (d_var 2) da_nil)))))) (DOk.frz (d_lst (da_cons (DOk.frz (d_lst (da_cons d_bl (da_cons d_bl (da_cons d_bl da_nil))))) (da_cons (DOk.frz (d_lst (da_cons d_bl (da_cons d_bl (da_cons d_bl da_nil))))) (da_cons (DOk.frz (d_lst (da_cons d_bl (da_cons d_bl (da_cons d_bl da_nil))))) da_nil)))))) (ds_one (ds_ret d_bl)) ds_nil) (ds_one (ds_ret (d_cb v_all (fun t ha => by exact pe_callB (cr_all rfl) rfl F.b_all rfl ha) (da_cons (DOk.frz (d_comp rfl sc_law.nd (by exact (di_range1 F.b_range (d_cb v_ints (fun t ha => by exact pe_callB (call_max2 rfl) rfl F.b_max rfl ha) (da_cons d_int (da_cons (d_cb v_ints (fun t ha => by exact pe_callB (call_min2 rfl) rfl F.b_min rfl ha) (da_cons (d_cb v_len (fun t ha => by exact pe_callB call_lenX rfl F.b_len rfl ha) (da_cons (d_var 0) da_nil)) (da_cons d_int da_nil))) da_nil))))) (blkOk_by (own := [("_law_k", 3)]) (by kernel_rfl)) (by decide) (fun s0 H0 C0 cl0 fp0 Z0 => (g_name (i := 3) sc_law.nd)) (fun s0 H0 C0 cl0 fp0 Z0 => ti_nil) (fun s0 H0 C0 cl0 fp0 Z0 => (d_callT hr hgd (D_L_right.le (by decide)) F.f_L_right bk_L_right pass_f (d_callO hr hgd (D_L_jar.le (by decide)) F.f_L_jar (bk_L_jar) pass_f (ev_pos (da_cons (d_var 0) (da_cons (d_var 3) da_nil)))))))) da_nil)))))))) (math_law K)
end
theorem facts_of {K : PySem.W.Frag} {w : World} {h : Heap} {mg : Str → Option Value} (X : K.In h) (G : h.Ns mainGlobals mg) (c : exK K = true) (T : ∀ x : Str, x ∈ tabs.map Prod.fst → ∃ es n, KDict K w (He.ga K x) es n) : Facts K mg w := by
  unfold exK at c
  simp only [Bool.and_eq_true] at c
  have c0 := c.1
  have r1 := c.2
  have c1 := r1.1
  have r2 := r1.2
  have c2 := r2.1
  have r3 := r2.2
  have c3 := r3.1
  have r4 := r3.2
  have c4 := r4.1
  have r5 := r4.2
  have c5 := r5.1
  have r6 := r5.2
  have c6 := r6.1
  have r7 := r6.2
  have c7 := r7.1
  have r8 := r7.2
  have c8 := r8.1
  have r9 := r8.2
  have c9 := r9.1
  have r10 := r9.2
  have c10 := r10.1
  have r11 := r10.2
  have c11 := r11.1
  have r12 := r11.2
  have c12 := r12.1
  have r13 := r12.2
  have c13 := r13.1
  have r14 := r13.2
  have c14 := r14.1
  have r15 := r14.2
  have c15 := r15.1
  have r16 := r15.2
  have c16 := r16.1
  have r17 := r16.2
  have c17 := r17.1
  have r18 := r17.2
  have c18 := r18.1
  have r19 := r18.2
  have c19 := r19.1
  have r20 := r19.2
  have c20 := r20.1
  have r21 := r20.2
  have c21 := r21.1
  have r22 := r21.2
  have c22 := r22.1
  have r23 := r22.2
  have c23 := r23.1
  have r24 := r23.2
  have c24 := r24.1
  have r25 := r24.2
  have c25 := r25.1
  have r26 := r25.2
  have c26 := r26.1
  have r27 := r26.2
  have c27 := r27.1
  have r28 := r27.2
  have c28 := r28.1
  have r29 := r28.2
  have c29 := r29.1
  have r30 := r29.2
  have c30 := r30.1
  have r31 := r30.2
  have c31 := r31.1
  have r32 := r31.2
  have c32 := r32.1
  have r33 := r32.2
  have c33 := r33.1
  have r34 := r33.2
  have c34 := r34.1
  have r35 := r34.2
  have c35 := r35.1
  have r36 := r35.2
  have c36 := r36.1
  have r37 := r36.2
  have c37 := r37.1
  have r38 := r37.2
  have c38 := r38.1
  have r39 := r38.2
  have c39 := r39.1
  have r40 := r39.2
  have c40 := r40.1
  have r41 := r40.2
  have c41 := r41.1
  have r42 := r41.2
  have c42 := r42.1
  have r43 := r42.2
  have c43 := r43.1
  have r44 := r43.2
  have c44 := r44.1
  have r45 := r44.2
  have c45 := r45.1
  have r46 := r45.2
  have c46 := r46.1
  have r47 := r46.2
  have c47 := r47.1
  have r48 := r47.2
  have c48 := r48.1
  have r49 := r48.2
  have c49 := r49.1
  have r50 := r49.2
  have c50 := r50.1
  have r51 := r50.2
  have c51 := r51.1
  have r52 := r51.2
  have c52 := r52.1
  have r53 := r52.2
  have c53 := r53.1
  have r54 := r53.2
  have c54 := r54.1
  have r55 := r54.2
  have c55 := r55.1
  have r56 := r55.2
  have c56 := r56.1
  have r57 := r56.2
  have c57 := r57.1
  have r58 := r57.2
  have c58 := r58.1
  have r59 := r58.2
  have c59 := r59.1
  have r60 := r59.2
  have c60 := r60.1
  have r61 := r60.2
  have c61 := r61.1
  have r62 := r61.2
  have c62 := r62.1
  have r63 := r62.2
  have c63 := r63.1
  have r64 := r63.2
  have c64 := r64.1
  have r65 := r64.2
  have c65 := r65.1
  have r66 := r65.2
  have c66 := r66.1
  have r67 := r66.2
  have c67 := r67.1
  have r68 := r67.2
  have c68 := r68.1
  have r69 := r68.2
  have c69 := r69.1
  have r70 := r69.2
  have c70 := r70.1
  have r71 := r70.2
  have c71 := r71.1
  have r72 := r71.2
  have c72 := r72.1
  have r73 := r72.2
  have c73 := r73.1
  have r74 := r73.2
  have c74 := r74.1
  have r75 := r74.2
  have c75 := r75.1
  have r76 := r75.2
  have c76 := r76.1
  have r77 := r76.2
  have c77 := r77.1
  have r78 := r77.2
  have c78 := r78.1
  have r79 := r78.2
  have c79 := r79.1
  have r80 := r79.2
  have c80 := r80.1
  have r81 := r80.2
  have c81 := r81.1
  have r82 := r81.2
  have c82 := r82.1
  have r83 := r82.2
  have c83 := r83.1
  have r84 := r83.2
  have c84 := r84.1
  have r85 := r84.2
  have c85 := r85.1
  have r86 := r85.2
  have c86 := r86.1
  have r87 := r86.2
  have c87 := r87.1
  have r88 := r87.2
  have c88 := r88.1
  have r89 := r88.2
  have c89 := r89.1
  have r90 := r89.2
  have c90 := r90.1
  have r91 := r90.2
  have c91 := r91.1
  have r92 := r91.2
  have c92 := r92.1
  have r93 := r92.2
  have c93 := r93.1
  have r94 := r93.2
  have c94 := r94.1
  have r95 := r94.2
  have c95 := r95.1
  have r96 := r95.2
  have c96 := r96.1
  have r97 := r96.2
  have c97 := r97.1
  have r98 := r97.2
  have c98 := r98
  exact ⟨He.free_ok X G c0, He.free_ok X G c1, He.free_ok X G c2, He.free_ok X G c3, He.free_ok X G c4, He.free_ok X G c5, He.free_ok X G c6, He.free_ok X G c7, He.free_ok X G c8, He.free_ok X G c9, He.free_ok X G c10, He.free_ok X G c11, He.glo_ok X G c12, He.glo_ok X G c13, He.glo_ok X G c14, He.glo_ok X G c15, He.glo_ok X G c16, He.glo_ok X G c17, He.glo_ok X G c18, He.glo_ok X G c19, He.glo_ok X G c20, He.glo_ok X G c21, He.glo_ok X G c22, He.int_ok X G c23, He.int_ok X G c24, He.int_ok X G c25, He.int_ok X G c26, He.int_ok X G c27, He.glo_ok X G c28, He.glo_ok X G c29, He.glo_ok X G c30, He.glo_ok X G c31, He.glo_ok X G c32, He.glo_ok X G c33, He.glo_ok X G c34, He.glo_ok X G c35, He.glo_ok X G c36, He.glo_ok X G c37, He.glo_ok X G c38, He.glo_ok X G c39, He.glo_ok X G c40, He.glo_ok X G c41, He.glo_ok X G c42, He.glo_ok X G c43, He.glo_ok X G c44, He.glo_ok X G c45, He.glo_ok X G c46, He.glo_ok X G c47, He.glo_ok X G c48, He.glo_ok X G c49, xcmB_ok c50, xcmB_ok c51, xcmB_ok c52, xcmB_ok c53, xcmB_ok c54, xcmB_ok c55, xcmB_ok c56, xcmB_ok c57, xcmB_ok c58, xcmB_ok c59, xcmB_ok c60, xcmB_ok c61, xcmB_ok c62, xcmB_ok c63, xcmB_ok c64, xcmB_ok c65, xcmB_ok c66, xcmB_ok c67, xcnB_ok c68, xcnB_ok c69, xcnB_ok c70, xcnB_ok c71, xiB_ok c72, xiB_ok c73, xiB_ok c74, xiB_ok c75, xiB_ok c76, xiB_ok c77, xiB_ok c78, xiB_ok c79, xiB_ok c80, xiB_ok c81, xiB_ok c82, xiB_ok c83, xiB_ok c84, xiB_ok c85, xiB_ok c86, xiB_ok c87, xiB_ok c88, xiB_ok c89, xiB_ok c90, xiB_ok c91, xiB_ok c92, xiB_ok c93, xiB_ok c94, xiB_ok c95, xiB_ok c96, xfsB_ok c97, xfsB_ok c98⟩
theorem told {P : Program} {w : World} {K : PySem.W.Frag} {h : Heap} {mg : Str → Option Value} {f : Addr} (X : K.In h) (G : h.Ns mainGlobals mg) (hf : mg ("law" : Str) = some (.ref f)) (c : SaysB fns exK tabs w K) :
    ∃ fd : FuncData, (∀ (s : Shared) (v : Value), BindsTo s fd ⟨[v], []⟩ [("_law_script", v)]) ∧ ∀ base : Heap, K.In base → base.Ns mainGlobals mg → Fd [] P w K mg base 5 f ["_law_script"] fd (sp_law K) := by
  have F : Facts K mg w := facts_of X G c.a.more fun x hx => by
    obtain ⟨t, ht, rfl⟩ := List.mem_map.mp hx
    exact c.tabs t ht
  obtain ⟨fd_L_bases, Fn_L_bases⟩ := c.a.defs a_L_bases (List.mem_of_getElem? (i := 0) (show fns[0]? = some a_L_bases from rfl))
  obtain ⟨fd_L_dip, Fn_L_dip⟩ := c.a.defs a_L_dip (List.mem_of_getElem? (i := 1) (show fns[1]? = some a_L_dip from rfl))
  obtain ⟨fd_L_pick, Fn_L_pick⟩ := c.a.defs a_L_pick (List.mem_of_getElem? (i := 2) (show fns[2]? = some a_L_pick from rfl))
  obtain ⟨fd_L_odd, Fn_L_odd⟩ := c.a.defs a_L_odd (List.mem_of_getElem? (i := 3) (show fns[3]? = some a_L_odd from rfl))
  obtain ⟨fd_InvalidThree_init, Fn_InvalidThree_init⟩ := c.a.defs a_InvalidThree_init (List.mem_of_getElem? (i := 4) (show fns[4]? = some a_InvalidThree_init from rfl))
  obtain ⟨fd_InvalidOrder_init, Fn_InvalidOrder_init⟩ := c.a.defs a_InvalidOrder_init (List.mem_of_getElem? (i := 5) (show fns[5]? = some a_InvalidOrder_init from rfl))
  obtain ⟨fd_InvalidText_init, Fn_InvalidText_init⟩ := c.a.defs a_InvalidText_init (List.mem_of_getElem? (i := 6) (show fns[6]? = some a_InvalidText_init from rfl))
  obtain ⟨fd_InvalidWish_init, Fn_InvalidWish_init⟩ := c.a.defs a_InvalidWish_init (List.mem_of_getElem? (i := 7) (show fns[7]? = some a_InvalidWish_init from rfl))
  obtain ⟨fd_InvalidNumber_init, Fn_InvalidNumber_init⟩ := c.a.defs a_InvalidNumber_init (List.mem_of_getElem? (i := 8) (show fns[8]? = some a_InvalidNumber_init from rfl))
  obtain ⟨fd_InvalidThings_init, Fn_InvalidThings_init⟩ := c.a.defs a_InvalidThings_init (List.mem_of_getElem? (i := 9) (show fns[9]? = some a_InvalidThings_init from rfl))
  obtain ⟨fd_NotACrowd_init, Fn_NotACrowd_init⟩ := c.a.defs a_NotACrowd_init (List.mem_of_getElem? (i := 10) (show fns[10]? = some a_NotACrowd_init from rfl))
  obtain ⟨fd_NotARoll_init, Fn_NotARoll_init⟩ := c.a.defs a_NotARoll_init (List.mem_of_getElem? (i := 11) (show fns[11]? = some a_NotARoll_init from rfl))
  obtain ⟨fd_InvalidCommand_init, Fn_InvalidCommand_init⟩ := c.a.defs a_InvalidCommand_init (List.mem_of_getElem? (i := 12) (show fns[12]? = some a_InvalidCommand_init from rfl))
  obtain ⟨fd_InvalidRules_init, Fn_InvalidRules_init⟩ := c.a.defs a_InvalidRules_init (List.mem_of_getElem? (i := 13) (show fns[13]? = some a_InvalidRules_init from rfl))
  obtain ⟨fd_InvalidPeople_init, Fn_InvalidPeople_init⟩ := c.a.defs a_InvalidPeople_init (List.mem_of_getElem? (i := 14) (show fns[14]? = some a_InvalidPeople_init from rfl))
  obtain ⟨fd_InvalidOrders_init, Fn_InvalidOrders_init⟩ := c.a.defs a_InvalidOrders_init (List.mem_of_getElem? (i := 15) (show fns[15]? = some a_InvalidOrders_init from rfl))
  obtain ⟨fd_TooMany_init, Fn_TooMany_init⟩ := c.a.defs a_TooMany_init (List.mem_of_getElem? (i := 16) (show fns[16]? = some a_TooMany_init from rfl))
  obtain ⟨fd_UnknownOrder_init, Fn_UnknownOrder_init⟩ := c.a.defs a_UnknownOrder_init (List.mem_of_getElem? (i := 17) (show fns[17]? = some a_UnknownOrder_init from rfl))
  obtain ⟨fd_UnknownThing_init, Fn_UnknownThing_init⟩ := c.a.defs a_UnknownThing_init (List.mem_of_getElem? (i := 18) (show fns[18]? = some a_UnknownThing_init from rfl))
  obtain ⟨fd_Broken_init, Fn_Broken_init⟩ := c.a.defs a_Broken_init (List.mem_of_getElem? (i := 19) (show fns[19]? = some a_Broken_init from rfl))
  obtain ⟨fd_NotCalm_init, Fn_NotCalm_init⟩ := c.a.defs a_NotCalm_init (List.mem_of_getElem? (i := 20) (show fns[20]? = some a_NotCalm_init from rfl))
  obtain ⟨fd_TooFew_init, Fn_TooFew_init⟩ := c.a.defs a_TooFew_init (List.mem_of_getElem? (i := 21) (show fns[21]? = some a_TooFew_init from rfl))
  obtain ⟨fd_L_by_word, Fn_L_by_word⟩ := c.a.defs a_L_by_word (List.mem_of_getElem? (i := 22) (show fns[22]? = some a_L_by_word from rfl))
  obtain ⟨fd_L_by_place, Fn_L_by_place⟩ := c.a.defs a_L_by_place (List.mem_of_getElem? (i := 23) (show fns[23]? = some a_L_by_place from rfl))
  obtain ⟨fd_L_sorts, Fn_L_sorts⟩ := c.a.defs a_L_sorts (List.mem_of_getElem? (i := 24) (show fns[24]? = some a_L_sorts from rfl))
  obtain ⟨fd_L_kept, Fn_L_kept⟩ := c.a.defs a_L_kept (List.mem_of_getElem? (i := 25) (show fns[25]? = some a_L_kept from rfl))
  obtain ⟨fd_L_right, Fn_L_right⟩ := c.a.defs a_L_right (List.mem_of_getElem? (i := 26) (show fns[26]? = some a_L_right from rfl))
  obtain ⟨fd_L_jar, Fn_L_jar⟩ := c.a.defs a_L_jar (List.mem_of_getElem? (i := 27) (show fns[27]? = some a_L_jar from rfl))
  obtain ⟨fd_law, Fn_law⟩ := c.a.defs a_law (List.mem_of_getElem? (i := 28) (show fns[28]? = some a_law from rfl))
  have e : f = He.ga K "law" := by
    have := hf.symm.trans F.f_law
    injection this with this
    injection this
  subst e
  refine ⟨fd_law, fun s v => FunD.bindsA (ps := ["_law_script"]) Fn_law (fun _ _ _ _ _ _ us hl => match us, hl with | [_], _ => rfl) s [v] rfl, fun base _ _ => ?_⟩
  have D_L_bases : Fd [] P w K mg base 1 (a_L_bases.adr K) P_L_bases fd_L_bases (sp_L_bases K) := der_L_bases F Fn_L_bases
  have D_L_dip : Fd [] P w K mg base 1 (a_L_dip.adr K) P_L_dip fd_L_dip (sp_L_dip K) := der_L_dip F Fn_L_dip
  have D_L_pick : Fd [] P w K mg base 2 (a_L_pick.adr K) P_L_pick fd_L_pick (sp_L_pick K) := der_L_pick F Fn_L_pick ⟨fd_L_dip, Fn_L_dip, D_L_dip⟩
  have D_L_odd : Fd [] P w K mg base 3 (a_L_odd.adr K) P_L_odd fd_L_odd (sp_L_odd K) := der_L_odd F Fn_L_odd ⟨fd_L_pick, Fn_L_pick, D_L_pick⟩
  have D_InvalidThree_init : IniK P w K mg base (a_InvalidThree_init.adr K) "given" := der_InvalidThree_init F Fn_InvalidThree_init
  have D_InvalidOrder_init : IniK P w K mg base (a_InvalidOrder_init.adr K) "given" := der_InvalidOrder_init F Fn_InvalidOrder_init
  have D_InvalidText_init : IniK P w K mg base (a_InvalidText_init.adr K) "given" := der_InvalidText_init F Fn_InvalidText_init
  have D_InvalidWish_init : IniK P w K mg base (a_InvalidWish_init.adr K) "given" := der_InvalidWish_init F Fn_InvalidWish_init
  have D_InvalidNumber_init : IniK P w K mg base (a_InvalidNumber_init.adr K) "given" := der_InvalidNumber_init F Fn_InvalidNumber_init
  have D_InvalidThings_init : IniK P w K mg base (a_InvalidThings_init.adr K) "given" := der_InvalidThings_init F Fn_InvalidThings_init
  have D_NotACrowd_init : IniK P w K mg base (a_NotACrowd_init.adr K) "given" := der_NotACrowd_init F Fn_NotACrowd_init
  have D_NotARoll_init : IniK P w K mg base (a_NotARoll_init.adr K) "given" := der_NotARoll_init F Fn_NotARoll_init
  have D_InvalidCommand_init : IniK P w K mg base (a_InvalidCommand_init.adr K) "given" := der_InvalidCommand_init F Fn_InvalidCommand_init
  have D_InvalidRules_init : IniK P w K mg base (a_InvalidRules_init.adr K) "index" := der_InvalidRules_init F Fn_InvalidRules_init
  have D_InvalidPeople_init : IniK P w K mg base (a_InvalidPeople_init.adr K) "index" := der_InvalidPeople_init F Fn_InvalidPeople_init
  have D_InvalidOrders_init : IniK P w K mg base (a_InvalidOrders_init.adr K) "index" := der_InvalidOrders_init F Fn_InvalidOrders_init
  have D_TooMany_init : IniK P w K mg base (a_TooMany_init.adr K) "given" := der_TooMany_init F Fn_TooMany_init
  have D_UnknownOrder_init : IniK P w K mg base (a_UnknownOrder_init.adr K) "given" := der_UnknownOrder_init F Fn_UnknownOrder_init
  have D_UnknownThing_init : IniK P w K mg base (a_UnknownThing_init.adr K) "given" := der_UnknownThing_init F Fn_UnknownThing_init
  have D_Broken_init : IniK P w K mg base (a_Broken_init.adr K) "index" := der_Broken_init F Fn_Broken_init
  have D_NotCalm_init : IniK P w K mg base (a_NotCalm_init.adr K) "given" := der_NotCalm_init F Fn_NotCalm_init
  have D_TooFew_init : IniK P w K mg base (a_TooFew_init.adr K) "given" := der_TooFew_init F Fn_TooFew_init
  have D_L_by_word : Fd [] P w K mg base 3 (a_L_by_word.adr K) P_L_by_word fd_L_by_word (sp_L_by_word K) := der_L_by_word F Fn_L_by_word ⟨fd_Broken_init, Fn_Broken_init, D_Broken_init⟩ ⟨fd_InvalidCommand_init, Fn_InvalidCommand_init, D_InvalidCommand_init⟩ ⟨fd_InvalidNumber_init, Fn_InvalidNumber_init, D_InvalidNumber_init⟩ ⟨fd_InvalidOrder_init, Fn_InvalidOrder_init, D_InvalidOrder_init⟩ ⟨fd_InvalidOrders_init, Fn_InvalidOrders_init, D_InvalidOrders_init⟩ ⟨fd_InvalidPeople_init, Fn_InvalidPeople_init, D_InvalidPeople_init⟩ ⟨fd_InvalidRules_init, Fn_InvalidRules_init, D_InvalidRules_init⟩ ⟨fd_InvalidText_init, Fn_InvalidText_init, D_InvalidText_init⟩ ⟨fd_InvalidThings_init, Fn_InvalidThings_init, D_InvalidThings_init⟩ ⟨fd_InvalidThree_init, Fn_InvalidThree_init, D_InvalidThree_init⟩ ⟨fd_InvalidWish_init, Fn_InvalidWish_init, D_InvalidWish_init⟩ ⟨fd_NotACrowd_init, Fn_NotACrowd_init, D_NotACrowd_init⟩ ⟨fd_NotARoll_init, Fn_NotARoll_init, D_NotARoll_init⟩ ⟨fd_NotCalm_init, Fn_NotCalm_init, D_NotCalm_init⟩ ⟨fd_TooFew_init, Fn_TooFew_init, D_TooFew_init⟩ ⟨fd_TooMany_init, Fn_TooMany_init, D_TooMany_init⟩ ⟨fd_UnknownOrder_init, Fn_UnknownOrder_init, D_UnknownOrder_init⟩ ⟨fd_UnknownThing_init, Fn_UnknownThing_init, D_UnknownThing_init⟩
  have D_L_by_place : Fd [] P w K mg base 3 (a_L_by_place.adr K) P_L_by_place fd_L_by_place (sp_L_by_place K) := der_L_by_place F Fn_L_by_place ⟨fd_Broken_init, Fn_Broken_init, D_Broken_init⟩ ⟨fd_InvalidCommand_init, Fn_InvalidCommand_init, D_InvalidCommand_init⟩ ⟨fd_InvalidNumber_init, Fn_InvalidNumber_init, D_InvalidNumber_init⟩ ⟨fd_InvalidOrder_init, Fn_InvalidOrder_init, D_InvalidOrder_init⟩ ⟨fd_InvalidOrders_init, Fn_InvalidOrders_init, D_InvalidOrders_init⟩ ⟨fd_InvalidPeople_init, Fn_InvalidPeople_init, D_InvalidPeople_init⟩ ⟨fd_InvalidRules_init, Fn_InvalidRules_init, D_InvalidRules_init⟩ ⟨fd_InvalidText_init, Fn_InvalidText_init, D_InvalidText_init⟩ ⟨fd_InvalidThings_init, Fn_InvalidThings_init, D_InvalidThings_init⟩ ⟨fd_InvalidThree_init, Fn_InvalidThree_init, D_InvalidThree_init⟩ ⟨fd_InvalidWish_init, Fn_InvalidWish_init, D_InvalidWish_init⟩ ⟨fd_NotACrowd_init, Fn_NotACrowd_init, D_NotACrowd_init⟩ ⟨fd_NotARoll_init, Fn_NotARoll_init, D_NotARoll_init⟩ ⟨fd_NotCalm_init, Fn_NotCalm_init, D_NotCalm_init⟩ ⟨fd_TooFew_init, Fn_TooFew_init, D_TooFew_init⟩ ⟨fd_TooMany_init, Fn_TooMany_init, D_TooMany_init⟩ ⟨fd_UnknownOrder_init, Fn_UnknownOrder_init, D_UnknownOrder_init⟩ ⟨fd_UnknownThing_init, Fn_UnknownThing_init, D_UnknownThing_init⟩
  have D_L_sorts : Fd [] P w K mg base 1 (a_L_sorts.adr K) P_L_sorts fd_L_sorts (sp_L_sorts K) := der_L_sorts F Fn_L_sorts
  have D_L_kept : Fd [] P w K mg base 1 (a_L_kept.adr K) P_L_kept fd_L_kept (sp_L_kept K) := der_L_kept F Fn_L_kept
  have D_L_right : Fd [] P w K mg base 4 (a_L_right.adr K) P_L_right fd_L_right (sp_L_right K) := der_L_right F Fn_L_right ⟨fd_L_bases, Fn_L_bases, D_L_bases⟩ ⟨fd_L_by_place, Fn_L_by_place, D_L_by_place⟩ ⟨fd_L_by_word, Fn_L_by_word, D_L_by_word⟩ ⟨fd_L_kept, Fn_L_kept, D_L_kept⟩ ⟨fd_L_odd, Fn_L_odd, D_L_odd⟩ ⟨fd_L_sorts, Fn_L_sorts, D_L_sorts⟩
  have D_L_jar : Fd [] P w K mg base 1 (a_L_jar.adr K) P_L_jar fd_L_jar (sp_L_jar K) := der_L_jar F Fn_L_jar
  have D_law : Fd [] P w K mg base 5 (a_law.adr K) P_law fd_law (sp_law K) := der_law F Fn_law ⟨fd_L_bases, Fn_L_bases, D_L_bases⟩ ⟨fd_L_jar, Fn_L_jar, D_L_jar⟩ ⟨fd_L_right, Fn_L_right, D_L_right⟩
  exact D_law
end DL
open PySem PySem.W PySem.Calls PyProof.Rows
theorem PySem.Challenge.cw_calmlists_k01_limits_and_errors_holds : PySem.Challenge.rw_calmlists_k01_limits_and_errors.Holds := by
  w_on; o_law
  refine HandSHeadRun.head_any (r := OpenLaw.row PySem.Challenge.rw_calmlists_k01_limits_and_errors) (q := view (OpenLaw.row PySem.Challenge.rw_calmlists_k01_limits_and_errors).prog [39]) (H := DL.hkA) (ob := DL.lookB 6 DL.fns DL.exK DL.tabs) (M := 20000) (loose := DL.loose) (d := HandSHeadRun.topDef (OpenLaw.row PySem.Challenge.rw_calmlists_k01_limits_and_errors).prog 39) (kwd := []) DL.lookB_eq
    (by kernel_rfl) (fun s => by kernel_rfl) DL.runA (by kernel_rfl) (by kernel_rfl) (by kernel_rfl) (by rfl) (by first | assumption | decide +kernel) (by decide +kernel) ⟨rfl, rfl, rfl, rfl, rfl, by decide +kernel⟩ ?hw ?hc
  case hw => w_witness2
  case hc =>
    refine DL.law_end (l := PySem.Challenge.rw_calmlists_k01_limits_and_errors) (n := 63) (k := 5) (x := "_law_script") rfl (by decide) (by kernel_rfl) ⟨rfl, by decide, by decide⟩ ?F
    intro w mg fa h Y G hmg0
    obtain ⟨K, KX, c⟩ := Y
    have hmg : mg ("law" : PySem.Str) = some (.ref fa) := by
      have e : (HandSHeadRun.topDef (OpenLaw.row PySem.Challenge.rw_calmlists_k01_limits_and_errors).prog 39).name = ("law" : PySem.Str) := by kernel_rfl
      rw [← e]
      exact hmg0
    obtain ⟨fd, hb, hF⟩ := DL.told (P := (PySem.Challenge.rw_calmlists_k01_limits_and_errors).prog) (w := w) KX G hmg c
    exact ⟨K, fd, DL.sp_law K, KX, hb, fun ns hl => ⟨ns, rfl, hl, fun _ _ => rfl⟩, hF⟩
