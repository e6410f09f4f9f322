import PyProof.Rows.All
import PySem.Challenge.RW_calmlists_k03_whole_orders_refused
import Wide.All
import OpenK.AllK
import Wide.FinOn
import HandS.ForMost
import HandS.ForExc
import HandS.Lambda
import HandS.CallSlots
import HandS.Defaults
import HandS.Property
import HandS.TupAny
import HandS.TupMul
import HandS.IsInst
import KE.DataEq
import HandS.Text
import HandS.Strs
import HandS.Zip
import HandS.RaiseMore
import HandS.Small
import HandS.WordsDict
import PyProof.CollectStr
import PyProof.ListStr
import HandS.More
import HandS.SetFor
import PyProof.ReprRoads
import PyProof.CallFns
import HandS.Style
import HandS.Ends
import HandS.HeadEnd
import HandS.HeadHook1
import HandS.HeadHook2
import HandS.Head0
import HandS.Head1
import HandS.Head2
import KE.KStateDown
import PyProof.ReprLen
import PyProof.Rows.StrRev
import PyProof.SliceStr2
import PyProof.SetRoads
import HandS.HeadHook3
import PyProof.StrWalks
import HandS.NoneIn
import HandS.WideBits
import HandS.Replace
import HandS.EndBits
import PyProof.StrLawsFirst
import PyProof.InstSpecial
import HandS.List
import PyProof.TupleOps
import PyProof.WalksMore
import HandS.EndTab
import HandS.Nested
import HandS.Keys
import HandS.Iter
import KE.SortKeyHeap
import PyProof.TupleOfSeq
import KE.KDictSum
import KE.KNestM
import HandS.Conv
import PyProof.ListRange
import KE.KRevSl
import KE.KIndexOf
import HandS.DictComp
import HandS.FltList
import HandS.SortInts
import HandS.Codes
import PyProof.Rows.StrSplitAre
import HandS.Sort
import KE.GoesZip
import KE.GoesMore
import PyProof.EqKinds
import KE.KEqDict
import PyProof.InstNe
import HandS.NamedTupSort
import HandS.ClsMeth
import HandS.HeadNt
import HandS.ExcInit
import HandS.ExcField
import HandS.HotCalls
import HandS.ExcIs
import KE.KExcIs
import KE.KExcInit
import KE.KTryMore
import PyProof.ListMulRoad
import PyProof.FactsAll.tuple_2
import HandS.Star
import PyProof.Rows.SortShellAny
set_option Elab.async false
set_option linter.all false
set_option maxRecDepth 100000
set_option maxHeartbeats 4000000

namespace DL
open PyProof.Rows hiding St
open PySem PySem.Spec L2

/-! ### data -/
inductive Dt where
  | non
  | bl (b : Bool)
  | int (i : Int)
  | str (x : List Nat)
  | tup (xs : List Dt)
  | lst (xs : List Dt)
  | scr (xs : List Dt)
  | dct (kvs : List (Key × Dt))
  | ins (C : Addr) (fs : List (Str × Dt))

/-- an object of one's own, that may change -/
inductive MO where
  | lst (ds : List Dt)
  | dK (kvs : List (Key × Dt))
  | dT (kvs : List (List Key × Dt))
  | ins (C : Addr) (fs : List (Str × Dt))

inductive Sl where
  | no
  | dat (d : Dt)
  /-- b: it is a parameter's, lent by the caller -/
  | own (b : Bool) (p : Addr) (o : MO)
  /-- the exception in hand: where it stands and as what, its class, its dict, its attributes -/
  | exc (q : Addr × Obj) (C : Addr) (d : Option Addr) (fs : List (Str × Dt))
abbrev En := List Sl

mutual
inductive Rep (K : PySem.W.Frag) (F : Hp) : V → Dt → Prop
  | non : Rep K F .non .non
  | bl (b : Bool) : Rep K F (.bl b) (.bl b)
  | int (i : Int) : Rep K F (.int i) (.int i)
  | str (l : List Nat) (h : l.length ≤ sizeLine) : Rep K F (.str ⟨l.toArray⟩) (.str l)
  | tup {a : Addr} {vs : List V} {ds : List Dt} (h : SqT K F a vs) (r : Reps K F vs ds) : Rep K F (.ref a) (.tup ds)
  | lst {a : Addr} {vs : List V} {ds : List Dt} (h : F a = some (.lst vs)) (r : Reps K F vs ds) : Rep K F (.ref a) (.lst ds)
  | scr {a : Addr} {vs : List V} {ds : List Dt} (h : SqL K F a vs) (r : Reps K F vs ds) : Rep K F (.ref a) (.scr ds)
  | dct {a : Addr} {kvs : List (Key × V)} {ds : List (Key × Dt)} (h : F a = some (.dK kvs)) (r : RepK K F kvs ds) : Rep K F (.ref a) (.dct ds)
  | ins {a C dx : Addr} {fs : List (Str × V)} {ds : List (Str × Dt)} (h : F a = some (.ins C dx fs)) (r : RepF K F fs ds) : Rep K F (.ref a) (.ins C ds)
inductive Reps (K : PySem.W.Frag) (F : Hp) : List V → List Dt → Prop
  | nil : Reps K F [] []
  | cons {v : V} {d : Dt} {vs : List V} {ds : List Dt} (h : Rep K F v d) (t : Reps K F vs ds) : Reps K F (v :: vs) (d :: ds)
inductive RepK (K : PySem.W.Frag) (F : Hp) : List (Key × V) → List (Key × Dt) → Prop
  | nil : RepK K F [] []
  | cons {k : Key} {v : V} {d : Dt} {vs : List (Key × V)} {ds : List (Key × Dt)} (h : Rep K F v d) (t : RepK K F vs ds) : RepK K F ((k, v) :: vs) ((k, d) :: ds)
inductive RepF (K : PySem.W.Frag) (F : Hp) : List (Str × V) → List (Str × Dt) → Prop
  | nil : RepF K F [] []
  | cons {k : Str} {v : V} {d : Dt} {vs : List (Str × V)} {ds : List (Str × Dt)} (h : Rep K F v d) (t : RepF K F vs ds) : RepF K F ((k, v) :: vs) ((k, d) :: ds)
end
inductive RepT (K : PySem.W.Frag) (F : Hp) : List (List Key × V) → List (List Key × Dt) → Prop
  | nil : RepT K F [] []
  | cons {k : List Key} {v : V} {d : Dt} {vs : List (List Key × V)} {ds : List (List Key × Dt)} (h : Rep K F v d) (t : RepT K F vs ds) : RepT K F ((k, v) :: vs) ((k, d) :: ds)

theorem sameT {K : PySem.W.Frag} {H H' : Hp} {a : Addr} {xs : List V} (e : Same H H') (h : SqT K H a xs) : SqT K H' a xs := by
  rcases h with (h | ⟨o, h⟩) | h
  · exact .inl (.inl (e _ _ h))
  · exact .inl (.inr ⟨o, e _ _ h⟩)
  · exact .inr h

section
variable {K : PySem.W.Frag} {F F' : Hp}
mutual
theorem Rep.mono (s : Same F F') : ∀ {v : V} {d : Dt}, Rep K F v d → Rep K F' v d
  | _, _, .non => .non
  | _, _, .bl b => .bl b
  | _, _, .int i => .int i
  | _, _, .str l h => .str l h
  | _, _, .tup h r => .tup (sameT s h) (Reps.mono s r)
  | _, _, .lst h r => .lst (s _ _ h) (Reps.mono s r)
  | _, _, .scr h r => .scr (s.seq h) (Reps.mono s r)
  | _, _, .dct h r => .dct (s _ _ h) (RepK.mono s r)
  | _, _, .ins h r => .ins (s _ _ h) (RepF.mono s r)
theorem Reps.mono (s : Same F F') : ∀ {vs : List V} {ds : List Dt}, Reps K F vs ds → Reps K F' vs ds
  | _, _, .nil => .nil
  | _, _, .cons h t => .cons (Rep.mono s h) (Reps.mono s t)
theorem RepK.mono (s : Same F F') : ∀ {vs : List (Key × V)} {ds : List (Key × Dt)}, RepK K F vs ds → RepK K F' vs ds
  | _, _, .nil => .nil
  | _, _, .cons h t => .cons (Rep.mono s h) (RepK.mono s t)
theorem RepF.mono (s : Same F F') : ∀ {vs : List (Str × V)} {ds : List (Str × Dt)}, RepF K F vs ds → RepF K F' vs ds
  | _, _, .nil => .nil
  | _, _, .cons h t => .cons (Rep.mono s h) (RepF.mono s t)
end
theorem RepT.mono (s : Same F F') {vs : List (List Key × V)} {ds : List (List Key × Dt)} (h : RepT K F vs ds) : RepT K F' vs ds := by
  induction h with
  | nil => exact .nil
  | cons h t ih => exact .cons (h.mono s) ih

/-! lists of data -/
theorem Reps.length {vs : List V} {ds : List Dt} (r : Reps K F vs ds) : vs.length = ds.length := by
  induction ds generalizing vs with
  | nil => cases r; rfl
  | cons d ds ih => cases r with | cons h t => exact congrArg (· + 1) (ih t)
theorem Reps.get {vs : List V} {ds : List Dt} {i : Nat} {d : Dt} (r : Reps K F vs ds) (e : ds[i]? = some d) : ∃ v, vs[i]? = some v ∧ Rep K F v d := by
  induction ds generalizing vs i with
  | nil => simp at e
  | cons x ds ih =>
    cases r with
    | cons h t =>
      cases i with
      | zero =>
        obtain rfl := Option.some.inj e
        exact ⟨_, rfl, h⟩
      | succ i =>
        obtain ⟨v, h1, h2⟩ := ih t (i := i) (by simpa using e)
        exact ⟨v, by simpa using h1, h2⟩
theorem Reps.app {vs us : List V} {ds es : List Dt} (r : Reps K F vs ds) (s : Reps K F us es) : Reps K F (vs ++ us) (ds ++ es) := by
  induction ds generalizing vs with
  | nil => cases r; exact s
  | cons d ds ih => cases r with | cons h t => exact .cons h (ih t)
theorem Reps.take {vs : List V} {ds : List Dt} (n : Nat) (r : Reps K F vs ds) : Reps K F (vs.take n) (ds.take n) := by
  induction ds generalizing vs n with
  | nil => cases r; rw [List.take_nil, List.take_nil]; exact .nil
  | cons d ds ih =>
    cases r with
    | cons h t =>
      cases n with
      | zero => exact .nil
      | succ n => exact .cons h (ih n t)
theorem Reps.drop {vs : List V} {ds : List Dt} (n : Nat) (r : Reps K F vs ds) : Reps K F (vs.drop n) (ds.drop n) := by
  induction ds generalizing vs n with
  | nil => cases r; rw [List.drop_nil, List.drop_nil]; exact .nil
  | cons d ds ih =>
    cases r with
    | cons h t =>
      cases n with
      | zero => exact .cons h t
      | succ n => exact ih n t
theorem Reps.set {v : V} {d : Dt} (q : Rep K F v d) {vs : List V} {ds : List Dt} (i : Nat) (r : Reps K F vs ds) : Reps K F (vs.set i v) (ds.set i d) := by
  induction ds generalizing vs i with
  | nil => cases r; exact .nil
  | cons x ds ih =>
    cases r with
    | cons h t =>
      cases i with
      | zero => exact .cons q t
      | succ i => exact .cons h (ih i t)
theorem Reps.erase {vs : List V} {ds : List Dt} (i : Nat) (r : Reps K F vs ds) : Reps K F (vs.eraseIdx i) (ds.eraseIdx i) := by
  induction ds generalizing vs i with
  | nil => cases r; exact .nil
  | cons x ds ih =>
    cases r with
    | cons h t =>
      cases i with
      | zero => exact t
      | succ i => exact .cons h (ih i t)
theorem Reps.strs {vs : List V} {ls : List (List Nat)} (r : Reps K F vs (ls.map Dt.str)) : vs = (ls.map fun l => (⟨l.toArray⟩ : Str)).map V.str ∧ ∀ l ∈ ls, l.length ≤ sizeLine := by
  induction ls generalizing vs with
  | nil => cases r; exact ⟨rfl, by simp⟩
  | cons l ls ih =>
    cases r with
    | cons h t =>
      obtain ⟨e, q⟩ := ih t
      cases h with
      | str _ hl =>
        subst e
        refine ⟨rfl, fun x hx => ?_⟩
        rcases List.mem_cons.mp hx with rfl | hx
        · exact hl
        · exact q x hx
theorem Reps.ints {vs : List V} {ls : List Int} (r : Reps K F vs (ls.map Dt.int)) : vs = ls.map V.int := by
  induction ls generalizing vs with
  | nil => cases r; rfl
  | cons l ls ih =>
    cases r with
    | cons h t =>
      have e := ih t
      cases h
      subst e
      rfl
theorem Reps.bls {vs : List V} {ls : List Bool} (r : Reps K F vs (ls.map Dt.bl)) : vs = ls.map V.bl := by
  induction ls generalizing vs with
  | nil => cases r; rfl
  | cons l ls ih =>
    cases r with
    | cons h t =>
      have e := ih t
      cases h
      subst e
      rfl
theorem Reps.of_strs {ls : List (List Nat)} (h : ∀ l ∈ ls, l.length ≤ sizeLine) : Reps K F ((ls.map fun l => (⟨l.toArray⟩ : Str)).map V.str) (ls.map Dt.str) := by
  induction ls with
  | nil => exact .nil
  | cons l ls ih => exact .cons (.str l (h l List.mem_cons_self)) (ih fun x hx => h x (List.mem_cons_of_mem _ hx))
theorem Reps.of_ints {ls : List Int} : Reps K F (ls.map V.int) (ls.map Dt.int) := by
  induction ls with
  | nil => exact .nil
  | cons l ls ih => exact .cons (.int l) ih
theorem RepF.lookup {vs : List (Str × V)} {ds : List (Str × Dt)} {f : Str} {d : Dt} (r : RepF K F vs ds) (e : ds.lookup f = some d) : ∃ v, vs.lookup f = some v ∧ Rep K F v d := by
  induction ds generalizing vs with
  | nil => simp at e
  | cons x ds ih =>
    cases r with
    | cons h t =>
      rename_i k v vs d'
      rw [List.lookup_cons] at e
      rw [List.lookup_cons]
      cases q : (f == k) with
      | true =>
        rw [q] at e
        obtain rfl := Option.some.inj e
        exact ⟨_, rfl, h⟩
      | false =>
        rw [q] at e
        exact ih t e
theorem RepF.none {vs : List (Str × V)} {ds : List (Str × Dt)} {f : Str} (r : RepF K F vs ds) (e : ds.lookup f = none) : vs.lookup f = none := by
  induction ds generalizing vs with
  | nil => cases r; rfl
  | cons x ds ih =>
    cases r with
    | cons h t =>
      rename_i k v vs d'
      rw [List.lookup_cons] at e
      rw [List.lookup_cons]
      cases q : (f == k) with
      | true =>
        rw [q] at e
        cases e
      | false =>
        rw [q] at e
        exact ih t e
def putD (f : Str) (v : Dt) : List (Str × Dt) → List (Str × Dt)
  | [] => [(f, v)]
  | (g, x) :: r => if g = f then (g, v) :: r else (g, x) :: putD f v r
theorem RepF.put {f : Str} {v : V} {d : Dt} (h : Rep K F v d) {vs : List (Str × V)} {ds : List (Str × Dt)} (r : RepF K F vs ds) : RepF K F (putF f v vs) (putD f d ds) := by
  induction ds generalizing vs with
  | nil => cases r; exact .cons h .nil
  | cons x ds ih =>
    cases r with
    | cons q t =>
      rename_i k _ _ _
      show RepF K F (if k = f then _ else _) (if k = f then _ else _)
      by_cases e : k = f
      · rw [if_pos e, if_pos e]
        exact .cons h t
      · rw [if_neg e, if_neg e]
        exact .cons q (ih t)
theorem RepF.length {vs : List (Str × V)} {ds : List (Str × Dt)} (r : RepF K F vs ds) : vs.length = ds.length := by
  induction ds generalizing vs with
  | nil => cases r; rfl
  | cons d ds ih => cases r with | cons h t => exact congrArg (· + 1) (ih t)
theorem RepK.length {vs : List (Key × V)} {ds : List (Key × Dt)} (r : RepK K F vs ds) : vs.length = ds.length := by
  induction ds generalizing vs with
  | nil => cases r; rfl
  | cons d ds ih => cases r with | cons h t => exact congrArg (· + 1) (ih t)
end

inductive RepO (K : PySem.W.Frag) (F : Hp) : HO → MO → Prop
  | lst {vs : List V} {ds : List Dt} (r : Reps K F vs ds) : RepO K F (.lst vs) (.lst ds)
  | dK {vs : List (Key × V)} {ds : List (Key × Dt)} (r : RepK K F vs ds) : RepO K F (.dK vs) (.dK ds)
  | dT {vs : List (List Key × V)} {ds : List (List Key × Dt)} (r : RepT K F vs ds) : RepO K F (.dT vs) (.dT ds)
  | ins {C dx : Addr} {vs : List (Str × V)} {ds : List (Str × Dt)} (r : RepF K F vs ds) : RepO K F (.ins C dx vs) (.ins C ds)
theorem RepO.mono {K : PySem.W.Frag} {F F' : Hp} (s : Same F F') {ho : HO} {o : MO} (h : RepO K F ho o) : RepO K F' ho o := by
  cases h with
  | lst r => exact .lst (r.mono s)
  | dK r => exact .dK (r.mono s)
  | dT r => exact .dT (r.mono s)
  | ins r => exact .ins (r.mono s)
def MO.toD : MO → Option Dt
  | .lst ds => some (.lst ds)
  | .dK kd => some (.dct kd)
  | .ins C fs => some (.ins C fs)
  | .dT _ => none

/-! ### a call's frame, the state of a body -/
structure Fm where
  F0 : Hp
  H0 : Hp
  B : List Addr
  /-- what nobody touches -/
  P : Hp
  /-- the tables of code objects, with the name of what is made there -/
  T : List (Addr × Str)

/-- a frame without pins -/
structure Fm0 where
  F0 : Hp
  H0 : Hp
  B : List Addr
abbrev Fm.of (Z : Fm0) (T : List (Addr × Str)) : Fm := ⟨Z.F0, Z.H0, Z.B, fun _ => none, T⟩
/-- the attributes in an exception's dict -/
def XdAt (K : PySem.W.Frag) (F : Hp) : Option Addr → List (Str × Dt) → Prop
  | some a, fs => ∃ us, F a = some (.xd us) ∧ RepF K F us fs
  | none, fs => fs = []
theorem XdAt.mono {K : PySem.W.Frag} {F F1 : Hp} (s : Same F F1) : ∀ {d : Option Addr} {fs : List (Str × Dt)}, XdAt K F d fs → XdAt K F1 d fs
  | some _, _, ⟨us, h, r⟩ => ⟨us, s _ _ h, r.mono s⟩
  | none, _, h => h
/-- the object of the exception is of its class and has its dict -/
def ExAt (q : Addr × Obj) (C : Addr) (d : Option Addr) : Prop := Zc (.ref C) d q.2 ∧ ∃ vs, q.2.data = .fields vs
def RepS (K : PySem.W.Frag) (F H : Hp) (ov : Option V) : Sl → Prop
  | .no => True
  | .dat d => ∃ v, ov = some v ∧ Rep K F v d
  | .own _ p o => ov = some (.ref p) ∧ F p = none ∧ ∃ ho, H p = some ho ∧ RepO K F ho o
  | .exc q C d fs => ov = some (.ref q.1) ∧ ExAt q C d ∧ XdAt K F d fs

structure DI (K : PySem.W.Frag) (Z : Fm) (F H : Hp) (σ : St) (ρ : En) : Prop where
  f0 : Same Z.F0 F
  fh : Same F H
  fnew : ∀ a o, F a = some o → (∃ o', Z.F0 a = some o') ∨ Z.H0 a = none
  keep : ∀ a o, Z.H0 a = some o → a ∈ Z.B ∨ H a = some o
  bor : ∀ b ∈ Z.B, ∃ o, H b = some o
  len : σ.length = ρ.length
  sl : ∀ (i : Nat) s, ρ[i]? = some s → ∃ ov, σ[i]? = some ov ∧ RepS K F H ov s
  ownB : ∀ (i : Nat) b p o, ρ[i]? = some (.own b p o) → (b = true ∧ p ∈ Z.B) ∨ (b = false ∧ p ∉ Z.B ∧ Z.H0 p = none)
  dis : ∀ (i j : Nat) b c p o q o', ρ[i]? = some (.own b p o) → ρ[j]? = some (.own c q o') → i ≠ j → p ≠ q
  pin : ∀ a u, Z.P a = some u → H a = some u ∧ F a = none ∧ a ∉ Z.B ∧ Z.H0 a = none
  ownP : ∀ (i : Nat) b p o, ρ[i]? = some (.own b p o) → Z.P p = none
  tab : LamX.Tabs Z.T H
  tabB : ∀ t ∈ Z.T, t.1 ∈ Z.B
  tabF : ∀ t ∈ Z.T, F t.1 = none

/-- neither a table nor a code object -/
def NoTab (o : HO) : Prop := (∀ ps, o ≠ .tbl ps) ∧ ∀ c q, o ≠ LamX.CodeO c q
theorem NoTab.rep {K : PySem.W.Frag} {F : Hp} {ho : HO} {o : MO} (r : RepO K F ho o) : NoTab ho := by
  cases r <;> exact ⟨(fun _ z => nomatch z), fun c q z => by unfold LamX.CodeO at z; cases z⟩
theorem tabs_upd {T : List (Addr × Str)} {H : Hp} {p : Addr} {ho ho' : HO} (t : LamX.Tabs T H) (hh : H p = some ho) (n : NoTab ho) : LamX.Tabs T (upd H p ho') := fun x hx => by
  obtain ⟨ps, h1, h2, h3⟩ := t x hx
  have ne : ∀ b u, H b = some u → u ≠ ho → b ≠ p := fun b u e d z => d (by rw [z, hh] at e; exact (Option.some.inj e).symm)
  refine ⟨ps, by rw [upd_ne (ne _ _ h1 fun z => n.1 ps z.symm)]; exact h1, h2, fun pos cv hc => ?_⟩
  obtain ⟨c, e1, e2⟩ := h3 pos cv hc
  exact ⟨c, e1, by rw [upd_ne (ne _ _ e2 fun z => n.2 _ _ z.symm)]; exact e2⟩

structure NewAt (K : PySem.W.Frag) (Z : Fm) (F H : Hp) (ρ : En) (p : Addr) (o : MO) : Prop where
  fr : F p = none
  at_ : ∃ ho, H p = some ho ∧ RepO K F ho o
  h0 : Z.H0 p = none
  nb : p ∉ Z.B
  np : Z.P p = none
  ne : ∀ (i : Nat) b q o', ρ[i]? = some (.own b q o') → q ≠ p

theorem same_new {F : Hp} {p : Addr} {o : HO} (h : F p = none) : Same F (upd F p o) := fun b x e => by
  rw [upd_ne (ne_of_none e h)]
  exact e
theorem same_both {F H : Hp} {p : Addr} {o : HO} (s : Same F H) : Same (upd F p o) (upd H p o) := fun b x e => by
  by_cases q : b = p
  · subst q
    rw [upd_same] at e ⊢
    exact e
  · rw [upd_ne q] at e ⊢
    exact s b x e

section
variable {K : PySem.W.Frag} {Z : Fm} {F H : Hp} {σ : St} {ρ : En} {p : Addr} {ho ho' : HO} {o o' : MO}
theorem DI.freeF (I : DI K Z F H σ ρ) (h : H p = none) : F p = none := I.fh.free h
theorem DI.freeB (I : DI K Z F H σ ρ) (h : H p = none) : p ∉ Z.B := fun z => by
  obtain ⟨_, e⟩ := I.bor p z
  rw [h] at e
  cases e
theorem DI.free0 (I : DI K Z F H σ ρ) (h : H p = none) : Z.H0 p = none := by
  cases q : Z.H0 p with
  | none => rfl
  | some u =>
    rcases I.keep p u q with z | z
    · exact absurd z (I.freeB h)
    · rw [h] at z
      cases z
theorem DI.freeP (I : DI K Z F H σ ρ) (h : H p = none) : Z.P p = none := by
  cases q : Z.P p with
  | none => rfl
  | some u =>
    rw [(I.pin p u q).1] at h
    cases h
theorem RepS.up {F F' H' : Hp} {ov : Option V} {s : Sl} (sf : Same F F') (sh : ∀ q ho, (∃ b o, s = .own b q o) → F q = none → H q = some ho → F' q = none ∧ H' q = some ho) (h : RepS K F H ov s) : RepS K F' H' ov s := by
  cases s with
  | no => trivial
  | dat d =>
    obtain ⟨v, e, r⟩ := h
    exact ⟨v, e, r.mono sf⟩
  | own b q o =>
    obtain ⟨e, f, ho, hh, r⟩ := h
    obtain ⟨f', h'⟩ := sh q ho ⟨b, o, rfl⟩ f hh
    exact ⟨e, f', ho, h', r.mono sf⟩
  | exc q C d fs =>
    obtain ⟨e, z, x⟩ := h
    exact ⟨e, z, x.mono sf⟩
/-- a new frozen object -/
theorem DI.freshF (I : DI K Z F H σ ρ) (h : H p = none) : DI K Z (upd F p ho) (upd H p ho) σ ρ where
  f0 := I.f0.trans (same_new (I.freeF h))
  fh := same_both I.fh
  fnew := fun a u e => by
    by_cases q : a = p
    · subst q
      exact .inr (I.free0 h)
    · rw [upd_ne q] at e
      exact I.fnew a u e
  keep := fun a u e => by
    rcases I.keep a u e with z | z
    · exact .inl z
    · exact .inr (by rw [upd_ne (ne_of_none z h)]; exact z)
  bor := fun b hb => by
    obtain ⟨u, e⟩ := I.bor b hb
    exact ⟨u, by rw [upd_ne (ne_of_none e h)]; exact e⟩
  len := I.len
  sl := fun i s e => by
    obtain ⟨ov, e1, r⟩ := I.sl i s e
    refine ⟨ov, e1, r.up (same_new (I.freeF h)) fun q hq _ fq hh => ?_⟩
    have ne : q ≠ p := ne_of_none hh h
    exact ⟨by rw [upd_ne ne]; exact fq, by rw [upd_ne ne]; exact hh⟩
  ownB := I.ownB
  dis := I.dis
  pin := fun a u e => by
    obtain ⟨h1, h2, h3, h4⟩ := I.pin a u e
    have ne : a ≠ p := ne_of_none h1 h
    exact ⟨by rw [upd_ne ne]; exact h1, by rw [upd_ne ne]; exact h2, h3, h4⟩
  ownP := I.ownP
  tab := I.tab.ext fun b o e => by rw [upd_ne (ne_of_none e h)]; exact e
  tabB := I.tabB
  tabF := fun t ht => by
    obtain ⟨ps, h1, _⟩ := I.tab t ht
    rw [upd_ne (ne_of_none h1 h)]
    exact I.tabF t ht
/-- a new object of one's own -/
theorem DI.freshO (I : DI K Z F H σ ρ) (h : H p = none) : DI K Z F (upd H p ho) σ ρ where
  f0 := I.f0
  fh := I.fh.trans (same_new h)
  fnew := I.fnew
  keep := fun a u e => by
    rcases I.keep a u e with z | z
    · exact .inl z
    · exact .inr (by rw [upd_ne (ne_of_none z h)]; exact z)
  bor := fun b hb => by
    obtain ⟨u, e⟩ := I.bor b hb
    exact ⟨u, by rw [upd_ne (ne_of_none e h)]; exact e⟩
  len := I.len
  sl := fun i s e => by
    obtain ⟨ov, e1, r⟩ := I.sl i s e
    refine ⟨ov, e1, r.up (Same.refl F) fun q hq _ fq hh => ?_⟩
    have ne : q ≠ p := ne_of_none hh h
    exact ⟨fq, by rw [upd_ne ne]; exact hh⟩
  ownB := I.ownB
  dis := I.dis
  pin := fun a u e => by
    obtain ⟨h1, h2, h3, h4⟩ := I.pin a u e
    have ne : a ≠ p := ne_of_none h1 h
    exact ⟨by rw [upd_ne ne]; exact h1, h2, h3, h4⟩
  ownP := I.ownP
  tab := I.tab.ext fun b o e => by rw [upd_ne (ne_of_none e h)]; exact e
  tabB := I.tabB
  tabF := I.tabF
theorem DI.newAt (I : DI K Z F H σ ρ) (h : H p = none) (r : RepO K F ho o) : NewAt K Z F (upd H p ho) ρ p o where
  fr := I.freeF h
  at_ := ⟨ho, upd_same, r⟩
  h0 := I.free0 h
  nb := I.freeB h
  np := I.freeP h
  ne := fun i b q o' e => by
    obtain ⟨ov, _, _, _, ho, hh, _⟩ := I.sl i _ e
    exact ne_of_none hh h
/-- what is one's own is frozen -/
theorem DI.freeze (I : DI K Z F H σ ρ) (N : NewAt K Z F H ρ p o) {d : Dt} (hd : o.toD = some d) : ∃ ho, DI K Z (upd F p ho) H σ ρ ∧ Same F (upd F p ho) ∧ Rep K (upd F p ho) (.ref p) d := by
  obtain ⟨ho, hh, r⟩ := N.at_
  have sf : Same F (upd F p ho) := same_new N.fr
  refine ⟨ho, ?_, sf, ?_⟩
  · exact { f0 := I.f0.trans sf, fh := fun b x e => by
              by_cases q : b = p
              · subst q
                rw [upd_same] at e
                rw [hh]
                exact e
              · rw [upd_ne q] at e
                exact I.fh b x e
            fnew := fun a u e => by
              by_cases q : a = p
              · subst q
                exact .inr N.h0
              · rw [upd_ne q] at e
                exact I.fnew a u e
            keep := I.keep, bor := I.bor, len := I.len
            sl := fun i s e => by
              obtain ⟨ov, e1, rs⟩ := I.sl i s e
              refine ⟨ov, e1, rs.up sf fun q hq ⟨b, oo, eo⟩ fq hh' => ?_⟩
              subst eo
              exact ⟨by rw [upd_ne (N.ne i b q oo e)]; exact fq, hh'⟩
            ownB := I.ownB, dis := I.dis
            pin := fun a u e => by
              obtain ⟨h1, h2, h3, h4⟩ := I.pin a u e
              have ne : a ≠ p := fun z => by
                rw [z, N.np] at e
                cases e
              exact ⟨h1, by rw [upd_ne ne]; exact h2, h3, h4⟩
            ownP := I.ownP, tab := I.tab, tabB := I.tabB
            tabF := fun t ht => by
              rw [upd_ne (fun z : t.1 = p => N.nb (by rw [← z]; exact I.tabB t ht))]
              exact I.tabF t ht }
  · cases r with
    | lst r =>
      obtain rfl := Option.some.inj hd
      exact .lst upd_same (r.mono sf)
    | dK r =>
      obtain rfl := Option.some.inj hd
      exact .dct upd_same (r.mono sf)
    | dT r => cases hd
    | ins r =>
      obtain rfl := Option.some.inj hd
      exact .ins upd_same (r.mono sf)
theorem get_set {α : Type} {l : List α} {i j : Nat} {x y : α} (h : (l.set i x)[j]? = some y) : (i = j ∧ i < l.length ∧ y = x) ∨ (i ≠ j ∧ l[j]? = some y) := by
  rw [List.getElem?_set] at h
  by_cases e : i = j
  · subst e
    rw [if_pos rfl] at h
    by_cases hl : i < l.length
    · rw [if_pos hl] at h
      exact .inl ⟨rfl, hl, (Option.some.inj h).symm⟩
    · rw [if_neg hl] at h
      cases h
  · rw [if_neg e] at h
    exact .inr ⟨e, h⟩
/-- an object of one's own is written -/
theorem DI.write (I : DI K Z F H σ ρ) {i : Nat} {b : Bool} (e : ρ[i]? = some (.own b p o)) (r : RepO K F ho' o') : DI K Z F (upd H p ho') σ (ρ.set i (.own b p o')) := by
  obtain ⟨ov, e1, ev, fp, ho, hh, r0⟩ := I.sl i _ e
  have hi : i < ρ.length := (List.getElem?_eq_some_iff.mp e).1
  refine { f0 := I.f0, fh := fun b x q => ?_, fnew := I.fnew, keep := fun a u q => ?_, bor := fun b hb => ?_, len := by rw [List.length_set]; exact I.len, sl := fun j s q => ?_, ownB := fun j c q oo z => ?_, dis := fun j k b1 b2 q oo q' oo' z z' n => ?_, pin := fun a u q => ?_, ownP := fun j c q oo z => ?_, tab := tabs_upd I.tab hh (NoTab.rep r0), tabB := I.tabB, tabF := I.tabF }
  · have ne : b ≠ p := fun z => by
      rw [z, fp] at q
      cases q
    rw [upd_ne ne]
    exact I.fh b x q
  · by_cases z : a = p
    · subst z
      rcases I.ownB i _ a o e with y | y
      · exact .inl y.2
      · rw [y.2.2] at q
        cases q
    · rcases I.keep a u q with y | y
      · exact .inl y
      · exact .inr (by rw [upd_ne z]; exact y)
  · by_cases z : b = p
    · subst z
      exact ⟨ho', upd_same⟩
    · rw [upd_ne z]
      exact I.bor b hb
  · rcases get_set q with ⟨rfl, _, rfl⟩ | ⟨ne, q⟩
    · exact ⟨ov, e1, ev, fp, ho', upd_same, r⟩
    · obtain ⟨ow, e2, rs⟩ := I.sl j s q
      refine ⟨ow, e2, rs.up (Same.refl F) fun q' hq ⟨c, oo, eo⟩ fq hh' => ⟨fq, ?_⟩⟩
      subst eo
      rw [upd_ne (I.dis j i _ _ _ _ _ _ q e fun z => ne z.symm)]
      exact hh'
  · rcases get_set z with ⟨rfl, _, y⟩ | ⟨_, z⟩
    · injection y with y0 y1 y2
      subst y1
      subst y0
      exact I.ownB i c q o e
    · exact I.ownB j c q oo z
  · rcases get_set z with ⟨ej, _, y⟩ | ⟨nj, x⟩
    · injection y with y0 y1 y2
      subst y1
      rcases get_set z' with ⟨y, _, _⟩ | ⟨nk, x'⟩
      · exact absurd (ej.symm.trans y) n
      · exact I.dis i k _ _ _ _ _ _ e x' nk
    · rcases get_set z' with ⟨ek, _, y⟩ | ⟨nk, x'⟩
      · injection y with y0 y1 y2
        subst y1
        exact I.dis j i _ _ _ _ _ _ x e fun z => nj z.symm
      · exact I.dis j k _ _ _ _ _ _ x x' n
  · obtain ⟨h1, h2, h3, h4⟩ := I.pin a u q
    have ne : a ≠ p := fun z => by
      rw [z, I.ownP i _ p o e] at q
      cases q
    exact ⟨by rw [upd_ne ne]; exact h1, h2, h3, h4⟩
  · rcases get_set z with ⟨ej, _, y⟩ | ⟨_, z⟩
    · injection y with y0 y1 y2
      subst y1
      exact I.ownP i _ _ o e
    · exact I.ownP j c q oo z
theorem DI.setDat (I : DI K Z F H σ ρ) (i : Nat) {v : V} {d : Dt} (r : Rep K F v d) : DI K Z F H (σ.set i (some v)) (ρ.set i (.dat d)) where
  f0 := I.f0
  fh := I.fh
  fnew := I.fnew
  keep := I.keep
  bor := I.bor
  len := by rw [List.length_set, List.length_set]; exact I.len
  sl := fun j s e => by
    rcases get_set e with ⟨rfl, hl, rfl⟩ | ⟨ne, e⟩
    · exact ⟨some v, by rw [List.getElem?_set, if_pos rfl, if_pos (by rw [I.len]; exact hl)], v, rfl, r⟩
    · obtain ⟨ov, e1, rs⟩ := I.sl j s e
      exact ⟨ov, by rw [List.getElem?_set, if_neg ne]; exact e1, rs⟩
  ownB := fun j c q oo z => by
    rcases get_set z with ⟨_, _, y⟩ | ⟨_, z⟩
    · cases y
    · exact I.ownB j c q oo z
  dis := fun j k b1 b2 q oo q' oo' z z' n => by
    rcases get_set z with ⟨_, _, y⟩ | ⟨_, x⟩
    · cases y
    · rcases get_set z' with ⟨_, _, y⟩ | ⟨_, x'⟩
      · cases y
      · exact I.dis j k _ _ _ _ _ _ x x' n
  pin := I.pin
  ownP := fun j c q oo z => by
    rcases get_set z with ⟨_, _, y⟩ | ⟨_, z⟩
    · cases y
    · exact I.ownP j c q oo z
  tab := I.tab
  tabB := I.tabB
  tabF := I.tabF
theorem DI.setOwn (I : DI K Z F H σ ρ) (i : Nat) (N : NewAt K Z F H ρ p o) : DI K Z F H (σ.set i (some (.ref p))) (ρ.set i (.own false p o)) where
  f0 := I.f0
  fh := I.fh
  fnew := I.fnew
  keep := I.keep
  bor := I.bor
  len := by rw [List.length_set, List.length_set]; exact I.len
  sl := fun j s e => by
    rcases get_set e with ⟨rfl, hl, rfl⟩ | ⟨ne, e⟩
    · exact ⟨some (.ref p), by rw [List.getElem?_set, if_pos rfl, if_pos (by rw [I.len]; exact hl)], rfl, N.fr, N.at_⟩
    · obtain ⟨ov, e1, rs⟩ := I.sl j s e
      exact ⟨ov, by rw [List.getElem?_set, if_neg ne]; exact e1, rs⟩
  ownB := fun j c q oo z => by
    rcases get_set z with ⟨_, _, y⟩ | ⟨_, z⟩
    · injection y with y0 y1 y2
      subst y1
      exact .inr ⟨y0, N.nb, N.h0⟩
    · exact I.ownB j c q oo z
  dis := fun j k b1 b2 q oo q' oo' z z' n => by
    rcases get_set z with ⟨ej, _, y⟩ | ⟨nj, x⟩
    · injection y with y0 y1 y2
      subst y1
      rcases get_set z' with ⟨y, _, _⟩ | ⟨_, x'⟩
      · exact absurd (ej.symm.trans y) n
      · exact (N.ne k _ _ _ x').symm
    · rcases get_set z' with ⟨ek, _, y⟩ | ⟨_, x'⟩
      · injection y with y0 y1 y2
        subst y1
        exact N.ne j _ _ _ x
      · exact I.dis j k _ _ _ _ _ _ x x' n
  pin := I.pin
  ownP := fun j c q oo z => by
    rcases get_set z with ⟨_, _, y⟩ | ⟨_, z⟩
    · injection y with y0 y1 y2
      subst y1
      exact N.np
    · exact I.ownP j c q oo z
  tab := I.tab
  tabB := I.tabB
  tabF := I.tabF
theorem DI.setNo (I : DI K Z F H σ ρ) (i : Nat) {ov : Option V} : DI K Z F H (σ.set i ov) (ρ.set i .no) where
  f0 := I.f0
  fh := I.fh
  fnew := I.fnew
  keep := I.keep
  bor := I.bor
  len := by rw [List.length_set, List.length_set]; exact I.len
  sl := fun j s e => by
    rcases get_set e with ⟨rfl, hl, rfl⟩ | ⟨ne, e⟩
    · exact ⟨ov, by rw [List.getElem?_set, if_pos rfl, if_pos (by rw [I.len]; exact hl)], trivial⟩
    · obtain ⟨ow, e1, rs⟩ := I.sl j s e
      exact ⟨ow, by rw [List.getElem?_set, if_neg ne]; exact e1, rs⟩
  ownB := fun j c q oo z => by
    rcases get_set z with ⟨_, _, y⟩ | ⟨_, z⟩
    · cases y
    · exact I.ownB j c q oo z
  dis := fun j k b1 b2 q oo q' oo' z z' n => by
    rcases get_set z with ⟨_, _, y⟩ | ⟨_, x⟩
    · cases y
    · rcases get_set z' with ⟨_, _, y⟩ | ⟨_, x'⟩
      · cases y
      · exact I.dis j k _ _ _ _ _ _ x x' n
  pin := I.pin
  ownP := fun j c q oo z => by
    rcases get_set z with ⟨_, _, y⟩ | ⟨_, z⟩
    · cases y
    · exact I.ownP j c q oo z
  tab := I.tab
  tabB := I.tabB
  tabF := I.tabF
/-- a slot is forgotten, the values stay -/
theorem DI.forget (I : DI K Z F H σ ρ) (i : Nat) : DI K Z F H σ (ρ.set i .no) := by
  cases q : σ[i]? with
  | none =>
    have hi : ρ.length ≤ i := by rw [← I.len]; exact List.getElem?_eq_none_iff.mp q
    rw [List.set_eq_of_length_le hi]
    exact I
  | some ov =>
    have es : σ.set i ov = σ := by
      apply List.ext_getElem?
      intro j
      rw [List.getElem?_set]
      by_cases z : i = j
      · subst z
        rw [if_pos rfl, if_pos (List.getElem?_eq_some_iff.mp q).1, q]
      · rw [if_neg z]
    have := I.setNo i (ov := ov)
    rw [es] at this
    exact this
/-- an own slot taken out of the state -/
theorem DI.takeOut (I : DI K Z F H σ ρ) {i : Nat} (e : ρ[i]? = some (.own false p o)) : DI K Z F H σ (ρ.set i .no) ∧ NewAt K Z F H (ρ.set i .no) p o := by
  obtain ⟨ov, e1, ev, fp, ho, hh, r⟩ := I.sl i _ e
  have hb : p ∉ Z.B ∧ Z.H0 p = none := by
    rcases I.ownB i _ p o e with y | y
    · cases y.1
    · exact y.2
  refine ⟨I.forget i, fp, ⟨ho, hh, r⟩, hb.2, hb.1, I.ownP i _ p o e, fun j c q o' z => ?_⟩
  rcases get_set z with ⟨_, _, y⟩ | ⟨ne, z⟩
  · cases y
  · exact I.dis j i _ _ _ _ _ _ z e fun y => ne y.symm
theorem DI.slot (I : DI K Z F H σ ρ) {i : Nat} {d : Dt} (e : ρ[i]? = some (.dat d)) : ∃ v, σ[i]? = some (some v) ∧ Rep K F v d := by
  obtain ⟨ov, e1, v, rfl, r⟩ := I.sl i _ e
  exact ⟨v, e1, r⟩
theorem DI.slotO (I : DI K Z F H σ ρ) {i : Nat} {b : Bool} (e : ρ[i]? = some (.own b p o)) : σ[i]? = some (some (.ref p)) ∧ F p = none ∧ ∃ ho, H p = some ho ∧ RepO K F ho o := by
  obtain ⟨ov, e1, rfl, r⟩ := I.sl i _ e
  exact ⟨e1, r⟩
/-- a pin is taken out: what it held is a new object again -/
theorem DI.unpin {P' : Hp} (I : DI K { Z with P := P' } F H σ ρ) (hs : ∀ a u, Z.P a = some u → P' a = some u) : DI K Z F H σ ρ where
  f0 := I.f0
  fh := I.fh
  fnew := I.fnew
  keep := I.keep
  bor := I.bor
  len := I.len
  sl := I.sl
  ownB := I.ownB
  dis := I.dis
  pin := fun a u e => I.pin a u (hs a u e)
  ownP := fun i b q o e => by
    cases h : Z.P q with
    | none => rfl
    | some u =>
      have this : P' q = none := I.ownP i b q o e
      rw [hs q u h] at this
      cases this
  tab := I.tab
  tabB := I.tabB
  tabF := I.tabF
/-- a new object is pinned -/
theorem DI.pinned (I : DI K Z F H σ ρ) (N : NewAt K Z F H ρ p o) (hh : H p = some ho) : DI K { Z with P := upd Z.P p ho } F H σ ρ where
  f0 := I.f0
  fh := I.fh
  fnew := I.fnew
  keep := I.keep
  bor := I.bor
  len := I.len
  sl := I.sl
  ownB := I.ownB
  dis := I.dis
  pin := fun a u e => by
    by_cases q : a = p
    · subst q
      have e' : upd Z.P a ho a = some u := e
      rw [upd_same] at e'
      rw [← e']
      exact ⟨hh, N.fr, N.nb, N.h0⟩
    · have e' : upd Z.P p ho a = some u := e
      rw [upd_ne q] at e'
      exact I.pin a u e'
  ownP := fun i b q o' e => by
    show upd Z.P p ho q = none
    rw [upd_ne (N.ne i b q o' e)]
    exact I.ownP i b q o' e
  tab := I.tab
  tabB := I.tabB
  tabF := I.tabF
/-- what is pinned is written -/
theorem DI.rewrite {P' : Hp} (I : DI K { Z with P := upd P' p ho } F H σ ρ) (hx : NoTab ho := by exact ⟨(fun _ z => nomatch z), fun c q z => by unfold LamX.CodeO at z; cases z⟩) : DI K { Z with P := upd P' p ho' } F (upd H p ho') σ ρ := by
  obtain ⟨h1, h2, h3, h4⟩ := I.pin p ho upd_same
  have nown : ∀ (i : Nat) b q o, ρ[i]? = some (.own b q o) → q ≠ p := fun i b q o e z => by
    have this : upd P' p ho q = none := I.ownP i b q o e
    rw [z, upd_same] at this
    cases this
  exact { f0 := I.f0, fh := fun b x e => by
            have ne : b ≠ p := fun z => by
              rw [z, h2] at e
              cases e
            rw [upd_ne ne]
            exact I.fh b x e
          fnew := I.fnew, keep := fun a u e => by
            have ne : a ≠ p := fun z => by
              have e' : Z.H0 a = some u := e
              rw [z, show Z.H0 p = none from h4] at e'
              cases e'
            rcases I.keep a u e with y | y
            · exact .inl y
            · exact .inr (by rw [upd_ne ne]; exact y)
          bor := fun b hb => by
            obtain ⟨u, e⟩ := I.bor b hb
            have ne : b ≠ p := fun z => h3 (by rw [← z]; exact hb)
            exact ⟨u, by rw [upd_ne ne]; exact e⟩
          len := I.len, sl := fun i s e => by
            obtain ⟨ov, e1, r⟩ := I.sl i s e
            refine ⟨ov, e1, r.up (Same.refl F) fun q hq ⟨b, oo, eo⟩ fq hh' => ⟨fq, ?_⟩⟩
            subst eo
            rw [upd_ne (nown i b q oo e)]
            exact hh'
          ownB := I.ownB, dis := I.dis, pin := fun a u e => by
            by_cases q : a = p
            · subst q
              have e' : upd P' a ho' a = some u := e
              rw [upd_same] at e'
              rw [← e']
              exact ⟨upd_same, h2, h3, h4⟩
            · have e' : upd P' p ho' a = some u := e
              rw [upd_ne q] at e'
              have e2 : upd P' p ho a = some u := by rw [upd_ne q]; exact e'
              obtain ⟨k1, k2, k3, k4⟩ := I.pin a u e2
              exact ⟨by rw [upd_ne q]; exact k1, k2, k3, k4⟩
          ownP := fun i b q o e => by
            show upd P' p ho' q = none
            have := I.ownP i b q o e
            have t : upd P' p ho q = none := this
            rw [upd_ne (nown i b q o e)] at t ⊢
            exact t
          tab := tabs_upd I.tab h1 hx, tabB := I.tabB, tabF := I.tabF }
end
end DL

namespace DL
open PyProof.Rows hiding St
open PySem PySem.Spec L2

/-! ### data readings -/
/-- an own error in the air: its class, its attributes -/
structure Xn where
  C : Addr
  fs : List (Str × Dt)
abbrev XP := Xn → En → Prop
abbrev DT := En → (Dt → En → Prop) → XP → Prop
abbrev DO := En → (MO → En → Prop) → XP → Prop
abbrev DB := En → (Bool → En → Prop) → XP → Prop
/-- an argument: data, or the slot of an object that is lent -/
inductive Ag where
  | d (x : Dt)
  | b (i : Nat)
abbrev DA := En → (List Ag → En → Prop) → XP → Prop
inductive Rv where
  | d (x : Dt)
  | o (x : MO)

def XnAt (K : PySem.W.Frag) (F : Hp) (d : Option Addr) (x : Xn) : Prop := XdAt K F d x.fs
def PX (K : PySem.W.Frag) (Z : Fm) (W : WX) (F : Hp) (σ : St) (U : XP) : Prop :=
  ∀ x ρ' F' H' d, DI K Z F' H' σ ρ' → Same F F' → XnAt K F' d x → U x ρ' → W (.ref x.C) d σ H'
theorem PX.mono {K : PySem.W.Frag} {Z : Fm} {W : WX} {F F1 : Hp} {σ : St} {U : XP} (u : PX K Z W F σ U) (s : Same F F1) : PX K Z W F1 σ U := fun x ρ' F' H' d I s' => u x ρ' F' H' d I (s.trans s')
/-- what is wanted of a value -/
def Rt (K : PySem.W.Frag) (Z : Fm) (F : Hp) (σ : St) (R : Dt → En → Prop) (Q : VK) : Prop := ∀ d ρ' v F' H', DI K Z F' H' σ ρ' → Same F F' → Rep K F' v d → R d ρ' → Q v H'
def tE (K : PySem.W.Frag) (Z : Fm) (W : WX) (m : DT) : TE := fun σ H Q => ∃ F ρ R U, DI K Z F H σ ρ ∧ m ρ R U ∧ Rt K Z F σ R Q ∧ PX K Z W F σ U
def tO (K : PySem.W.Frag) (Z : Fm) (W : WX) (m : DO) : TE := fun σ H Q => ∃ F ρ R U, DI K Z F H σ ρ ∧ m ρ R U ∧
  (∀ o ρ' p F' H', DI K Z F' H' σ ρ' → Same F F' → NewAt K Z F' H' ρ' p o → R o ρ' → Q (.ref p) H') ∧ PX K Z W F σ U
def tT (K : PySem.W.Frag) (Z : Fm) (W : WX) (m : DB) : TT := fun σ H Q => ∃ F ρ R U, DI K Z F H σ ρ ∧ m ρ R U ∧ (∀ b ρ' F' H', DI K Z F' H' σ ρ' → Same F F' → R b ρ' → Q b H') ∧ PX K Z W F σ U
def AgRep (K : PySem.W.Frag) (F : Hp) (σ : St) (v : V) : Ag → Prop
  | .d x => Rep K F v x
  | .b i => σ[i]? = some (some v)
theorem AgRep.mono {K : PySem.W.Frag} {F F1 : Hp} {σ : St} {v : V} (s : Same F F1) : ∀ {a : Ag}, AgRep K F σ v a → AgRep K F1 σ v a
  | .d _, h => Rep.mono s h
  | .b _, h => h
def tAs (K : PySem.W.Frag) (Z : Fm) (W : WX) (m : DA) : TA := fun σ H Q => ∃ F ρ R U, DI K Z F H σ ρ ∧ m ρ R U ∧
  (∀ as ρ' vs F' H', DI K Z F' H' σ ρ' → Same F F' → Paired (fun v a => AgRep K F' σ v a) vs as → R as ρ' → Q vs H') ∧ PX K Z W F σ U

def DE (X : Cx) (Z : Fm) (W : WX) (e : Expr) (m : DT) : Prop := PE X e (tE X.K Z W m)
def DOk (X : Cx) (Z : Fm) (W : WX) (e : Expr) (m : DO) : Prop := PE X e (tO X.K Z W m)
def DTs (X : Cx) (Z : Fm) (W : WX) (e : Expr) (m : DB) : Prop := PT X e (tT X.K Z W m)
def DWs (X : Cx) (Z : Fm) (W : WX) (e : Expr) (m : DB) : Prop := PW X e (tT X.K Z W m)
def DAs (X : Cx) (Z : Fm) (W : WX) (es : List Expr) (m : DA) : Prop := PA X es (tAs X.K Z W m)

theorem PE.imp {X : Cx} {e : Expr} {t t' : TE} (h : PE X e t) (i : ∀ σ H Q, t' σ H Q → t σ H Q) : PE X e t' := ⟨fun pins s σ H Q I q => h.run pins s σ H Q I (i σ H Q q)⟩
theorem PT.imp {X : Cx} {e : Expr} {t t' : TT} (h : PT X e t) (i : ∀ σ H Q, t' σ H Q → t σ H Q) : PT X e t' := ⟨fun pins s σ H Q I q => h.run pins s σ H Q I (i σ H Q q)⟩
theorem PW.imp {X : Cx} {e : Expr} {t t' : TT} (h : PW X e t) (i : ∀ σ H Q, t' σ H Q → t σ H Q) : PW X e t' := ⟨fun w pins s σ H Q I q => h.run w pins s σ H Q I (i σ H Q q)⟩
theorem PA.imp {X : Cx} {e : List Expr} {t t' : TA} (h : PA X e t) (i : ∀ σ H Q, t' σ H Q → t σ H Q) : PA X e t' := ⟨fun p pins s σ H Q I q => h.run p pins s σ H Q I (i σ H Q q)⟩

section
variable {X : Cx} {Z : Fm} {W : WX} {e a b c : Expr} {ma mb mc : DT} {pos : Pos}

/-! ### names, constants -/
theorem st_same {σ : St} {i : Nat} {ov : Option V} (e : σ[i]? = some ov) : σ.set i ov = σ := by
  apply List.ext_getElem?
  intro j
  rw [List.getElem?_set]
  by_cases z : i = j
  · subst z
    rw [if_pos rfl, if_pos (List.getElem?_eq_some_iff.mp e).1, e]
  · rw [if_neg z]
/-- a name is read; an own object is frozen from here on -/
def dVar (i : Nat) : DT := fun ρ R _ => match ρ[i]? with
  | some (.dat d) => R d ρ
  | some (.own false _ o) => (match o.toD with
    | some d => R d (ρ.set i (.dat d))
    | none => False)
  | _ => False
theorem d_var (i : Nat) {x : Str} (hN : X.N[i]? = some x := by rfl) (hv : Vis X.env.scope x := by first | exact Or.inl rfl | exact Or.inr (Or.inl rfl) | exact Or.inr (Or.inr rfl)) (hd : (x == ("__debug__" : Str)) = false := by decide)
    (hcd : (x == ("__classdict__" : Str)) = false := by decide) : DE X Z W (.Name x pos) (dVar i) :=
  PE.imp (pe_var hN hv hd hcd) fun σ H Q ⟨F, ρ, R, U, I, hm, q, u⟩ => by
    unfold dVar at hm
    split at hm
    · rename_i d e
      obtain ⟨v, e1, r⟩ := I.slot e
      exact ⟨v, e1, q d ρ v F H I (Same.refl F) r hm⟩
    · rename_i p o e
      split at hm
      · rename_i d hd
        obtain ⟨e1, _⟩ := I.slotO e
        obtain ⟨I1, N⟩ := I.takeOut e
        obtain ⟨ho, I2, s2, r⟩ := I1.freeze N hd
        have I3 := I2.setDat i r
        rw [st_same e1, List.set_set] at I3
        exact ⟨_, e1, q d _ _ _ H I3 s2 r hm⟩
      · exact hm.elim
    · exact hm.elim
def dC (d : Dt) : DT := fun ρ R _ => R d ρ
theorem DE.const {v : V} {d : Dt} (h : PE X e (tC v)) (r : ∀ F, Rep X.K F v d) : DE X Z W e (dC d) :=
  PE.imp h fun σ H Q ⟨F, ρ, R, U, I, hm, q, u⟩ => q d ρ v F H I (Same.refl F) (r F) hm
theorem d_int {i : Int} {j : Nat} : DE X Z W (.Constant (.int i) j pos) (dC (.int i)) := DE.const pe_int fun _ => .int i
theorem d_bl {i : Bool} {j : Nat} : DE X Z W (.Constant (.bool i) j pos) (dC (.bl i)) := DE.const pe_bl fun _ => .bl i
theorem d_non {j : Nat} : DE X Z W (.Constant .none j pos) (dC .non) := DE.const pe_non fun _ => .non
theorem rep_str {K : PySem.W.Frag} {F : Hp} {x : Str} (h : x.cps.toList.length ≤ sizeLine) : Rep K F (.str x) (.str x.cps.toList) := .str x.cps.toList h
theorem d_str {x : Str} {j : Nat} {l : List Nat} (hl : x.cps.toList = l := by decide +kernel) (h : l.length ≤ sizeLine := by decide) : DE X Z W (.Constant (.str x) j pos) (dC (.str l)) := by
  subst hl
  exact DE.const pe_str fun _ => rep_str h

/-! ### operators, by values -/
/-- what is wanted of a value where the slots stay -/
def Rt1 (K : PySem.W.Frag) (Z : Fm) (F : Hp) (σ : St) (ρ : En) (d : Dt) (Q : VK) : Prop := ∀ v F' H', DI K Z F' H' σ ρ → Same F F' → Rep K F' v d → Q v H'
/-- an operation on data, with what is wanted of its result -/
abbrev O1 := Dt → (Dt → Prop) → Prop
abbrev O2 := Dt → Dt → (Dt → Prop) → Prop
abbrev OL := List Dt → (Dt → Prop) → Prop
def V2 (K : PySem.W.Frag) (r : R2) (f : O2) : Prop := ∀ (Z : Fm) (F H : Hp) (σ : St) (ρ : En) (x y : V) (dx dy : Dt) (k : Dt → Prop) (Q : VK), DI K Z F H σ ρ → Rep K F x dx → Rep K F y dy → f dx dy k → (∀ dz, k dz → Rt1 K Z F σ ρ dz Q) → r x y H Q
def V1 (K : PySem.W.Frag) (r : V → Hp → VK → Prop) (f : O1) : Prop := ∀ (Z : Fm) (F H : Hp) (σ : St) (ρ : En) (x : V) (dx : Dt) (k : Dt → Prop) (Q : VK), DI K Z F H σ ρ → Rep K F x dx → f dx k → (∀ dz, k dz → Rt1 K Z F σ ρ dz Q) → r x H Q
def VL (K : PySem.W.Frag) (r : List V → Hp → VK → Prop) (f : OL) : Prop := ∀ (Z : Fm) (F H : Hp) (σ : St) (ρ : En) (xs : List V) (ds : List Dt) (k : Dt → Prop) (Q : VK), DI K Z F H σ ρ → Reps K F xs ds → f ds k → (∀ dz, k dz → Rt1 K Z F σ ρ dz Q) → r xs H Q
def dBin (f : O2) (a b : DT) : DT := fun ρ R U => a ρ (fun x ρ1 => b ρ1 (fun y ρ2 => f x y (fun z => R z ρ2)) U) U
def dUn (f : O1) (a : DT) : DT := fun ρ R U => a ρ (fun x ρ1 => f x (fun z => R z ρ1)) U
theorem bin_in {r : R2} {f : O2} (hv : V2 X.K r f) (σ : St) (H : Hp) (Q : VK) (h : tE X.K Z W (dBin f ma mb) σ H Q) : tOp r (tE X.K Z W ma) (tE X.K Z W mb) σ H Q := by
  obtain ⟨F, ρ, R, U, I, hm, q, u⟩ := h
  refine ⟨F, ρ, _, U, I, hm, fun x ρ1 v F1 H1 I1 s1 r1 h1 => ⟨F1, ρ1, _, U, I1, h1, fun y ρ2 w F2 H2 I2 s2 r2 h2 => ?_, u.mono s1⟩, u⟩
  exact hv Z F2 H2 σ ρ2 v w x y _ Q I2 (r1.mono s2) r2 h2 fun z hz v' F' H' I' s' r' => q z ρ2 v' F' H' I' ((s1.trans s2).trans s') r' hz
theorem un_in {r : V → Hp → VK → Prop} {f : O1} (hv : V1 X.K r f) (σ : St) (H : Hp) (Q : VK) (h : tE X.K Z W (dUn f ma) σ H Q) : tE X.K Z W ma σ H (fun x H1 => r x H1 Q) := by
  obtain ⟨F, ρ, R, U, I, hm, q, u⟩ := h
  refine ⟨F, ρ, _, U, I, hm, fun x ρ1 v F1 H1 I1 s1 r1 h1 => ?_, u⟩
  exact hv Z F1 H1 σ ρ1 v x _ Q I1 r1 h1 fun z hz v' F' H' I' s' r' => q z ρ1 v' F' H' I' (s1.trans s') r' hz
theorem d_op {op : Operator} {r : R2} {f : O2} (ho : OpR X (binaryOp op) r) (hv : V2 X.K r f) (ha : DE X Z W a ma) (hb : DE X Z W b mb) : DE X Z W (.BinOp a op b pos) (dBin f ma mb) :=
  PE.imp (pe_op ho ha hb) (bin_in hv)
theorem d_un {op : UnaryOp} {r : V → Hp → VK → Prop} {f : O1} (ho : UnR X (unaryOp op) r) (hv : V1 X.K r f) (ha : DE X Z W a ma) : DE X Z W (.UnaryOp op a pos) (dUn f ma) :=
  PE.imp (pe_un ho ha) (un_in hv)
theorem d_cmp {op : CmpOp} {r : R2} {f : O2} (ho : OpR X (compareOp op) r) (hv : V2 X.K r f) (ha : DE X Z W a ma) (hb : DE X Z W b mb) (hm : behindInMarks op b = false := by first | exact nomark _ | rfl) : DE X Z W (.Compare a [op] [b] pos) (dBin f ma mb) :=
  PE.imp (pe_cmpR ho ha hb hm) (bin_in hv)
theorem d_ix {r : R2} {f : O2} (ho : IxR X r) (hv : V2 X.K r f) (ha : DE X Z W a ma) (hb : DE X Z W b mb) (hs : PlainIx b := by exact fun _ _ => rfl) : DE X Z W (.Subscript a b pos) (dBin f ma mb) :=
  PE.imp (pe_ix ho ha hb hs) (bin_in hv)
/-- a op b op' c -/
def dChain (f g : O2) (a b c : DT) : DT := fun ρ R U => a ρ (fun x ρ1 => b ρ1 (fun y ρ2 => f x y (fun z => match z with
  | .bl true => c ρ2 (fun z ρ3 => g y z (fun w => R w ρ3)) U
  | .bl false => R (.bl false) ρ2
  | _ => False)) U) U
theorem chain_in {r r' : R2} {f g : O2} (hv : V2 X.K r f) (hv' : V2 X.K r' g) (σ : St) (H : Hp) (Q : VK) (h : tE X.K Z W (dChain f g ma mb mc) σ H Q) : tChain r r' (tE X.K Z W ma) (tE X.K Z W mb) (tE X.K Z W mc) σ H Q := by
  obtain ⟨F, ρ, R, U, I, hm, q, u⟩ := h
  refine ⟨F, ρ, _, U, I, hm, fun x ρ1 v F1 H1 I1 s1 r1 h1 => ⟨F1, ρ1, _, U, I1, h1, fun y ρ2 w F2 H2 I2 s2 r2 h2 => ?_, u.mono s1⟩, u⟩
  refine hv Z F2 H2 σ ρ2 v w x y _ _ I2 (r1.mono s2) r2 h2 fun z hz v' F3 H3 I3 s3 r3 => ?_
  cases r3 with
  | bl k =>
    cases k with
    | false => exact ⟨false, rfl, iteF (q _ ρ2 _ F3 H3 I3 ((s1.trans s2).trans s3) (.bl false) hz)⟩
    | true =>
      refine ⟨true, rfl, iteT ⟨F3, ρ2, _, U, I3, hz, fun z ρ3 w' F4 H4 I4 s4 r4 h4 => ?_, u.mono ((s1.trans s2).trans s3)⟩⟩
      exact hv' Z F4 H4 σ ρ3 w w' y z _ Q I4 (r2.mono (s3.trans s4)) r4 h4 fun k hk v' F' H' I' s' r' => q k ρ3 v' F' H' I' (((s1.trans s2).trans s3).trans (s4.trans s')) r' hk
  | _ => exact hz.elim
/-! ### what is made new: frozen -/
def dFr (m : DO) : DT := fun ρ R U => m ρ (fun o ρ' => match o.toD with
  | some d => R d ρ'
  | none => False) U
theorem DOk.frz {m : DO} (h : DOk X Z W e m) : DE X Z W e (dFr m) := PE.imp h fun σ H Q ⟨F, ρ, R, U, I, hm, q, u⟩ => by
  refine ⟨F, ρ, _, U, I, hm, fun o ρ' p F' H' I' s' N h' => ?_, u⟩
  try dsimp only at h'
  split at h'
  · rename_i d hd
    obtain ⟨ho, I2, s2, r⟩ := I'.freeze N hd
    exact q d ρ' _ _ H' I2 (s'.trans s2) r h'
  · exact h'.elim

/-! ### arguments -/
def daNil : DA := fun ρ R _ => R [] ρ
def daCons (a : DT) (r : DA) : DA := fun ρ R U => a ρ (fun x ρ1 => r ρ1 (fun as ρ2 => R (.d x :: as) ρ2) U) U
/-- an own object is lent -/
def daLend (i : Nat) (r : DA) : DA := fun ρ R U => match ρ[i]? with
  | some (.own _ _ _) => r ρ (fun as ρ2 => R (.b i :: as) ρ2) U
  | _ => False
theorem da_nil : DAs X Z W [] daNil := PA.imp pa_nil fun σ H Q ⟨F, ρ, R, U, I, hm, q, u⟩ => q [] ρ [] F H I (Same.refl F) .nil hm
theorem da_cons {es : List Expr} {mr : DA} (ha : DE X Z W e ma) (hr : DAs X Z W es mr) (hs : starEach (e :: es) X.env = (false, eval e X.env) :: starEach es X.env := by rfl) : DAs X Z W (e :: es) (daCons ma mr) :=
  PA.imp (pa_cons ha hr hs) fun σ H Q ⟨F, ρ, R, U, I, hm, q, u⟩ =>
    ⟨F, ρ, _, U, I, hm, fun x ρ1 v F1 H1 I1 s1 r1 h1 => ⟨F1, ρ1, _, U, I1, h1, fun as ρ2 vs F2 H2 I2 s2 r2 h2 => q _ ρ2 _ F2 H2 I2 (s1.trans s2) (.cons (show AgRep X.K F2 σ v (.d x) from r1.mono s2) r2) h2, u.mono s1⟩, u⟩
theorem da_lend (i : Nat) {x : Str} {es : List Expr} {mr : DA} (hr : DAs X Z W es mr) (hN : X.N[i]? = some x := by rfl) (hv : Vis X.env.scope x := by first | exact Or.inl rfl | exact Or.inr (Or.inl rfl) | exact Or.inr (Or.inr rfl)) (hd : (x == ("__debug__" : Str)) = false := by decide)
    (hcd : (x == ("__classdict__" : Str)) = false := by decide) (hs : starEach (.Name x pos :: es) X.env = (false, eval (.Name x pos) X.env) :: starEach es X.env := by rfl) : DAs X Z W (.Name x pos :: es) (daLend i mr) :=
  PA.imp (pa_cons (pe_var hN hv hd hcd) hr hs) fun σ H Q ⟨F, ρ, R, U, I, hm, q, u⟩ => by
    unfold daLend at hm
    split at hm
    · rename_i b p o e
      obtain ⟨e1, _⟩ := I.slotO e
      exact ⟨_, e1, F, ρ, _, U, I, hm, fun as ρ2 vs F2 H2 I2 s2 r2 h2 => q _ ρ2 _ F2 H2 I2 s2 (.cons (show AgRep X.K F2 σ _ (.b i) from e1) r2) h2, u⟩
    · exact hm.elim
def dats : List Ag → Option (List Dt)
  | [] => some []
  | .d x :: r => (dats r).map (x :: ·)
  | .b _ :: _ => none
theorem dats_reps {K : PySem.W.Frag} {F : Hp} {σ : St} : ∀ {as : List Ag} {vs : List V} {ds : List Dt}, Paired (fun v a => AgRep K F σ v a) vs as → dats as = some ds → Reps K F vs ds
  | [], _, _, .nil, e => by
    obtain rfl := Option.some.inj e
    exact .nil
  | .d x :: r, _, ds, .cons h t, e => by
    cases q : dats r with
    | none =>
      have e' : (dats r).map (x :: ·) = some ds := e
      rw [q] at e'
      cases e'
    | some l =>
      have e' : (dats r).map (x :: ·) = some ds := e
      rw [q] at e'
      obtain rfl := Option.some.inj e'
      exact .cons h (dats_reps t q)
  | .b _ :: _, _, _, .cons _ _, e => by cases e

/-! ### calls of what is built in -/
def dCB (f : OL) (a : DA) : DT := fun ρ R U => a ρ (fun as ρ1 => match dats as with
  | some ds => f ds (fun z => R z ρ1)
  | none => False) U
theorem cb_in {r : List V → Hp → VK → Prop} {f : OL} {m : DA} (hv : VL X.K r f) (σ : St) (H : Hp) (Q : VK) (h : tE X.K Z W (dCB f m) σ H Q) : tAs X.K Z W m σ H (fun vs H1 => r vs H1 Q) := by
  obtain ⟨F, ρ, R, U, I, hm, q, u⟩ := h
  refine ⟨F, ρ, _, U, I, hm, fun as ρ1 vs F1 H1 I1 s1 r1 h1 => ?_, u⟩
  try dsimp only at h1
  cases ea : dats as with
  | none =>
    rw [ea] at h1
    exact h1.elim
  | some ds =>
    rw [ea] at h1
    exact hv Z F1 H1 σ ρ1 vs ds _ Q I1 (dats_reps r1 ea) h1 fun z hz v' F' H' I' s' r' => q z ρ1 v' F' H' I' (s1.trans s') r' hz
theorem d_cb {x : Str} {p : Pos} {r : List V → Hp → VK → Prop} {g : OL} {m : DA} {es : List Expr} (hv : VL X.K r g) (h : ∀ t, PA X es t → PE X (.Call (.Name x p) es [] pos) (tCB r t)) (ha : DAs X Z W es m) : DE X Z W (.Call (.Name x p) es [] pos) (dCB g m) :=
  PE.imp (h _ ha) (cb_in hv)

/-! ### tests -/
def truth : Dt → Option Bool
  | .non => some false
  | .bl b => some b
  | .int i => some (i != 0)
  | .str l => some (!l.isEmpty)
  | .tup l => some (!l.isEmpty)
  | .lst l => some (!l.isEmpty)
  | .dct l => some (!l.isEmpty)
  | _ => none
def dTru (a : DT) : DB := fun ρ R U => a ρ (fun x ρ1 => match truth x with
  | some b => R b ρ1
  | none => False) U
/-- a test whose value is True or False -/
def dBl (a : DT) : DB := fun ρ R U => a ρ (fun x ρ1 => match x with
  | .bl b => R b ρ1
  | _ => False) U
theorem bl_in (σ : St) (H : Hp) (Q : Bool → Hp → Prop) (h : tT X.K Z W (dBl ma) σ H Q) : tE X.K Z W ma σ H (fun x H1 => ∃ k, x = .bl k ∧ Q k H1) := by
  obtain ⟨F, ρ, R, U, I, hm, q, u⟩ := h
  refine ⟨F, ρ, _, U, I, hm, fun x ρ1 v F1 H1 I1 s1 r1 h1 => ?_, u⟩
  cases r1 with
  | bl k => exact ⟨k, rfl, q k ρ1 F1 H1 I1 s1 h1⟩
  | _ => exact h1.elim
theorem t_bl (ha : DE X Z W a ma) (he : ∀ whole, isTrue a X.env whole = (do let v ← whole; standAt a.pos; holding [v] (truthy v)) := by intro _; rfl) : DTs X Z W a (dBl ma) := PT.imp (pt_val ha he) bl_in
theorem t_cmp {op : CmpOp} {r : R2} {f : O2} (ho : OpR X (compareOp op) r) (hv : V2 X.K r f) (ha : DE X Z W a ma) (hb : DE X Z W b mb) (hm : behindInMarks op b = false := by first | exact nomark _ | rfl) : DTs X Z W (.Compare a [op] [b] pos) (dBl (dBin f ma mb)) :=
  PT.imp (pt_cmpR ho ha hb hm) fun σ H Q h => bin_in hv σ H _ (bl_in σ H Q h)
theorem t_chain {op op' : CmpOp} {r r' : R2} {f g : O2} (ho : OpR X (compareOp op) r) (ho' : OpR X (compareOp op') r') (hv : V2 X.K r f) (hv' : V2 X.K r' g) (ha : DE X Z W a ma) (hb : DE X Z W b mb) (hc : DE X Z W c mc)
    (hm : lastMarks [op, op'] [b, c] = false := by with_unfolding_all rfl) : DTs X Z W (.Compare a [op, op'] [b, c] pos) (dBl (dChain f g ma mb mc)) :=
  PT.imp (pt_chain ho ho' ha hb hc hm) fun σ H Q h => chain_in hv hv' σ H _ (bl_in σ H Q h)
variable {tA tB : DB} {rest : List Expr}
def dNot (t : DB) : DB := fun ρ R U => t ρ (fun k ρ1 => R (!k) ρ1) U
def dAnd (t s : DB) : DB := fun ρ R U => t ρ (fun k ρ1 => if k = true then s ρ1 R U else R false ρ1) U
def dOr (t s : DB) : DB := fun ρ R U => t ρ (fun k ρ1 => if k = true then R true ρ1 else s ρ1 R U) U
theorem t_not (ha : DTs X Z W a tA) : DTs X Z W (.UnaryOp .Not a pos) (dNot tA) := PT.imp (pt_not ha) fun σ H Q ⟨F, ρ, R, U, I, hm, q, u⟩ =>
  ⟨F, ρ, _, U, I, hm, fun k ρ1 F1 H1 I1 s1 h1 => q (!k) ρ1 F1 H1 I1 s1 h1, u⟩
theorem w_and1 (ha : DTs X Z W a tA) : DWs X Z W (.BoolOp .And [a] pos) tA := pw_and1 ha
theorem w_or1 (ha : DTs X Z W a tA) : DWs X Z W (.BoolOp .Or [a] pos) tA := pw_or1 ha
theorem w_and (ha : DTs X Z W a tA) (hb : DWs X Z W (.BoolOp .And (b :: rest) pos) tB) : DWs X Z W (.BoolOp .And (a :: b :: rest) pos) (dAnd tA tB) :=
  PW.imp (pw_and ha hb) fun σ H Q ⟨F, ρ, R, U, I, hm, q, u⟩ => ⟨F, ρ, _, U, I, hm, fun k ρ1 F1 H1 I1 s1 h1 => by
    cases k with
    | false => exact iteF (q false ρ1 F1 H1 I1 s1 h1)
    | true => exact iteT ⟨F1, ρ1, R, U, I1, h1, fun b ρ2 F2 H2 I2 s2 => q b ρ2 F2 H2 I2 (s1.trans s2), u.mono s1⟩, u⟩
theorem w_or (ha : DTs X Z W a tA) (hb : DWs X Z W (.BoolOp .Or (b :: rest) pos) tB) : DWs X Z W (.BoolOp .Or (a :: b :: rest) pos) (dOr tA tB) :=
  PW.imp (pw_or ha hb) fun σ H Q ⟨F, ρ, R, U, I, hm, q, u⟩ => ⟨F, ρ, _, U, I, hm, fun k ρ1 F1 H1 I1 s1 h1 => by
    cases k with
    | true => exact iteT (q true ρ1 F1 H1 I1 s1 h1)
    | false => exact iteF ⟨F1, ρ1, R, U, I1, h1, fun b ρ2 F2 H2 I2 s2 => q b ρ2 F2 H2 I2 (s1.trans s2), u.mono s1⟩, u⟩
theorem t_w (h : DWs X Z W e tA) : DTs X Z W e tA := PW.pt h
/-- as values: all but the last True or False -/
def dAndV (a b : DT) : DT := fun ρ R U => a ρ (fun x ρ1 => match x with
  | .bl true => b ρ1 R U
  | .bl false => R (.bl false) ρ1
  | _ => False) U
def dOrV (a b : DT) : DT := fun ρ R U => a ρ (fun x ρ1 => match x with
  | .bl false => b ρ1 R U
  | .bl true => R (.bl true) ρ1
  | _ => False) U
theorem d_one {op : PySem.BoolOp} (ha : DE X Z W a ma) : DE X Z W (.BoolOp op [a] pos) ma := pe_one ha
theorem d_and (ha : DE X Z W a ma) (hb : DE X Z W (.BoolOp .And (b :: rest) pos) mb) : DE X Z W (.BoolOp .And (a :: b :: rest) pos) (dAndV ma mb) :=
  PE.imp (pe_and ha hb) fun σ H Q ⟨F, ρ, R, U, I, hm, q, u⟩ => ⟨F, ρ, _, U, I, hm, fun x ρ1 v F1 H1 I1 s1 r1 h1 => by
    cases r1 with
    | bl k =>
      cases k with
      | false => exact ⟨false, rfl, iteF (q _ ρ1 _ F1 H1 I1 s1 (.bl false) h1)⟩
      | true => exact ⟨true, rfl, iteT ⟨F1, ρ1, R, U, I1, h1, fun d ρ2 v F2 H2 I2 s2 => q d ρ2 v F2 H2 I2 (s1.trans s2), u.mono s1⟩⟩
    | _ => exact h1.elim, u⟩
def dNotV (a : DT) : DT := fun ρ R U => a ρ (fun x ρ1 => match x with
  | .bl k => R (.bl (!k)) ρ1
  | _ => False) U
def dIf (t : DB) (a b : DT) : DT := fun ρ R U => t ρ (fun k ρ1 => if k = true then a ρ1 R U else b ρ1 R U) U
theorem d_if (hc : DTs X Z W c tA) (ha : DE X Z W a ma) (hb : DE X Z W b mb) : DE X Z W (.IfExp c a b pos) (dIf tA ma mb) :=
  PE.imp (pe_ifExp hc ha hb) fun σ H Q ⟨F, ρ, R, U, I, hm, q, u⟩ => ⟨F, ρ, _, U, I, hm, fun k ρ1 F1 H1 I1 s1 h1 => by
    cases k with
    | true => exact iteT ⟨F1, ρ1, R, U, I1, h1, fun d ρ2 v F2 H2 I2 s2 => q d ρ2 v F2 H2 I2 (s1.trans s2), u.mono s1⟩
    | false => exact iteF ⟨F1, ρ1, R, U, I1, h1, fun d ρ2 v F2 H2 I2 s2 => q d ρ2 v F2 H2 I2 (s1.trans s2), u.mono s1⟩, u⟩

/-! ### displays -/
def dTup (a : DA) : DT := fun ρ R U => a ρ (fun as ρ1 => match dats as with
  | some ds => ds.length ≤ sizeLine ∧ R (.tup ds) ρ1
  | none => False) U
theorem d_tup {es : List Expr} {k : Nat} {m : DA} (ha : DAs X Z W es m) : DE X Z W (.Tuple es k pos) (dTup m) :=
  PE.imp (pe_tup ha) fun σ H Q ⟨F, ρ, R, U, I, hm, q, u⟩ => by
    refine ⟨F, ρ, _, U, I, hm, fun as ρ1 vs F1 H1 I1 s1 r1 h1 => ?_, u⟩
    try dsimp only at h1
    split at h1
    · rename_i ds e
      have r := dats_reps r1 e
      refine ⟨by rw [r.length]; exact h1.1, fun p np => ?_⟩
      have I2 := I1.freshF (ho := .tup vs) np
      have s2 : Same F1 (upd F1 p (.tup vs)) := same_new (I1.freeF np)
      exact q _ ρ1 _ _ _ I2 (s1.trans s2) (.tup (SqT.of upd_same) (r.mono s2)) h1.2
    · exact h1.elim
def dLst (a : DA) : DO := fun ρ R U => a ρ (fun as ρ1 => match dats as with
  | some ds => ds.length ≤ sizeLine ∧ R (.lst ds) ρ1
  | none => False) U
theorem d_lst {es : List Expr} {m : DA} (ha : DAs X Z W es m) : DOk X Z W (.List es pos) (dLst m) :=
  PE.imp (pe_lst ha) fun σ H Q ⟨F, ρ, R, U, I, hm, q, u⟩ => by
    refine ⟨F, ρ, _, U, I, hm, fun as ρ1 vs F1 H1 I1 s1 r1 h1 => ?_, u⟩
    try dsimp only at h1
    split at h1
    · rename_i ds e
      have r := dats_reps r1 e
      refine ⟨by rw [r.length]; exact h1.1, fun p np => ?_⟩
      exact q _ ρ1 p F1 _ (I1.freshO (ho := .lst vs) np) s1 (I1.newAt np (.lst r)) h1.2
    · exact h1.elim
end
end DL

namespace DL
open PyProof.Rows hiding St
open PySem PySem.Spec L2

/-! ### statements -/
structure DEn where
  nx : En → Prop
  rt : Rv → En → Prop
  bk : En → Prop
  ct : En → Prop
  ex : XP
abbrev DSt := DEn → En → Prop
def RvAt (K : PySem.W.Frag) (Z : Fm) (F H : Hp) (ρ : En) (v : V) : Rv → Prop
  | .d d => Rep K F v d
  | .o o => ∃ p, v = .ref p ∧ NewAt K Z F H ρ p o
structure ER (K : PySem.W.Frag) (Z : Fm) (W : WX) (F : Hp) (D : DEn) (D' : Ends) : Prop where
  nx : ∀ ρ' σ' F' H', DI K Z F' H' σ' ρ' → Same F F' → D.nx ρ' → D'.nx σ' H'
  rt : ∀ rv ρ' v σ' F' H', DI K Z F' H' σ' ρ' → Same F F' → RvAt K Z F' H' ρ' v rv → D.rt rv ρ' → D'.rt v H'
  bk : ∀ ρ' σ' F' H', DI K Z F' H' σ' ρ' → Same F F' → D.bk ρ' → D'.bk σ' H'
  ct : ∀ ρ' σ' F' H', DI K Z F' H' σ' ρ' → Same F F' → D.ct ρ' → D'.ct σ' H'
  ex : ∀ σ, PX K Z W F σ D.ex
theorem ER.mono {K : PySem.W.Frag} {Z : Fm} {W : WX} {F F1 : Hp} {D : DEn} {D' : Ends} (r : ER K Z W F D D') (s : Same F F1) : ER K Z W F1 D D' where
  nx := fun ρ' σ' F' H' I s' => r.nx ρ' σ' F' H' I (s.trans s')
  rt := fun rv ρ' v σ' F' H' I s' => r.rt rv ρ' v σ' F' H' I (s.trans s')
  bk := fun ρ' σ' F' H' I s' => r.bk ρ' σ' F' H' I (s.trans s')
  ct := fun ρ' σ' F' H' I s' => r.ct ρ' σ' F' H' I (s.trans s')
  ex := fun σ => (r.ex σ).mono s
def tS (K : PySem.W.Frag) (Z : Fm) (W : WX) (m : DSt) : TS := fun D' σ H => ∃ F ρ D, DI K Z F H σ ρ ∧ m D ρ ∧ ER K Z W F D D'
def DS (X : Cx) (Z : Fm) (W : WX) (st : Stmt) (m : DSt) : Prop := PS X st (tS X.K Z W m)
def DSs (X : Cx) (Z : Fm) (W : WX) (st : List Stmt) (m : DSt) : Prop := PSs X st (tS X.K Z W m)
theorem PS.imp {X : Cx} {e : Stmt} {t t' : TS} (h : PS X e t) (i : ∀ D σ H, t' D σ H → t D σ H) : PS X e t' := ⟨fun pins s σ H D I q => h.run pins s σ H D I (i D σ H q)⟩
theorem PSs.imp {X : Cx} {e : List Stmt} {t t' : TS} (h : PSs X e t) (i : ∀ D σ H, t' D σ H → t D σ H) : PSs X e t' := ⟨fun pins s σ H D I q => h.run pins s σ H D I (i D σ H q)⟩

section
variable {X : Cx} {Z : Fm} {W : WX} {st : Stmt} {rest : List Stmt} {m n : DSt} {e : Expr} {me : DT} {mo : DO} {mt : DB} {pos : Pos}
def dNext : DSt := fun D ρ => D.nx ρ
def dSeq (a b : DSt) : DSt := fun D ρ => a { D with nx := b D } ρ
theorem ds_nil : DSs X Z W [] dNext := PSs.imp pss_nil fun D' σ H ⟨F, ρ, D, I, hm, r⟩ => r.nx ρ σ F H I (Same.refl F) hm
theorem ds_cons (h1 : DS X Z W st m) (h2 : DSs X Z W rest n) : DSs X Z W (st :: rest) (dSeq m n) := PSs.imp (pss_cons h1 h2) fun D' σ H ⟨F, ρ, D, I, hm, r⟩ =>
  ⟨F, ρ, _, I, hm, fun ρ' σ' F' H' I' s' h' => ⟨F', ρ', D, I', h', r.mono s'⟩, r.rt, r.bk, r.ct, r.ex⟩
theorem ds_one (h1 : DS X Z W st m) : DSs X Z W [st] m := pss_one h1
/-- never reached -/
def dNo : DSt := fun _ _ => False
def dDrop (a : DT) : DSt := fun D ρ => a ρ (fun _ ρ' => D.nx ρ') D.ex
theorem ds_expr (he : DE X Z W e me) (hs : swapsWith e none pos.line X.env = pure false := by rfl) : DS X Z W (.Expr e pos) (dDrop me) :=
  PS.imp (ps_expr he hs) fun D' σ H ⟨F, ρ, D, I, hm, r⟩ => ⟨F, ρ, _, _, I, hm, fun d ρ' v F' H' I' s' _ h' => r.nx ρ' σ F' H' I' s' h', r.ex σ⟩
def dRet (a : DT) : DSt := fun D ρ => a ρ (fun d ρ' => D.rt (.d d) ρ') D.ex
theorem ds_ret (he : DE X Z W e me) : DS X Z W (.Return (some e) pos) (dRet me) :=
  PS.imp (ps_ret he) fun D' σ H ⟨F, ρ, D, I, hm, r⟩ => ⟨F, ρ, _, _, I, hm, fun d ρ' v F' H' I' s' r' h' => r.rt (.d d) ρ' v σ F' H' I' s' r' h', r.ex σ⟩
/-- a new object is handed back -/
def dRetO (a : DO) : DSt := fun D ρ => a ρ (fun o ρ' => D.rt (.o o) ρ') D.ex
theorem ds_retO (he : DOk X Z W e mo) : DS X Z W (.Return (some e) pos) (dRetO mo) :=
  PS.imp (ps_ret he) fun D' σ H ⟨F, ρ, D, I, hm, r⟩ => ⟨F, ρ, _, _, I, hm, fun o ρ' p F' H' I' s' N h' => r.rt (.o o) ρ' _ σ F' H' I' s' ⟨p, rfl, N⟩ h', r.ex σ⟩
def dRetN : DSt := fun D ρ => D.rt (.d .non) ρ
def dIfS (t : DB) (a b : DSt) : DSt := fun D ρ => t ρ (fun k ρ1 => if k = true then a D ρ1 else b D ρ1) D.ex
theorem ds_if {c : Expr} {a b : List Stmt} (hc : DTs X Z W c mt) (ha : DSs X Z W a m) (hb : DSs X Z W b n) : DS X Z W (.If c a b pos) (dIfS mt m n) :=
  PS.imp (ps_if hc ha hb) fun D' σ H ⟨F, ρ, D, I, hm, r⟩ => ⟨F, ρ, _, _, I, hm, fun k ρ1 F1 H1 I1 s1 h1 => by
    cases k with
    | true => exact iteT ⟨F1, ρ1, D, I1, h1, r.mono s1⟩
    | false => exact iteF ⟨F1, ρ1, D, I1, h1, r.mono s1⟩, r.ex σ⟩

/-! ### targets -/
abbrev DG := Dt → En → (En → Prop) → Prop
/-- the slots agree but for ts -/
def Agr (ts : List Nat) (σ σ' : St) : Prop := σ'.length = σ.length ∧ ∀ i, i ∉ ts → σ'[i]? = σ[i]?
theorem Agr.refl (ts : List Nat) (σ : St) : Agr ts σ σ := ⟨rfl, fun _ _ => rfl⟩
def tG (K : PySem.W.Frag) (Z : Fm) (ts : List Nat) (m : DG) : TG := fun v σ H Q => ∃ F ρ d R, DI K Z F H σ ρ ∧ Rep K F v d ∧ m d ρ R ∧ ∀ ρ' σ' F' H', DI K Z F' H' σ' ρ' → Same F F' → Agr ts σ σ' → R ρ' → Q σ' H'
def DGt (X : Cx) (Z : Fm) (e : Expr) (ts : List Nat) (m : DG) : Prop := PG X e (tG X.K Z ts m)
theorem PG.imp {X : Cx} {e : Expr} {t t' : TG} (h : PG X e t) (i : ∀ v σ H Q, t' v σ H Q → t v σ H Q) : PG X e t' := ⟨fun pins s σ H v u Q I r q => h.run pins s σ H v u Q I r (i v σ H Q q)⟩
theorem PGs.imp {X : Cx} {e : List Expr} {t t' : TGs} (h : PGs X e t) (i : ∀ v σ H Q, t' v σ H Q → t v σ H Q) : PGs X e t' := ⟨fun pins s σ H v u Q I r q => h.run pins s σ H v u Q I r (i v σ H Q q)⟩
def gN (i : Nat) : DG := fun d ρ R => R (ρ.set i (.dat d))
theorem g_name {i : Nat} {x : Str} (hN : X.N.Nodup) (hi : X.N[i]? = some x := by rfl) (hx : Loc X.env.scope x := by first | exact Or.inl rfl | exact Or.inr rfl) (hf : X.fn x = true ∨ X.env.scope.names.lookup x = some .local := by first | exact .inl rfl | exact .inr rfl | assumption) : DGt X Z (.Name x pos) [i] (gN i) :=
  PG.imp (pg_name hN hi hx hf) fun v σ H Q ⟨F, ρ, d, R, I, r, hm, q⟩ => q _ _ F H (I.setDat i r) (Same.refl F) ⟨List.length_set, fun j hj => by rw [List.getElem?_set, if_neg fun z => hj (by rw [z]; exact List.mem_cons_self)]⟩ hm
def dSet (i : Nat) (a : DT) : DSt := fun D ρ => a ρ (fun d ρ1 => D.nx (ρ1.set i (.dat d))) D.ex
def dSetO (i : Nat) (a : DO) : DSt := fun D ρ => a ρ (fun o ρ1 => ∀ p, D.nx (ρ1.set i (.own false p o))) D.ex
theorem ds_set {i : Nat} {x : Str} {pos' : Pos} (hN : X.N.Nodup) (he : DE X Z W e me) (hi : X.N[i]? = some x := by rfl) (hx : Loc X.env.scope x := by first | exact Or.inl rfl | exact Or.inr rfl) (hs : swapsWith e (some (.Name x pos')) pos.line X.env = pure false := by rfl) (hf : X.fn x = true ∨ X.env.scope.names.lookup x = some .local := by first | exact .inl rfl | exact .inr rfl | assumption) :
    DS X Z W (.Assign [.Name x pos'] e pos) (dSet i me) :=
  PS.imp (ps_set hN hi hx he hs hf) fun D' σ H ⟨F, ρ, D, I, hm, r⟩ => ⟨F, ρ, _, _, I, hm, fun d ρ1 v F1 H1 I1 s1 r1 h1 => r.nx _ _ F1 H1 (I1.setDat i r1) s1 h1, r.ex σ⟩
theorem ds_setO {i : Nat} {x : Str} {pos' : Pos} (hN : X.N.Nodup) (he : DOk X Z W e mo) (hi : X.N[i]? = some x := by rfl) (hx : Loc X.env.scope x := by first | exact Or.inl rfl | exact Or.inr rfl) (hs : swapsWith e (some (.Name x pos')) pos.line X.env = pure false := by rfl) (hf : X.fn x = true ∨ X.env.scope.names.lookup x = some .local := by first | exact .inl rfl | exact .inr rfl | assumption) :
    DS X Z W (.Assign [.Name x pos'] e pos) (dSetO i mo) :=
  PS.imp (ps_set hN hi hx he hs hf) fun D' σ H ⟨F, ρ, D, I, hm, r⟩ => ⟨F, ρ, _, _, I, hm, fun o ρ1 p F1 H1 I1 s1 N h1 => r.nx _ _ F1 H1 (I1.setOwn i N) s1 (h1 p), r.ex σ⟩
/-- a, b = e, e' -/
def dPar (i j : Nat) (a b : DT) : DSt := fun D ρ => a ρ (fun x ρ1 => b ρ1 (fun y ρ2 => D.nx ((ρ2.set i (.dat x)).set j (.dat y))) D.ex) D.ex
theorem ds_par {i j : Nat} {x y : Str} {a b : Expr} {ma mb : DT} {px py pt : Pos} {kt k2 : Nat} {pt2 : Pos} (hc : X.calm = true) (hN : X.N.Nodup) (ha : DE X Z W a ma) (hb : DE X Z W b mb) (hi : X.N[i]? = some x := by rfl) (hj : X.N[j]? = some y := by rfl) (hij : i ≠ j := by decide)
    (hx : X.env.scope.names.lookup x = some .local := by rfl) (hy : X.env.scope.names.lookup y = some .local := by rfl)
    (hw : swappedStores [.Tuple [.Name x px, .Name y py] kt pt] (.Tuple [a, b] k2 pt2) X.env = pure (some [x, y]) := by rfl)
    (hs : swapsWithSole [.Tuple [.Name x px, .Name y py] kt pt] (.Tuple [a, b] k2 pt2) pos.line X.env = pure false := by rfl) (he1 : starEach [a, b] X.env = (false, eval a X.env) :: starEach [b] X.env := by rfl) (he2 : starEach [b] X.env = (false, eval b X.env) :: starEach [] X.env := by rfl) :
    DS X Z W (.Assign [.Tuple [.Name x px, .Name y py] kt pt] (.Tuple [a, b] k2 pt2) pos) (dPar i j ma mb) :=
  PS.imp (ps_par hc hN hi hj hij hx hy (pa_cons ha (pa_cons hb pa_nil he2) he1) hw hs) fun D' σ H ⟨F, ρ, D, I, hm, r⟩ =>
    ⟨F, ρ, _, _, I, hm, fun dx ρ1 v F1 H1 I1 s1 r1 h1 => ⟨F1, ρ1, _, _, I1, h1, fun dy ρ2 w F2 H2 I2 s2 r2 h2 => ⟨v, w, rfl, r.nx _ _ F2 H2 ((I2.setDat i (r1.mono s2)).setDat j r2) (s1.trans s2) h2⟩, (r.ex σ).mono s1⟩, r.ex σ⟩
/-! ### what is walked -/
/-- J yields the data ds -/
def Yields (K : PySem.W.Frag) (J : It) (ds : List Dt) (F : Hp) : Prop := ∀ (i : Nat) (Z : Fm) (F1 H1 : Hp) (σ1 : St) (ρ1 : En), DI K Z F1 H1 σ1 ρ1 → Same F F1 →
  (∀ d, ds[i]? = some d → J.go i H1 ∧ ∀ x H2, J.yld i H1 x H2 → ∃ F2, DI K Z F2 H2 σ1 ρ1 ∧ Same F1 F2 ∧ Rep K F2 x d) ∧ (ds.length ≤ i → J.stop i H1)
abbrev DI' := En → (List Dt → En → Prop) → XP → Prop
def tI (K : PySem.W.Frag) (Z : Fm) (W : WX) (m : DI') : TI := fun σ H R => ∃ F ρ R' U, DI K Z F H σ ρ ∧ m ρ R' U ∧
  (∀ ds ρ' J F' H', DI K Z F' H' σ ρ' → Same F F' → Yields K J ds F' → R' ds ρ' → R J H') ∧ PX K Z W F σ U
def DIt (X : Cx) (Z : Fm) (W : WX) (tg iter : Expr) (m : DI') : Prop := PI X tg iter (tI X.K Z W m)
theorem PI.imp {X : Cx} {tg e : Expr} {t t' : TI} (h : PI X tg e t) (i : ∀ σ H R, t' σ H R → t σ H R) : PI X tg e t' := ⟨fun pins s σ H R I q => h.run pins s σ H R I (i σ H R q)⟩
/-- a loop over data -/
def dLoop (g : DG) (b : DSt) : List Dt → DSt
  | [], D, ρ => D.nx ρ
  | d :: ds, D, ρ => g d ρ (fun ρ1 => b { D with nx := dLoop g b ds D, ct := dLoop g b ds D, bk := D.nx } ρ1)
def dFor (it : DI') (g : DG) (b : DSt) : DSt := fun D ρ => it ρ (fun ds ρ1 => dLoop g b ds D ρ1) D.ex
theorem ds_for {tg iter : Expr} {body : List Stmt} {mi : DI'} {ts : List Nat} {g : DG} {mb : DSt} (hp : PassesOwn (model X.prog X.w) X.A X.env X.xe) (hc : X.calm = true) (hi : DIt X Z W tg iter mi) (hg : DGt X Z tg ts g) (hb : DSs X Z W body mb)
    (hs : ∀ x, foldedSetIterable iter X.env x = pure x := by intro _; rfl) : DS X Z W (.For tg iter body [] pos) (dFor mi g mb) :=
  PS.imp (ps_for hp hc hi hg hb hs) fun D' σ H ⟨F, ρ, D, I, hm, r⟩ => by
    refine ⟨F, ρ, _, _, I, hm, fun ds ρ1 J F1 H1 I1 s1 y h1 => ?_, r.ex σ⟩
    refine ⟨fun i m σ H => i + m = ds.length ∧ ∃ F2 ρ2, DI X.K Z F2 H σ ρ2 ∧ Same F1 F2 ∧ dLoop g mb (ds.drop i) D ρ2, ⟨ds.length, by omega, F1, ρ1, I1, Same.refl F1, h1⟩, fun i m σ H ⟨em, F2, ρ2, I2, s2, h2⟩ => ?_⟩
    obtain ⟨yg, ys⟩ := y i Z F2 H σ ρ2 I2 s2
    by_cases hl : i < ds.length
    · refine .inr ?_
      obtain ⟨go, yl⟩ := yg ds[i] (List.getElem?_eq_getElem hl)
      refine ⟨go, fun σ' H' => ∃ F3 ρ3, DI X.K Z F3 H' σ' ρ3 ∧ Same F1 F3 ∧ dLoop g mb (ds.drop (i + 1)) D ρ3, fun σ' H' ⟨F3, ρ3, I3, s3, h3⟩ => ⟨m - 1, by omega, by omega, F3, ρ3, I3, s3, h3⟩, fun x H' hy => ?_⟩
      obtain ⟨F3, I3, s3, rx⟩ := yl x H' hy
      rw [List.drop_eq_getElem_cons hl] at h2
      refine ⟨F3, ρ2, ds[i], _, I3, rx, h2, fun ρ4 σ4 F4 H4 I4 s4 _ h4 => ⟨F4, ρ4, _, I4, h4, ?_⟩⟩
      have s14 : Same F1 F4 := s2.trans (s3.trans s4)
      have sF4 : Same F F4 := s1.trans s14
      exact { nx := fun ρ' σ' F' H' I' s' h' => ⟨F', ρ', I', s14.trans s', h'⟩, rt := fun rv ρ' v σ' F' H' I' s' => r.rt rv ρ' v σ' F' H' I' (sF4.trans s'), bk := fun ρ' σ' F' H' I' s' h' => r.nx ρ' σ' F' H' I' (sF4.trans s') h', ct := fun ρ' σ' F' H' I' s' h' => ⟨F', ρ', I', s14.trans s', h'⟩, ex := fun σ => (r.ex σ).mono sF4 }
    · refine .inl ⟨ys (by omega), ?_⟩
      rw [List.drop_eq_nil_of_le (by omega)] at h2
      exact r.nx ρ2 σ F2 H I2 (s1.trans s2) h2
/-! ### while -/
end

/-! ### iterables -/
theorem yl_list {K : PySem.W.Frag} {F : Hp} {a : Addr} {vs : List V} {ds : List Dt} (h : SqL K F a vs) (r : Reps K F vs ds) : Yields K (Itl K a) ds F := fun i Z F1 H1 σ1 ρ1 I s => by
  have sh : Same F H1 := s.trans I.fh
  refine ⟨fun d e => ?_, fun hl => ⟨vs, sh.seq h, by rw [r.length]; exact hl⟩⟩
  obtain ⟨v, e1, r1⟩ := r.get e
  refine ⟨⟨vs, v, sh.seq h, e1⟩, fun x H2 hy => ?_⟩
  obtain ⟨rfl, hx⟩ := hy
  have ex := hx vs (sh.seq h)
  rw [e1] at ex
  obtain rfl := Option.some.inj ex
  exact ⟨F1, I, Same.refl F1, r1.mono s⟩
theorem yl_tup {K : PySem.W.Frag} {F : Hp} {a : Addr} {vs : List V} {ds : List Dt} (h : SqT K F a vs) (r : Reps K F vs ds) : Yields K (Itt K a) ds F := fun i Z F1 H1 σ1 ρ1 I s => by
  have sh : Same F H1 := s.trans I.fh
  refine ⟨fun d e => ?_, fun hl => ⟨vs, sameT sh h, by rw [r.length]; exact hl⟩⟩
  obtain ⟨v, e1, r1⟩ := r.get e
  refine ⟨⟨vs, v, sameT sh h, e1⟩, fun x H2 hy => ?_⟩
  obtain ⟨rfl, hx⟩ := hy
  have ex := hx vs (sameT sh h)
  rw [e1] at ex
  obtain rfl := Option.some.inj ex
  exact ⟨F1, I, Same.refl F1, r1.mono s⟩
def rangeD (lo : Int) (n : Nat) : List Dt := (List.range n).map fun i => Dt.int (lo + (i : Nat))
theorem yl_range {K : PySem.W.Frag} {F : Hp} {lo : Int} {n : Nat} : Yields K (Itr lo n) (rangeD lo n) F := fun i Z F1 H1 σ1 ρ1 I s => by
  refine ⟨fun d e => ?_, fun hl => ?_⟩
  · have hi : i < n := by
      have := (List.getElem?_eq_some_iff.mp e).1
      unfold rangeD at this
      simpa using this
    have ed : d = Dt.int (lo + (i : Nat)) := by
      unfold rangeD at e
      rw [List.getElem?_map, List.getElem?_range hi] at e
      exact (Option.some.inj e).symm
    subst ed
    refine ⟨hi, fun x H2 hy => ?_⟩
    obtain ⟨rfl, rfl⟩ := hy
    exact ⟨F1, I, Same.refl F1, .int _⟩
  · show n ≤ i
    unfold rangeD at hl
    simpa using hl

/-! by values -/
def ItV (X : Cx) (tg : Expr) (r : V → Hp → (It → Hp → Prop) → Prop) : Prop := ∀ (pins : List (Addr × Obj)) (s : Shared) (σ : St) (H : Hp) (v : V) (u : Value) (R : It → Hp → Prop), Inv X pins σ H s → RelV v u → r v H R →
  wpAny (model X.prog X.w) X.A (pyIter u) (PIE X pins σ tg R) X.xe s
theorem ItV.pi {X : Cx} {tg e : Expr} {te : TE} {r : V → Hp → (It → Hp → Prop) → Prop} (h : ItV X tg r) (he : PE X e te) : PI X tg e (fun σ H R => te σ H fun v H1 => r v H1 R) :=
  ⟨fun pins s σ H R I q => thn (he.run pins s σ H _ I q) fun u s1 ⟨v, H1, I1, r1, q1⟩ => h pins s1 σ H1 v u R I1 r1 q1⟩
theorem ItV.or {X : Cx} {tg : Expr} {r r' : V → Hp → (It → Hp → Prop) → Prop} (h : ItV X tg r) (h' : ItV X tg r') : ItV X tg (fun v H R => r v H R ∨ r' v H R) := fun pins s σ H v u R I rv q => by
  rcases q with q | q
  · exact h pins s σ H v u R I rv q
  · exact h' pins s σ H v u R I rv q
theorem iv_list {X : Cx} {tg : Expr} : ItV X tg (fun v H R => ∃ a, v = .ref a ∧ (∃ xs, SqL X.K H a xs) ∧ R (Itl X.K a) H) := fun pins s1 σ H1 v u R I1 r1 ⟨a, e, ⟨xs, hq⟩, q⟩ => by
  subst e
  cases r1
  obtain ⟨its, rv, p, hz⟩ := I1.list hq
  refine wpAny_pyIter_list p.isList ?_
  refine ⟨s1.heap.objs.size, [s1.heap.objs.size], _, _, H1, rfl, I1.kept (t' := s1.toks) fun b o e => Heap.get?_push_of_some _ e, turn_list a _, ⟨_, Heap.get?_push_size _ rfl, rfl, rfl⟩, fun b hb => ?_, q⟩
  have e : b = s1.heap.objs.size := by simpa using hb
  subst e
  exact I1.fpOk (Nat.le_refl _) (I1.hok.fresh (Nat.le_refl _))
theorem iv_tup {X : Cx} {tg : Expr} : ItV X tg (fun v H R => ∃ a, v = .ref a ∧ (∃ xs, SqT X.K H a xs) ∧ R (Itt X.K a) H) := fun pins s1 σ H1 v u R I1 r1 ⟨a, e, ⟨xs, hq⟩, q⟩ => by
  subst e
  cases r1
  obtain ⟨its, rv, p, hz⟩ := I1.tuple hq
  refine wpAny_pyIter_tuple (show s1.heap.IsTuple a its.toArray from p) ?_
  refine ⟨s1.heap.objs.size, [s1.heap.objs.size], _, _, H1, rfl, I1.kept (t' := s1.toks) fun b o e => Heap.get?_push_of_some _ e, turn_tuple a _, ⟨_, Heap.get?_push_size _ rfl, rfl, rfl⟩, fun b hb => ?_, q⟩
  have e : b = s1.heap.objs.size := by simpa using hb
  subst e
  exact I1.fpOk (Nat.le_refl _) (I1.hok.fresh (Nat.le_refl _))
theorem iv_str {X : Cx} {tg : Expr} : ItV X tg (fun v H R => ∃ x, v = .str x ∧ R (Its x) H) := fun pins s1 σ H1 v u R I1 r1 ⟨x, ex, q⟩ => by
  subst ex
  obtain ⟨t, rfl⟩ := r1
  cases ha : x.cps.all (· < 128)
  · exact wpAny_pyIter_wide ha (pi_one (tk := s1.toks) I1 _ (turn_str _ x t "str_iterator" (.inr rfl)) ⟨_, Heap.get?_push_size _ rfl, rfl, rfl⟩ q)
  · exact wpAny_pyIter_ascii ha (pi_one (tk := s1.toks) I1 _ (turn_str _ x t "str_ascii_iterator" (.inl rfl)) ⟨_, Heap.get?_push_size _ rfl, rfl, rfl⟩ q)
def chars (l : List Nat) : List Dt := l.map fun c => Dt.str [c]
theorem one_line : (1 : Nat) ≤ sizeLine := by decide
theorem yl_str {K : PySem.W.Frag} {F : Hp} {l : List Nat} : Yields K (Its ⟨l.toArray⟩) (chars l) F := fun i Z F1 H1 σ1 ρ1 I s => by
  refine ⟨fun d e => ?_, fun hl => ?_⟩
  · have hi : i < l.length := by
      have := (List.getElem?_eq_some_iff.mp e).1
      unfold chars at this
      simpa using this
    have ed : d = Dt.str [l[i]] := by
      unfold chars at e
      rw [List.getElem?_map, List.getElem?_eq_getElem hi] at e
      exact (Option.some.inj e).symm
    subst ed
    refine ⟨by show i < l.toArray.size; simpa using hi, fun x H2 hy => ?_⟩
    obtain ⟨rfl, c, hc, rfl⟩ := hy
    have ec : c = l[i] := by
      have hc' : l.toArray[i]? = some c := hc
      rw [List.getElem?_toArray, List.getElem?_eq_getElem hi] at hc'
      exact (Option.some.inj hc').symm
    subst ec
    exact ⟨F1, I, Same.refl F1, .str [l[i]] one_line⟩
  · show l.toArray.size ≤ i
    unfold chars at hl
    simpa using hl
/-- what a list, a tuple, a text yield -/
def items : Dt → Option (List Dt)
  | .tup ds => some ds
  | .lst ds => some ds
  | .scr ds => some ds
  | .str l => some (chars l)
  | _ => none
abbrev rIt (K : PySem.W.Frag) : V → Hp → (It → Hp → Prop) → Prop := fun v H R => (∃ a, v = .ref a ∧ (∃ xs, SqL K H a xs) ∧ R (Itl K a) H) ∨ (∃ a, v = .ref a ∧ (∃ xs, SqT K H a xs) ∧ R (Itt K a) H) ∨ ∃ x, v = .str x ∧ R (Its x) H
theorem iv_any {X : Cx} {tg : Expr} : ItV X tg (rIt X.K) := iv_list.or (iv_tup.or iv_str)

section
variable {X : Cx} {Z : Fm} {W : WX} {tg e a b : Expr} {me ma mb : DT} {pos p : Pos}
def diAny (a : DT) : DI' := fun ρ R U => a ρ (fun x ρ1 => match items x with
  | some ds => R ds ρ1
  | none => False) U
theorem di_any (ha : DE X Z W e me) : DIt X Z W tg e (diAny me) := PI.imp (iv_any.pi ha) fun σ H Q ⟨F, ρ, R, U, I, hm, q, u⟩ => by
  refine ⟨F, ρ, _, U, I, hm, fun x ρ1 v F1 H1 I1 s1 r1 h1 => ?_, u⟩
  cases r1 with
  | tup h r => exact .inr (.inl ⟨_, rfl, ⟨_, sameT I1.fh h⟩, q _ ρ1 _ F1 H1 I1 s1 (yl_tup h r) h1⟩)
  | lst h r => exact .inl ⟨_, rfl, ⟨_, SqL.of (I1.fh _ _ h)⟩, q _ ρ1 _ F1 H1 I1 s1 (yl_list (SqL.of h) r) h1⟩
  | scr h r => exact .inl ⟨_, rfl, ⟨_, I1.fh.seq h⟩, q _ ρ1 _ F1 H1 I1 s1 (yl_list h r) h1⟩
  | str l h => exact .inr (.inr ⟨_, rfl, q _ ρ1 _ F1 H1 I1 s1 yl_str h1⟩)
  | _ => exact h1.elim
def diRng1 (a : DT) : DI' := fun ρ R U => a ρ (fun x ρ1 => match x with
  | .int j => -(2 ^ 62) ≤ j ∧ j < 2 ^ 62 ∧ R (rangeD 0 j.toNat) ρ1
  | _ => False) U
def diRng2 (a b : DT) : DI' := fun ρ R U => a ρ (fun x ρ1 => b ρ1 (fun y ρ2 => match x, y with
  | .int i, .int j => (-(2 ^ 62) ≤ i ∧ i < 2 ^ 62 ∧ -(2 ^ 62) ≤ j ∧ j < 2 ^ 62) ∧ R (rangeD i (j - i).toNat) ρ2
  | _, _ => False) U) U
theorem di_range1 (hm : X.mg "range" = none) (ha : DE X Z W a ma) (hg : Gl X "range" := by rfl) (hs : starEach [a] X.env = [(false, eval a X.env)] := by rfl) : DIt X Z W tg (.Call (.Name "range" p) [a] [] pos) (diRng1 ma) :=
  PI.imp (pi_range1 hg hm (pa_cons ha pa_nil hs) hs) fun σ H Q ⟨F, ρ, R, U, I, hm, q, u⟩ => by
    refine ⟨F, ρ, _, U, I, hm, fun x ρ1 v F1 H1 I1 s1 r1 h1 => ?_, u⟩
    cases r1 with
    | int j => exact ⟨j, rfl, h1.1, h1.2.1, q _ ρ1 _ F1 H1 I1 s1 yl_range h1.2.2⟩
    | _ => exact h1.elim
end
end DL

namespace DL
open PyProof.Rows hiding St
open PySem PySem.Spec L2

/-! ### comprehensions -/
abbrev WF : WX := fun _ _ _ _ => False
def wipeD (ρ : En) : List Nat → En
  | [] => ρ
  | v :: vs => (wipeD ρ vs).set v .no
/-- the slots vs as they were, where they held data -/
def back (ρ0 ρ : En) : List Nat → En
  | [] => ρ
  | v :: vs => (back ρ0 ρ vs).set v (match ρ0[v]? with
    | some (.dat d) => .dat d
    | _ => .no)
section
variable {K : PySem.W.Frag} {Z : Fm} {F H : Hp} {σ : St} {ρ ρ0 : En}
theorem DI.wipe (I : DI K Z F H σ ρ) : ∀ vs : List Nat, DI K Z F H (wipe σ vs) (wipeD ρ vs)
  | [] => I
  | v :: vs => (DI.wipe I vs).setNo v
theorem wipe_get {σ : St} {i : Nat} : ∀ {vs : List Nat}, i ∉ vs → (L2.wipe σ vs)[i]? = σ[i]?
  | [], _ => rfl
  | v :: vs, h => by
    show ((L2.wipe σ vs).set v none)[i]? = _
    rw [List.getElem?_set, if_neg (fun z => h (by rw [z]; exact List.mem_cons_self)), wipe_get fun z => h (List.mem_cons_of_mem _ z)]
theorem agr_wipe {σ σ' : St} {ts vs : List Nat} (a : Agr ts σ σ') (h : ∀ i ∈ ts, i ∈ vs) : L2.wipe σ' vs = L2.wipe σ vs := by
  apply List.ext_getElem?
  intro i
  have aux : ∀ (τ : St) (vs : List Nat), i ∈ vs → (L2.wipe τ vs)[i]? = if i < τ.length then some none else none := by
    intro τ vs
    induction vs with
    | nil => intro h; cases h
    | cons v vs ih =>
      intro h
      show ((L2.wipe τ vs).set v none)[i]? = _
      rw [List.getElem?_set]
      by_cases e : v = i
      · rw [if_pos e, L2.wipe_length, e]
      · rw [if_neg e]
        rcases List.mem_cons.mp h with z | z
        · exact absurd z.symm e
        · exact ih z
  by_cases hv : i ∈ vs
  · rw [aux σ' vs hv, aux σ vs hv, a.1]
  · rw [wipe_get hv, wipe_get hv]
    exact a.2 i fun z => hv (h i z)
/-- behind the block: the outer values of its names are there again -/
theorem DI.back {F0 H0 : Hp} (I0 : DI K Z F0 H0 σ ρ0) (s : Same F0 F) : ∀ (vs : List Nat), DI K Z F H (L2.wipe σ vs) ρ → (∀ v ∈ vs, ρ[v]? = some .no ∨ ρ[v]? = none) → DI K Z F H σ (back ρ0 ρ vs)
  | [], I, _ => I
  | v :: vs, I, hno => by
    -- the names but v
    have hl : (L2.wipe σ vs).length = σ.length := L2.wipe_length σ vs
    have I1 : DI K Z F H (L2.wipe σ vs) ρ := by
      refine { I with len := ?_, sl := fun i x e => ?_ }
      · rw [hl]
        have := I.len
        rw [L2.wipe_length] at this
        exact this
      · by_cases z : i = v
        · subst z
          rcases hno i List.mem_cons_self with y | y
          · rw [y] at e
            obtain rfl := Option.some.inj e
            have hi : i < ρ.length := (List.getElem?_eq_some_iff.mp y).1
            have : i < (L2.wipe σ vs).length := by
              rw [hl]
              have := I.len
              rw [L2.wipe_length] at this
              omega
            exact ⟨_, List.getElem?_eq_getElem this, trivial⟩
          · rw [y] at e
            cases e
        · obtain ⟨ov, e1, r⟩ := I.sl i x e
          have e1' : ((L2.wipe σ vs).set v none)[i]? = some ov := e1
          rw [List.getElem?_set, if_neg fun y => z y.symm] at e1'
          exact ⟨ov, e1', r⟩
    have I2 := DI.back I0 s vs I1 fun u hu => hno u (List.mem_cons_of_mem _ hu)
    show DI K Z F H σ ((DL.back ρ0 ρ vs).set v _)
    cases q : ρ0[v]? with
    | none => exact I2.forget v
    | some x =>
      cases x with
      | no => exact I2.forget v
      | exc q C d fs => exact I2.forget v
      | own b p o => exact I2.forget v
      | dat d =>
        obtain ⟨w, e1, r⟩ := I0.slot q
        have := I2.setDat v (r.mono s)
        rw [st_same e1] at this
        exact this
end

/-- the elements made, one by one -/
def compL (g : DG) (t : DB) (e : DT) (vs : List Nat) : List Dt → List Dt → En → (List Dt → En → Prop) → Prop
  | [], acc, ρ, R => R acc ρ
  | d :: ds, acc, ρ, R => g d ρ (fun ρ1 => t ρ1 (fun k ρ2 => if k = true then e ρ2 (fun x ρ3 => compL g t e vs ds (acc ++ [x]) (wipeD ρ3 vs) R) (fun _ _ => False) else compL g t e vs ds acc (wipeD ρ2 vs) R) (fun _ _ => False))
def dComp (vs : List Nat) (it : DI') (g : DG) (t : DB) (e : DT) : DO := fun ρ R U => it ρ (fun ds ρ1 => ds.length ≤ sizeLine ∧ compL g t e vs ds [] (wipeD ρ1 vs) (fun acc ρ2 => R (.lst acc) (back ρ1 ρ2 vs))) U
def dYes : DB := fun ρ R _ => R true ρ
theorem wipeD_no (ρ : En) : ∀ (vs : List Nat) (v : Nat), v ∈ vs → (wipeD ρ vs)[v]? = some .no ∨ (wipeD ρ vs)[v]? = none
  | u :: vs, v, h => by
    show ((wipeD ρ vs).set u .no)[v]? = some .no ∨ ((wipeD ρ vs).set u .no)[v]? = none
    rw [List.getElem?_set]
    by_cases e : u = v
    · rw [if_pos e]
      by_cases hl : v < (wipeD ρ vs).length
      · rw [if_pos (by rw [e]; exact hl)]
        exact .inl rfl
      · rw [if_neg (by rw [e]; exact hl)]
        exact .inr rfl
    · rw [if_neg e]
      rcases List.mem_cons.mp h with z | z
      · exact absurd z.symm e
      · exact wipeD_no ρ vs v z
section
variable {X : Cx} {Z : Fm} {W : WX} {elt tg iter : Expr} {ifs : List Expr} {scope : Scope} {own : List (Str × Nat)} {pos : Pos} {mi : DI'} {ts : List Nat} {g : DG} {tt : DB} {me : DT}
abbrev Blk (X : Cx) (s : Shared) (H : Hp) (scope : Scope) (C : Addr) (cl : List (Str × Addr)) (fp : List Addr) : Cx := X.blk s H scope (compEnvC scope cl C X.env) fp
def DTsI (X : Cx) (Z : Fm) (W : WX) (ifs : List Expr) (m : DB) : Prop := PTs X ifs (tT X.K Z W m)
theorem PTs.imp {X : Cx} {e : List Expr} {t t' : TT} (h : PTs X e t) (i : ∀ σ H Q, t' σ H Q → t σ H Q) : PTs X e t' := ⟨fun pins s σ H Q I q => h.run pins s σ H Q I (i σ H Q q)⟩
theorem ti_nil : DTsI X Z W [] dYes := PTs.imp pts_nil fun σ H Q ⟨F, ρ, R, U, I, hm, q, u⟩ => q true ρ F H I (Same.refl F) hm
theorem ti_one {c : Expr} (h : DTs X Z W c tt) : DTsI X Z W [c] tt := pts_one h
theorem PX.f {K : PySem.W.Frag} {Z : Fm} {F : Hp} {σ : St} : PX K Z WF F σ (fun _ _ => False) := fun _ _ _ _ _ _ _ _ h => h
/-- the reading of a block's pieces, whatever is pinned -/
def tGP (K : PySem.W.Frag) (Z : Fm) (ts : List Nat) (g : DG) : TG := fun v σ H Q => ∃ P, tG K { Z with P := P } ts g v σ H Q
def tTP (K : PySem.W.Frag) (Z : Fm) (m : DB) : TT := fun σ H Q => ∃ P, tT K { Z with P := P } WF m σ H Q
def tEP (K : PySem.W.Frag) (Z : Fm) (m : DT) : TE := fun σ H Q => ∃ P, tE K { Z with P := P } WF m σ H Q
theorem pg_P {X : Cx} {Z : Fm} {e : Expr} {ts : List Nat} {g : DG} (h : ∀ P : Hp, DGt X { Z with P := P } e ts g) : PG X e (tGP X.K Z ts g) := ⟨fun pins s σ H v u Q I r ⟨P, q⟩ => (h P).run pins s σ H v u Q I r q⟩
theorem pt_P {X : Cx} {Z : Fm} {e : List Expr} {m : DB} (h : ∀ P : Hp, DTsI X { Z with P := P } WF e m) : PTs X e (tTP X.K Z m) := ⟨fun pins s σ H Q I ⟨P, q⟩ => (h P).run pins s σ H Q I q⟩
theorem pe_P {X : Cx} {Z : Fm} {e : Expr} {m : DT} (h : ∀ P : Hp, DE X { Z with P := P } WF e m) : PE X e (tEP X.K Z m) := ⟨fun pins s σ H Q I ⟨P, q⟩ => (h P).run pins s σ H Q I q⟩
theorem comp_in {vs : List Nat} (hts : ∀ i ∈ ts, i ∈ vs) (σ : St) (H : Hp) (Q : VK) (h : tO X.K Z W (dComp vs mi g tt me) σ H Q) :
    tLc (tI X.K Z W mi) (tGP X.K Z ts g) (tTP X.K Z tt) (tEP X.K Z me) vs σ H Q := by
  obtain ⟨F, ρ, R, U, I, hm, q, u⟩ := h
  refine ⟨F, ρ, _, U, I, hm, fun ds ρ1 J F1 H1 I1 s1 y h1 => ?_, u⟩
  obtain ⟨hlen, h1⟩ := h1
  intro D nD
  -- the state between turns
  refine ⟨fun i m H2 => i + m = ds.length ∧ ∃ F2 ρ2 acc accv, DI X.K { Z with P := upd Z.P D (.lst accv) } F2 H2 (L2.wipe σ vs) ρ2 ∧ Same F1 F2 ∧ Reps X.K F2 accv acc ∧ acc.length ≤ i ∧ (∀ v ∈ vs, ρ2[v]? = some .no ∨ ρ2[v]? = none) ∧
      compL g tt me vs (ds.drop i) acc ρ2 (fun acc ρ2 => R (.lst acc) (DL.back ρ1 ρ2 vs)), ⟨ds.length, by omega, F1, wipeD ρ1 vs, [], [], ?_, Same.refl F1, .nil, Nat.zero_le _, fun v hv => wipeD_no ρ1 vs v hv, h1⟩, fun i m H2 hW => ?_⟩
  · have Iw := I1.wipe vs
    exact (Iw.freshO (ho := .lst []) nD).pinned (Iw.newAt nD (.lst .nil)) upd_same
  · obtain ⟨em, F2, ρ2, acc, accv, I2, s2, ra, hal, hno, h2⟩ := hW
    obtain ⟨yg, ys⟩ := y i _ F2 H2 _ ρ2 I2 s2
    by_cases hl : i < ds.length
    · refine .inr ?_
      obtain ⟨go, yl⟩ := yg ds[i] (List.getElem?_eq_getElem hl)
      refine ⟨go, fun H' => ∃ F3 ρ3 acc' accv', DI X.K { Z with P := upd Z.P D (.lst accv') } F3 H' (L2.wipe σ vs) ρ3 ∧ Same F1 F3 ∧ Reps X.K F3 accv' acc' ∧ acc'.length ≤ i + 1 ∧ (∀ v ∈ vs, ρ3[v]? = some .no ∨ ρ3[v]? = none) ∧
        compL g tt me vs (ds.drop (i + 1)) acc' ρ3 (fun acc ρ2 => R (.lst acc) (DL.back ρ1 ρ2 vs)), fun H' ⟨F3, ρ3, acc', accv', I3, s3, r3, l3, n3, h3⟩ => ⟨m - 1, by omega, by omega, F3, ρ3, acc', accv', I3, s3, r3, l3, n3, h3⟩, fun x H' hy => ?_⟩
      obtain ⟨F3, I3, s3, rx⟩ := yl x H' hy
      rw [List.drop_eq_getElem_cons hl] at h2
      refine ⟨_, F3, ρ2, ds[i], _, I3, rx, h2, fun ρ4 σ4 F4 H4 I4 s4 a4 h4 => ⟨agr_wipe_wipe a4 hts, ?_⟩⟩
      refine ⟨_, F4, ρ4, _, _, I4, h4, fun k ρ5 F5 H5 I5 s5 h5 => ?_, PX.f⟩
      have s15 : Same F1 F5 := s2.trans (s3.trans (s4.trans s5))
      have s25 : Same F2 F5 := s3.trans (s4.trans s5)
      cases k with
      | false =>
        refine iteF ⟨F5, wipeD ρ5 vs, acc, accv, ?_, s15, ra.mono s25, Nat.le_succ_of_le hal, fun v hv => wipeD_no ρ5 vs v hv, h5⟩
        have := I5.wipe vs
        rw [agr_wipe_wipe a4 hts] at this
        exact this
      | true =>
        refine iteT ⟨_, F5, ρ5, _, _, I5, h5, fun z ρ6 v6 F6 H6 I6 s6 r6 h6 => ⟨accv, (I6.pin D _ upd_same).1, ?_, F6, wipeD ρ6 vs, acc ++ [z], accv ++ [v6], ?_, s15.trans s6, (ra.mono (s25.trans s6)).app (.cons r6 .nil), ?_, fun v hv => wipeD_no ρ6 vs v hv, h6⟩, PX.f⟩
        · rw [ra.length]
          omega
        · have := (I6.rewrite (ho' := .lst (accv ++ [v6]))).wipe vs
          rw [agr_wipe_wipe a4 hts] at this
          exact this
        · rw [List.length_append, List.length_singleton]
          omega
    · refine .inl ⟨ys (by omega), ?_⟩
      rw [List.drop_eq_nil_of_le (by omega)] at h2
      have pD := I2.pin D _ upd_same
      have nP : Z.P D = none := (I1.freeP nD)
      have Iz : DI X.K Z F2 H2 (L2.wipe σ vs) ρ2 := I2.unpin (P' := upd Z.P D (.lst accv)) fun a uo e => by
        rw [upd_ne (fun z => by rw [z, nP] at e; cases e)]
        exact e
      have Ib := DI.back I1 s2 vs Iz hno
      refine q _ _ D F2 H2 Ib (s1.trans s2) ⟨pD.2.1, ⟨_, pD.1, .lst ra⟩, pD.2.2.2, pD.2.2.1, nP, fun j b p o e z => ?_⟩ h2
      subst z
      -- own slots of the result are own slots of ρ2
      have : ∀ (vs : List Nat), (DL.back ρ1 ρ2 vs)[j]? = some (.own b p o) → ρ2[j]? = some (.own b p o) := by
        intro vs
        induction vs with
        | nil => exact fun e => e
        | cons v vs ih =>
          intro e
          have e' : ((DL.back ρ1 ρ2 vs).set v _)[j]? = some (.own b p o) := e
          rcases get_set e' with ⟨_, _, y⟩ | ⟨_, y⟩
          · split at y <;> cases y
          · exact ih y
      have e2 := I2.ownP j b p o (this vs e)
      have e3 : upd Z.P p (.lst accv) p = none := e2
      rw [upd_same] at e3
      cases e3
where
  agr_wipe_wipe {σ σ' : St} {ts vs : List Nat} (a : Agr ts (L2.wipe σ vs) σ') (h : ∀ i ∈ ts, i ∈ vs) : L2.wipe σ' vs = L2.wipe σ vs := by
    rw [agr_wipe a h]
    apply List.ext_getElem?
    intro i
    by_cases hv : i ∈ vs
    · have aux : ∀ (τ : St) (vs : List Nat), i ∈ vs → (L2.wipe τ vs)[i]? = if i < τ.length then some none else none := by
        intro τ vs
        induction vs with
        | nil => intro h; cases h
        | cons v vs ih =>
          intro h
          show ((L2.wipe τ vs).set v none)[i]? = _
          rw [List.getElem?_set]
          by_cases e : v = i
          · rw [if_pos e, L2.wipe_length, e]
          · rw [if_neg e]
            rcases List.mem_cons.mp h with z | z
            · exact absurd z.symm e
            · exact ih z
      rw [aux _ vs hv, aux _ vs hv, L2.wipe_length]
    · rw [wipe_get hv]
theorem d_comp (hc : X.calm = true) (hN : X.N.Nodup) (hi : DIt X Z W tg iter mi) (ok : BlkOk X.N X.env.scope scope own) (hts : ∀ i ∈ ts, i ∈ own.map (·.2))
    (hg : ∀ (s : Shared) (H : Hp) (C : Addr) (cl : List (Str × Addr)) (fp : List Addr) (P : Hp), DGt (Blk X s H scope C cl fp) { Z with P := P } tg ts g) (ht : ∀ (s : Shared) (H : Hp) (C : Addr) (cl : List (Str × Addr)) (fp : List Addr) (P : Hp), DTsI (Blk X s H scope C cl fp) { Z with P := P } WF ifs tt)
    (he : ∀ (s : Shared) (H : Hp) (C : Addr) (cl : List (Str × Addr)) (fp : List Addr) (P : Hp), DE (Blk X s H scope C cl fp) { Z with P := P } WF elt me) (hs : ∀ x, foldedSetIterable iter X.env x = pure x := by intro _; rfl) :
    DOk X Z W (.ListComp elt [⟨tg, iter, ifs, 0⟩] scope pos) (dComp (own.map (·.2)) mi g tt me) :=
  PE.imp (pe_lc hc hN hi ok (fun s H C cl fp => pg_P (Z := Z) (hg s H C cl fp)) (fun s H C cl fp => pt_P (Z := Z) (ht s H C cl fp)) (fun s H C cl fp => pe_P (Z := Z) (he s H C cl fp)) hs) (comp_in hts)
end
end DL

namespace DL
open PyProof.Rows hiding St
open PySem PySem.Spec L2

/-! ### a def's promise over data: its arguments, what it hands back with the lent objects as they then are, what it raises -/
abbrev SpD := List Sl → (Rv → List MO → Prop) → (Xn → List MO → Prop) → Prop
def RepA (K : PySem.W.Frag) (F H : Hp) (v : V) : Sl → Prop
  | .no => True
  | .dat d => Rep K F v d
  | .own _ p o => v = .ref p ∧ F p = none ∧ ∃ ho, H p = some ho ∧ RepO K F ho o
  | .exc q C d fs => v = .ref q.1 ∧ ExAt q C d ∧ XdAt K F d fs
def owns : List Sl → List Addr
  | [] => []
  | .own _ p _ :: r => p :: owns r
  | _ :: r => owns r
structure Aft (T : List (Addr × Str)) (K : PySem.W.Frag) (F H : Hp) (B : List Addr) (F' H' : Hp) : Prop where
  f0 : Same F F'
  fh : Same F' H'
  fnew : ∀ a o, F' a = some o → (∃ o', F a = some o') ∨ H a = none
  keep : ∀ a o, H a = some o → a ∈ B ∨ (∃ t ∈ T, t.1 = a) ∨ H' a = some o
  tab : LamX.Tabs T H'
  tabF : ∀ t ∈ T, F' t.1 = none
def Outs (K : PySem.W.Frag) (F' H' : Hp) : List Addr → List MO → Prop := Paired fun p o => F' p = none ∧ ∃ ho, H' p = some ho ∧ RepO K F' ho o
def RvOut (K : PySem.W.Frag) (H F' H' : Hp) (v : V) : Rv → Prop
  | .d d => Rep K F' v d
  | .o o => ∃ p, v = .ref p ∧ F' p = none ∧ H p = none ∧ ∃ ho, H' p = some ho ∧ RepO K F' ho o
def spOf (T : List (Addr × Str)) (K : PySem.W.Frag) (s : SpD) : Sp := fun vs H Q E => ∃ (F : Hp) (args : List Sl), Same F H ∧ Paired (RepA K F H) vs args ∧ (owns args).Nodup ∧ (LamX.Tabs T H ∧ ∀ t ∈ T, F t.1 = none) ∧
  s args (fun rv outs => ∀ v F' H', Aft T K F H (owns args) F' H' → Outs K F' H' (owns args) outs → RvOut K H F' H' v rv → Q v H')
    (fun x outs => ∀ d F' H', Aft T K F H (owns args) F' H' → Outs K F' H' (owns args) outs → XnAt K F' d x → E (.ref x.C) d H')

/-! ### a def that keeps its promise where no repr is under way -/
structure FnG (P : Program) (w : World) (K : PySem.W.Frag) (mg : Str → Option Value) (base : Heap) (k : Nat) (f : Addr) (fd : FuncData) (ps : List Str) (sp : Sp) : Prop where
  len : ∀ vs H Q E, sp vs H Q E → vs.length = ps.length
  run : ∀ (A : Around) (outer : List Env) (s : Shared) (H : Hp) (args : Args) (us : List Value) (vs : List V) (Q : VK) (E : XK), Room k A → A.guards = some [] → Env0 P w K mg base A outer s H → BindsTo s fd args (ps.zip us) → Vals vs us → sp vs H Q E →
    codeAny (model P w) A (.call (.ref f) args) (CR (L2.CX P w) outer P w H s Q E) s
theorem FnG.mono {P : Program} {w : World} {K : PySem.W.Frag} {mg : Str → Option Value} {base : Heap} {j k : Nat} {f : Addr} {fd : FuncData} {ps : List Str} {sp : Sp} (F : FnG P w K mg base j f fd ps sp) (h : j ≤ k) :
    FnG P w K mg base k f fd ps sp := ⟨F.len, fun A outer s H args us vs Q E hr => F.run A outer s H args us vs Q E (hr.mono h)⟩
theorem fn_ofG {P : Program} {w : World} {K : PySem.W.Frag} {mg : Str → Option Value} {base : Heap} {k : Nat} {f : Addr} {name qual : Str} {params : Arguments} {body : List Stmt} {scope : Scope} {dV kV doc pm cdv ct oc : Value} {an od : Option Addr}
    {osl : Array (Option Value)} {N ps : List Str} {sp : Sp} (lk : K.lookup f = some ⟨oc, od, .func (PySem.W.fnOf name qual params body scope dV kV doc pm an cdv ct), osl⟩) (hcd : PySem.W.codeIn K cdv qual = true) (S : FnScope N ps scope)
    (len : ∀ vs H Q E, sp vs H Q E → vs.length = ps.length)
    (hbody : ∀ (A : Around) (outer : List Env) (s : Shared) (H : Hp) (vs : List V) (Q : VK) (E : XK), Room k (A.deeper (envOfC qual scope s.heap.objs.size f cdv)) → (A.deeper (envOfC qual scope s.heap.objs.size f cdv)).guards = some [] → sp vs H Q E →
      ∃ t, PSs (cxOf (L2.CX P w) P w K mg base N qual scope f cdv A outer s H E) body t ∧ t { nx := fun _ H' => Q .non H', rt := Q } (L2.start N vs) H) :
    FnG P w K mg base (k + 1) f (PySem.W.fnOf name qual params body scope dV kV doc pm an cdv ct) ps sp := by
  refine ⟨len, fun A outer s H args us vs Q E hr hgd e0 hb r hsp => ?_⟩
  have hl := len _ _ _ _ hsp
  have KX : K.In s.heap := e0.mod.kin.keeps fun b o e => (e0.bs b o e).1
  have lim : s.heap.NoLimit := e0.mod.nolimit.keeps fun b o e => (e0.bs b o e).1
  have hkind : ∀ y ∈ ps.zip us, scope.names.lookup y.1 = some .local ∨ (scope.names.lookup y.1 = some .cell ∧ ((cellsFrom (s.heap.objs.size + 1) scope.names []).lookup y.1).isSome = true) := fun ⟨n, v⟩ hy => by
    rcases S.par n (List.of_mem_zip hy).1 with q | q
    · exact .inl q
    · exact .inr ⟨q, PySem.W.cellsFrom_some _ _ _ (.inl q)⟩
  refine codeAny_call_function hr.depth (KX _ _ lk) rfl S.co S.gen rfl (PySem.W.codeRec_of KX hcd) (hb _ _ _ _ ?_)
  refine wpAny_newFunctionEnv_cells S.kind hkind fun env he s1 x => ?_
  subst he
  refine ⟨lim.keeps x.toInCall.keep, codeAny_func ?_⟩
  obtain ⟨t, ht, hq⟩ := hbody A outer s H vs Q E (hr.deeper _) hgd hsp
  have I : Inv (cxOf (L2.CX P w) P w K mg base N qual scope f cdv A outer s H E) [] (L2.start N vs) H s1 := inv_start S hr.hd e0 hl r x
  refine wpAny_mono (ht.run [] s1 (L2.start N vs) H _ I hq) (fun fl s' hs => ?_) fun e s' hs => hs
  have fin : ∀ {σ' : St} {H' : Hp} {v : V} {u : Value}, Inv (cxOf (L2.CX P w) P w K mg base N qual scope f cdv A outer s H E) [] σ' H' s' → RelV v u → Q v H' → CE outer P w H s Q u s' :=
    fun {σ' H' v u} J rv q => ⟨v, H', J.os, J.bare, J.base, J.hok, rv, q⟩
  cases fl with
  | ret u =>
    obtain ⟨v, σ', H', J, rv, q⟩ := hs
    exact fin J rv q
  | next =>
    obtain ⟨σ', H', J, q⟩ := hs
    exact fin (v := V.non) (u := Value.none) J rfl q
  | brk =>
    obtain ⟨_, _, _, q⟩ := hs
    exact False.elim q
  | cont =>
    obtain ⟨_, _, _, q⟩ := hs
    exact False.elim q
section
variable {X : Cx} {k : Nat} {f C : Addr} {fd : FuncData} {ps : List Str} {sp : Sp} {E : XK}
theorem run_G {pins : List (Addr × Obj)} {σ : St} {H : Hp} {s : Shared} {Q : VK} {args : Args} {us : List Value} {vs : List V} (F : FnG X.prog X.w X.K X.mg X.base k f fd ps sp) (hr : Room k X.A) (hgd : X.A.guards = some []) (hb : ∀ s : Shared, X.K.In s.heap → us.length = ps.length → BindsTo s fd args (ps.zip us)) (hx : PassesAt (L2.CX X.prog X.w) X σ E)
    (I : Inv X pins σ H s) (r : Vals vs us) (h : sp vs H Q E) : wpAny (model X.prog X.w) X.A (PySem.call (.ref f) args.pos args.kw) (EP X pins σ Q) X.xe s := by
  have hl : us.length = ps.length := by rw [← r.length]; exact F.len _ _ _ _ h
  refine wpAny_call (codeAny_mono (F.run X.A X.stack s H args us vs Q E hr hgd I.env0 (hb s I.kIn hl) r h) fun r s' hq => ?_)
  cases r with
  | error e => exact hx pins H s e s' I hq
  | ok fl =>
    cases fl with
    | ret u => exact I.after hq
    | next => exact False.elim hq
    | brk => exact False.elim hq
    | cont => exact False.elim hq
theorem run_makeG {pins : List (Addr × Obj)} {σ : St} {H : Hp} {s : Shared} {Q : VK} {pos : List Value} {kw : List (Str × Value)} {us : List Value} {vs : List V} (M : Mk X.K C f) (F : FnG X.prog X.w X.K X.mg X.base k f fd ps sp) (hr : Room (k + 1) X.A) (hgd : X.A.guards = some [])
    (hb : ∀ (s : Shared) (x : Value), X.K.In s.heap → (x :: us).length = ps.length → BindsTo s fd ⟨x :: pos, kw⟩ (ps.zip (x :: us)))
    (hx : ∀ H' s', Inv X pins σ H' s' → PassesAt (L2.CX X.prog X.w) X σ E) (I : Inv X pins σ H s) (r : Vals vs us)
    (h : ∀ x dx, H x = none → H dx = none → dx ≠ x → sp (.ref x :: vs) (upd (upd H dx (.own x)) x (.ins C dx [])) (fun v H2 => v = .non ∧ Q (.ref x) H2) E) :
    wpAny (model X.prog X.w) X.A (PySem.call (.ref C) pos kw) (EP X pins σ Q) X.xe s := by
  have hq := h (s.heap.objs.size + 1) s.heap.objs.size (I.hok.fresh (Nat.le_succ _)) (I.hok.fresh (Nat.le_refl _)) (Nat.ne_of_lt (Nat.lt_succ_self _))
  have I2 := Inv.made (C := C) I
  have r2 : Vals (V.ref (s.heap.objs.size + 1) :: vs) (Value.ref (s.heap.objs.size + 1) :: us) := .cons rfl r
  have hl : (Value.ref (s.heap.objs.size + 1) :: us).length = ps.length := by
    rw [← r2.length]
    exact F.len _ _ _ _ hq
  refine wpAny_call (make_map (f := f) I.kIn M.makes M.init (beq_iff_eq.mp M.fn) (codeAny_mono (F.run _ X.stack _ _ ⟨Value.ref (s.heap.objs.size + 1) :: pos, kw⟩ (Value.ref (s.heap.objs.size + 1) :: us) _ _ E (hr.make C pos kw) hgd
    (I2.env0.make C pos kw) (hb _ (Value.ref (s.heap.objs.size + 1)) I2.kIn hl) r2 hq) fun r s' hq' => ?_))
  cases r with
  | error e => exact hx _ _ I2 pins _ _ e s' I2 hq'
  | ok fl =>
    cases fl with
    | ret u =>
      obtain ⟨v, H', I3, rv, ev, q3⟩ := I2.after hq'
      subst ev
      exact ⟨rv, ⟨V.ref (s.heap.objs.size + 1), H', I3, rfl, q3⟩⟩
    | next => exact False.elim hq'
    | brk => exact False.elim hq'
    | cont => exact False.elim hq'
end

/-! ### the caller -/
def lent : List Ag → List Nat
  | [] => []
  | .b i :: r => i :: lent r
  | .d _ :: r => lent r
def argsOf (ρ : En) : List Ag → Option (List Sl)
  | [] => some []
  | .d x :: r => (match argsOf ρ r with
    | some l => some (.dat x :: l)
    | none => none)
  | .b i :: r => (match ρ[i]? with
    | some (.own b p o) => (match (lent r).contains i with
      | true => none
      | false => (match argsOf ρ r with
        | some l => some (.own b p o :: l)
        | none => none))
    | _ => none)
def putMO (i : Nat) (o : MO) (ρ : En) : En := match ρ[i]? with
  | some (.own b p _) => ρ.set i (.own b p o)
  | _ => ρ
def putOuts : List Ag → List MO → En → En
  | .b i :: r, o :: os, ρ => putOuts r os (putMO i o ρ)
  | .d _ :: r, os, ρ => putOuts r os ρ
  | _, _, ρ => ρ
def Rv.toD : Rv → Option Dt
  | .d x => some x
  | .o x => x.toD
def dCall (s : SpD) (a : DA) : DT := fun ρ R U => a ρ (fun as ρ1 => match argsOf ρ1 as with
  | some args => s args (fun rv outs => match rv.toD with
    | some d => R d (putOuts as outs ρ1)
    | none => False) (fun x outs => U x (putOuts as outs ρ1))
  | none => False) U
def dCallO (s : SpD) (a : DA) : DO := fun ρ R U => a ρ (fun as ρ1 => match argsOf ρ1 as with
  | some args => s args (fun rv outs => match rv with
    | .o o => R o (putOuts as outs ρ1)
    | .d _ => False) (fun x outs => U x (putOuts as outs ρ1))
  | none => False) U

section
variable {K : PySem.W.Frag} {Z : Fm} {F H F' H' : Hp} {σ : St} {ρ : En}
theorem argsOf_congr {ρ ρ' : En} : ∀ {as : List Ag}, (∀ j ∈ lent as, ρ[j]? = ρ'[j]?) → argsOf ρ as = argsOf ρ' as
  | [], _ => rfl
  | .d x :: r, h => by
    show (match argsOf ρ r with | some l => _ | none => _) = _
    rw [argsOf_congr (as := r) h]
    rfl
  | .b i :: r, h => by
    show (match ρ[i]? with | some (.own b p o) => _ | _ => none) = _
    rw [h i List.mem_cons_self, argsOf_congr (as := r) fun j hj => h j (List.mem_cons_of_mem _ hj)]
    rfl
/-- the arguments as data, from the arguments' evaluation -/
theorem args_rep (I : DI K Z F H σ ρ) : ∀ {as : List Ag} {vs : List V} {args : List Sl}, Paired (fun v a => AgRep K F σ v a) vs as → argsOf ρ as = some args → Paired (RepA K F H) vs args
  | [], _, _, .nil, e => by
    obtain rfl := Option.some.inj e
    exact .nil
  | .d x :: r, _, _, .cons h t, e => by
    have e' : (match argsOf ρ r with | some l => some (Sl.dat x :: l) | none => none) = some _ := e
    split at e'
    · rename_i l el
      obtain rfl := Option.some.inj e'
      exact .cons h (args_rep I t el)
    · cases e'
  | .b i :: r, _, _, .cons h t, e => by
    unfold argsOf at e
    split at e
    · rename_i b p o eo
      split at e
      · cases e
      · split at e
        · rename_i l el
          obtain rfl := Option.some.inj e
          obtain ⟨e1, fp, ho, hh, r'⟩ := I.slotO eo
          have h' : σ[i]? = some (some _) := h
          rw [h'] at e1
          have := Option.some.inj (Option.some.inj e1)
          subst this
          exact .cons ⟨rfl, fp, ho, hh, r'⟩ (args_rep I t el)
        · cases e
    · cases e
theorem mem_owns_of {as : List Ag} : ∀ {args : List Sl}, argsOf ρ as = some args → ∀ p ∈ owns args, ∃ i ∈ lent as, ∃ b o, ρ[i]? = some (.own b p o) := by
  induction as with
  | nil =>
    intro args e p hp
    obtain rfl := Option.some.inj e
    cases hp
  | cons a r ih =>
    intro args e p hp
    cases a with
    | d x =>
      have e' : (match argsOf ρ r with | some l => some (Sl.dat x :: l) | none => none) = some _ := e
      split at e'
      · rename_i l el
        obtain rfl := Option.some.inj e'
        exact ih el p hp
      · cases e'
    | b i =>
      unfold argsOf at e
      split at e
      · rename_i b q o eo
        split at e
        · cases e
        · split at e
          · rename_i l el
            obtain rfl := Option.some.inj e
            rcases List.mem_cons.mp hp with rfl | hp
            · exact ⟨i, List.mem_cons_self, b, o, eo⟩
            · obtain ⟨j, hj, c, o', e2⟩ := ih el p hp
              exact ⟨j, List.mem_cons_of_mem _ hj, c, o', e2⟩
          · cases e
      · cases e
theorem owns_nodup (I : DI K Z F H σ ρ) {as : List Ag} : ∀ {args : List Sl}, argsOf ρ as = some args → (owns args).Nodup := by
  induction as with
  | nil =>
    intro args e
    obtain rfl := Option.some.inj e
    exact List.nodup_nil
  | cons a r ih =>
    intro args e
    cases a with
    | d x =>
      have e' : (match argsOf ρ r with | some l => some (Sl.dat x :: l) | none => none) = some _ := e
      split at e'
      · rename_i l el
        obtain rfl := Option.some.inj e'
        have := ih el
        exact this
      · cases e'
    | b i =>
      unfold argsOf at e
      split at e
      · rename_i b q o eo
        split at e
        · cases e
        · rename_i nc
          split at e
          · rename_i l el
            obtain rfl := Option.some.inj e
            refine List.nodup_cons.mpr ⟨fun hm => ?_, ih el⟩
            obtain ⟨j, hj, c, o', e2⟩ := mem_owns_of el q hm
            by_cases z : i = j
            · subst z
              have : (lent r).contains i = true := List.contains_iff_mem.mpr hj
              rw [this] at nc
              cases nc
            · exact I.dis i j _ _ _ _ _ _ eo e2 z rfl
          · cases e
      · cases e
theorem putMO_get {i j : Nat} {o : MO} {s : Sl} (h : (putMO i o ρ)[j]? = some s) : (j = i ∧ ∃ b p o0, ρ[i]? = some (.own b p o0) ∧ s = .own b p o) ∨ ρ[j]? = some s := by
  unfold putMO at h
  split at h
  · rename_i b p o0 e
    rcases get_set h with ⟨rfl, _, rfl⟩ | ⟨_, h⟩
    · exact .inl ⟨rfl, b, p, o0, e, rfl⟩
    · exact .inr h
  · exact .inr h
theorem putMO_len {i : Nat} {o : MO} : (putMO i o ρ).length = ρ.length := by
  unfold putMO
  split
  · exact List.length_set
  · rfl
/-- behind the call, with the lent objects not yet written in -/
structure DJ (K : PySem.W.Frag) (Z : Fm) (F H : Hp) (σ : St) (ρ : En) (L : List Nat) : Prop where
  f0 : Same Z.F0 F
  fh : Same F H
  fnew : ∀ a o, F a = some o → (∃ o', Z.F0 a = some o') ∨ Z.H0 a = none
  keep : ∀ a o, Z.H0 a = some o → a ∈ Z.B ∨ H a = some o
  bor : ∀ b ∈ Z.B, ∃ o, H b = some o
  len : σ.length = ρ.length
  sl : ∀ (i : Nat) s, ρ[i]? = some s → ∃ ov, σ[i]? = some ov ∧ (RepS K F H ov s ∨ (i ∈ L ∧ ∃ b p o, s = .own b p o ∧ ov = some (.ref p)))
  ownB : ∀ (i : Nat) b p o, ρ[i]? = some (.own b p o) → (b = true ∧ p ∈ Z.B) ∨ (b = false ∧ p ∉ Z.B ∧ Z.H0 p = none)
  dis : ∀ (i j : Nat) b c p o q o', ρ[i]? = some (.own b p o) → ρ[j]? = some (.own c q o') → i ≠ j → p ≠ q
  pin : ∀ a u, Z.P a = some u → H a = some u ∧ F a = none ∧ a ∉ Z.B ∧ Z.H0 a = none
  ownP : ∀ (i : Nat) b p o, ρ[i]? = some (.own b p o) → Z.P p = none
  tab : LamX.Tabs Z.T H
  tabB : ∀ t ∈ Z.T, t.1 ∈ Z.B
  tabF : ∀ t ∈ Z.T, F t.1 = none
theorem DJ.put (J : DJ K Z F H σ ρ L) {i : Nat} {L' : List Nat} {b : Bool} {p : Addr} {o0 o : MO} (hL : ∀ j ∈ L, j = i ∨ j ∈ L') (e : ρ[i]? = some (.own b p o0)) (hf : F p = none) (hh : ∃ ho, H p = some ho ∧ RepO K F ho o) : DJ K Z F H σ (putMO i o ρ) L' where
  f0 := J.f0
  fh := J.fh
  fnew := J.fnew
  keep := J.keep
  bor := J.bor
  len := by rw [putMO_len]; exact J.len
  sl := fun j s h => by
    rcases putMO_get h with ⟨rfl, b', p', o', e', rfl⟩ | h'
    · rw [e] at e'
      injection e' with e'
      injection e' with e1 e2 e3
      subst e1
      subst e2
      obtain ⟨ov, e4, r⟩ := J.sl j _ e
      refine ⟨ov, e4, .inl ?_⟩
      have : ov = some (.ref p) := by
        rcases r with r | ⟨_, b2, p2, o2, e5, e6⟩
        · exact r.1
        · injection e5 with e7 e8 e9
          rw [e8]
          exact e6
      exact ⟨this, hf, hh⟩
    · obtain ⟨ov, e4, r⟩ := J.sl j _ h'
      refine ⟨ov, e4, ?_⟩
      rcases r with r | ⟨hj, b2, p2, o2, e5, e6⟩
      · exact .inl r
      · rcases hL j hj with z | z
        · subst z
          -- the slot is i: it was written
          rw [h'] at e
          obtain rfl := Option.some.inj e
          have hlt : j < ρ.length := (List.getElem?_eq_some_iff.mp h').1
          unfold putMO at h
          rw [h'] at h
          have h : (ρ.set j (.own b p o))[j]? = some (.own b p o0) := h
          rw [List.getElem?_set, if_pos rfl, if_pos hlt] at h
          injection h with h
          injection h with h1 h2 h3
          subst h3
          injection e5 with e7 e8 e9
          exact .inl ⟨by rw [e8]; exact e6, hf, hh⟩
        · exact .inr ⟨z, b2, p2, o2, e5, e6⟩
  ownB := fun j c q oo z => by
    rcases putMO_get z with ⟨rfl, b', p', o', e', z⟩ | z
    · injection z with z1 z2 z3
      subst z1
      subst z2
      exact J.ownB j _ _ _ e'
    · exact J.ownB j c q oo z
  dis := fun j k b1 b2 q oo q' oo' z z' n => by
    rcases putMO_get z with ⟨ej, b', p', o', e', y⟩ | x
    · injection y with z1 z2 z3
      subst z2
      rcases putMO_get z' with ⟨y', _⟩ | x'
      · exact absurd (ej.trans y'.symm) n
      · exact J.dis i k _ _ _ _ _ _ e' x' fun w => n (ej.trans w)
    · rcases putMO_get z' with ⟨ek, b'', p'', o'', e'', y'⟩ | x'
      · injection y' with z1 z2 z3
        subst z2
        exact J.dis j i _ _ _ _ _ _ x e'' fun w => n (w.trans ek.symm)
      · exact J.dis j k _ _ _ _ _ _ x x' n
  pin := J.pin
  ownP := fun j c q oo z => by
    rcases putMO_get z with ⟨rfl, b', p', o', e', z⟩ | z
    · injection z with z1 z2 z3
      subst z2
      exact J.ownP j _ _ _ e'
    · exact J.ownP j c q oo z
  tab := J.tab
  tabB := J.tabB
  tabF := J.tabF
theorem DJ.all {ρ : En} : ∀ {as : List Ag} {args : List Sl} {outs : List MO} {ρ : En}, DJ K Z F H σ ρ (lent as) → argsOf ρ as = some args → Outs K F H (owns args) outs → DI K Z F H σ (putOuts as outs ρ)
  | [], args, outs, ρ, J, e, r => by
    have : putOuts [] outs ρ = ρ := by cases outs <;> rfl
    rw [this]
    exact { f0 := J.f0, fh := J.fh, fnew := J.fnew, keep := J.keep, bor := J.bor, len := J.len, ownB := J.ownB, dis := J.dis, pin := J.pin, ownP := J.ownP, tab := J.tab, tabB := J.tabB, tabF := J.tabF,
            sl := fun i s h => by
              obtain ⟨ov, e1, r⟩ := J.sl i s h
              rcases r with r | ⟨z, _⟩
              · exact ⟨ov, e1, r⟩
              · cases z }
  | .d x :: as, args, outs, ρ, J, e, r => by
    have e' : (match argsOf ρ as with | some l => some (Sl.dat x :: l) | none => none) = some _ := e
    split at e'
    · rename_i l el
      obtain rfl := Option.some.inj e'
      exact DJ.all (ρ := ρ) (as := as) J el r
    · cases e'
  | .b i :: as, args, outs, ρ, J, e, r => by
    unfold argsOf at e
    split at e
    · rename_i b p o eo
      split at e
      · cases e
      · rename_i nc
        split at e
        · rename_i l el
          obtain rfl := Option.some.inj e
          have r' : Outs K F H (p :: owns l) outs := r
          cases r' with
          | cons h t =>
            rename_i o1 outs
            have J2 := J.put (i := i) (L' := lent as) (fun j hj => List.mem_cons.mp hj) eo h.1 h.2
            have nm : i ∉ lent as := fun hm => by
              rw [List.contains_iff_mem.mpr hm] at nc
              cases nc
            have ec : argsOf (putMO i o1 ρ) as = some l := by
              rw [← el]
              refine argsOf_congr fun j hj => ?_
              unfold putMO
              rw [eo]
              show (ρ.set i _)[j]? = ρ[j]?
              rw [List.getElem?_set, if_neg fun z => nm (by rw [z]; exact hj)]
            exact DJ.all (ρ := ρ) (as := as) J2 ec t
        · cases e
    · cases e
theorem DI.after (I : DI K Z F H σ ρ) {as : List Ag} {args : List Sl} {outs : List MO} (e : argsOf ρ as = some args) (A : Aft Z.T K F H (owns args) F' H') (O : Outs K F' H' (owns args) outs) : DI K Z F' H' σ (putOuts as outs ρ) := by
  have there : ∀ {B : List Addr} {outs : List MO}, Outs K F' H' B outs → ∀ p ∈ B, ∃ o, H' p = some o := fun {B outs} o => by
    induction o with
    | nil => intro p hp; cases hp
    | cons h t ih =>
      intro p hp
      rcases List.mem_cons.mp hp with rfl | hp
      · obtain ⟨_, ho, hh, _⟩ := h
        exact ⟨ho, hh⟩
      · exact ih p hp
  refine DJ.all (ρ := ρ) ?_ e O
  exact { f0 := I.f0.trans A.f0, fh := A.fh
          fnew := fun a o h => by
            rcases A.fnew a o h with ⟨o', h'⟩ | h'
            · exact I.fnew a o' h'
            · exact .inr (I.free0 h')
          keep := fun a o h => by
            rcases I.keep a o h with z | z
            · exact .inl z
            · rcases A.keep a o z with y | y
              · obtain ⟨i, _, b, o', e2⟩ := mem_owns_of e a y
                rcases I.ownB i b a o' e2 with w | w
                · exact .inl w.2
                · rw [w.2.2] at h
                  cases h
              · rcases y with ⟨t, ht, rfl⟩ | y
                · exact .inl (I.tabB t ht)
                · exact .inr y
          bor := fun b hb => by
            obtain ⟨o, h⟩ := I.bor b hb
            rcases A.keep b o h with y | ⟨t, ht, rfl⟩ | y
            · exact there O b y
            · obtain ⟨ps, h1, _⟩ := A.tab t ht
              exact ⟨_, h1⟩
            · exact ⟨o, y⟩
          len := I.len
          sl := fun i s h => by
            obtain ⟨ov, e1, r⟩ := I.sl i s h
            refine ⟨ov, e1, ?_⟩
            cases s with
            | no => exact .inl trivial
            | exc q C d fs =>
              obtain ⟨e2, z, x⟩ := r
              exact .inl ⟨e2, z, x.mono A.f0⟩
            | dat d =>
              obtain ⟨v, e2, r⟩ := r
              exact .inl ⟨v, e2, r.mono A.f0⟩
            | own b p o =>
              obtain ⟨e2, fp, ho, hh, r⟩ := r
              rcases A.keep p ho hh with y | y
              · obtain ⟨j, hj, c, o', e3⟩ := mem_owns_of e p y
                have : i = j := Classical.byContradiction fun z => I.dis i j _ _ _ _ _ _ h e3 z rfl
                subst this
                exact .inr ⟨hj, b, p, o, rfl, e2⟩
              · rcases y with ⟨t, ht, rfl⟩ | y
                · obtain ⟨ps, h1, _⟩ := I.tab t ht
                  rw [h1] at hh
                  exact absurd (Option.some.inj hh).symm ((NoTab.rep r).1 ps)
                refine .inl ⟨e2, ?_, ho, y, r.mono A.f0⟩
                cases q : F' p with
                | none => rfl
                | some u =>
                  rcases A.fnew p u q with ⟨u', z⟩ | z
                  · rw [fp] at z
                    cases z
                  · rw [hh] at z
                    cases z
          ownB := I.ownB, dis := I.dis
          pin := fun a u h => by
            obtain ⟨h1, h2, h3, h4⟩ := I.pin a u h
            rcases A.keep a u h1 with y | y
            · obtain ⟨i, _, b, o', e2⟩ := mem_owns_of e a y
              rw [I.ownP i b a o' e2] at h
              cases h
            · rcases y with ⟨t, ht, rfl⟩ | y
              · exact absurd (I.tabB t ht) h3
              refine ⟨y, ?_, h3, h4⟩
              cases q : F' a with
              | none => rfl
              | some u' =>
                rcases A.fnew a u' q with ⟨u2, z⟩ | z
                · rw [h2] at z
                  cases z
                · rw [h1] at z
                  cases z
          ownP := I.ownP, tab := A.tab, tabB := I.tabB, tabF := A.tabF }
theorem putOuts_own {as : List Ag} : ∀ {outs : List MO} {ρ : En} {i : Nat} {b : Bool} {p : Addr} {o : MO}, (putOuts as outs ρ)[i]? = some (.own b p o) → ∃ o', ρ[i]? = some (.own b p o') := by
  induction as with
  | nil =>
    intro outs ρ i b p o h
    have : putOuts [] outs ρ = ρ := by cases outs <;> rfl
    rw [this] at h
    exact ⟨o, h⟩
  | cons a r ih =>
    intro outs ρ i b p o h
    cases a with
    | d x => exact ih (outs := outs) h
    | b k =>
      cases outs with
      | nil => exact ⟨o, h⟩
      | cons o1 os =>
        obtain ⟨o', h'⟩ := ih (outs := os) h
        rcases putMO_get h' with ⟨rfl, b2, p2, o2, e2, z⟩ | z
        · injection z with z1 z2 z3
          subst z1
          subst z2
          exact ⟨o2, e2⟩
        · exact ⟨o', z⟩
theorem new_after (I : DI K Z F H σ ρ) {as : List Ag} {args : List Sl} {outs : List MO} {p : Addr} {o : MO} (A : Aft Z.T K F H (owns args) F' H') (h1 : F' p = none) (h2 : H p = none) (h3 : ∃ ho, H' p = some ho ∧ RepO K F' ho o) : NewAt K Z F' H' (putOuts as outs ρ) p o where
  fr := h1
  at_ := h3
  h0 := I.free0 h2
  nb := I.freeB h2
  np := I.freeP h2
  ne := fun i b q o' e => by
    obtain ⟨o2, e2⟩ := putOuts_own e
    obtain ⟨_, _, ho, hh, _⟩ := I.slotO e2
    exact ne_of_none hh h2
end

/-! ### arguments, positional and by name -/
def DKs (X : Cx) (Z : Fm) (W : WX) (kws : List Keyword) (m : DA) : Prop := PK X kws (tAs X.K Z W m)
theorem PK.imp {X : Cx} {e : List Keyword} {t t' : TA} (h : PK X e t) (i : ∀ σ H Q, t' σ H Q → t σ H Q) : PK X e t' := ⟨fun p pins s σ H Q I q => h.run p pins s σ H Q I (i σ H Q q)⟩
theorem dk_nil {X : Cx} {Z : Fm} {W : WX} : DKs X Z W [] daNil := PK.imp pk_nil fun σ H Q ⟨F, ρ, R, U, I, hm, q, u⟩ => q [] ρ [] F H I (Same.refl F) .nil hm
theorem dk_cons {X : Cx} {Z : Fm} {W : WX} {nm : Option Str} {e : Expr} {kpos : Pos} {kws : List Keyword} {ma : DT} {mr : DA} (ha : DE X Z W e ma) (hr : DKs X Z W kws mr) : DKs X Z W (⟨nm, e, kpos⟩ :: kws) (daCons ma mr) :=
  PK.imp (pk_cons ha hr) fun σ H Q ⟨F, ρ, R, U, I, hm, q, u⟩ =>
    ⟨F, ρ, _, U, I, hm, fun x ρ1 v F1 H1 I1 s1 r1 h1 => ⟨F1, ρ1, _, U, I1, h1, fun as ρ2 vs F2 H2 I2 s2 r2 h2 => q _ ρ2 _ F2 H2 I2 (s1.trans s2) (.cons (show AgRep X.K F2 σ v (.d x) from r1.mono s2) r2) h2, u.mono s1⟩, u⟩
/-- so many positional ones, so many by name, in the parameters' order -/
def perm {α : Type} (g : List Nat) (l : List α) : List α := g.filterMap fun i => l[i]?
def daKw (n m : Nat) (g : List Nat) (a b : DA) : DA := fun ρ R U => a ρ (fun as ρ1 => b ρ1 (fun bs ρ2 => as.length = n ∧ bs.length = m ∧ R (perm g (as ++ bs)) ρ2) U) U
theorem Paired.append {α β : Type} {F : α → β → Prop} : ∀ {a : List α} {b : List β} {c : List α} {d : List β}, Paired F a b → Paired F c d → Paired F (a ++ c) (b ++ d)
  | _, _, _, _, .nil, h => h
  | _, _, _, _, .cons r t, h => .cons r (Paired.append t h)
theorem Paired.at {α β : Type} {F : α → β → Prop} : ∀ {a : List α} {b : List β} (i : Nat), Paired F a b → (∃ x y, a[i]? = some x ∧ b[i]? = some y ∧ F x y) ∨ (a[i]? = none ∧ b[i]? = none)
  | _, _, _, .nil => .inr ⟨rfl, rfl⟩
  | _, _, 0, .cons r _ => .inl ⟨_, _, rfl, rfl, r⟩
  | _, _, i + 1, .cons _ t => by
    rcases Paired.at i t with ⟨x, y, h1, h2, h⟩ | ⟨h1, h2⟩
    · exact .inl ⟨x, y, by simpa using h1, by simpa using h2, h⟩
    · exact .inr ⟨by simpa using h1, by simpa using h2⟩
theorem Paired.perm {α β : Type} {F : α → β → Prop} {a : List α} {b : List β} (h : Paired F a b) : ∀ g : List Nat, Paired F (DL.perm g a) (DL.perm g b)
  | [] => .nil
  | i :: g => by
    have ih := Paired.perm h g
    unfold DL.perm at ih ⊢
    rw [List.filterMap_cons, List.filterMap_cons]
    rcases Paired.at i h with ⟨x, y, h1, h2, h⟩ | ⟨h1, h2⟩
    · rw [h1, h2]
      exact .cons h ih
    · rw [h1, h2]
      exact ih
/-- how a call's arguments are evaluated: vs in the parameters' order, us the values, given as pa.1 and pa.2 -/
def Ev (X : Cx) (pos : Pos) (es : List Expr) (kws : List Keyword) (mk : List Value → Args) (Z : Fm) (W : WX) (m : DA) : Prop :=
  ∀ (fv : Value) (first : List Value) (pins : List (Addr × Obj)) (s : Shared) (σ : St) (H : Hp) (R : List V → Hp → Prop) (Q' : Value → Shared → Prop), PySem.W.keepIn X.K fv = true → Inv X pins σ H s → tAs X.K Z W m σ H R →
    (∀ us vs H1 s1, Inv X pins σ H1 s1 → Vals vs us → R vs H1 → wpAny (model X.prog X.w) X.A (PySem.call fv (first ++ (mk us).pos) (mk us).kw) Q' X.xe s1) →
    wpAny (model X.prog X.w) X.A (callWith pos fv first (backTo pos (starEach es X.env)) (backToKw pos (keywordEach kws X.env))) Q' X.xe s
section
variable {X : Cx} {Z : Fm} {W : WX} {pos : Pos} {e : Expr} {es : List Expr} {kws : List Keyword} {ma mb : DA} {ks : List Str}
abbrev mkP : List Value → Args := fun us => ⟨us, []⟩
theorem ev_pos (ha : DAs X Z W (e :: es) ma) (he : starEach (e :: es) X.env = (false, eval e X.env) :: starEach es X.env := by rfl) (hpl : (backTo pos (starEach es X.env)).any (·.1) = false := by rfl) : Ev X pos (e :: es) [] mkP Z W ma :=
  fun fv first pins s σ H R Q' hk I h q => PySem.W.callWith_K (h₀ := X.base) I.ok.mod.kin hk (thn (ha.run pos pins s σ H _ I h) fun us s1 ⟨vs, H1, I1, r, h1⟩ => ⟨I1.kIn, q us vs H1 s1 I1 r h1⟩) he hpl
theorem ev_kw0 (g : List Nat) (un : List Value → Args) (hun : ∀ ws : List Value, ws.length = ks.length → un (perm g ws) = ⟨[], ks.zip ws⟩)
    (hkw : DKs X Z W kws mb) (hall : (backToKw pos (keywordEach kws X.env)).all (·.1.isSome) = true := by rfl) (hks : (backToKw pos (keywordEach kws X.env)).filterMap (·.1) = ks := by rfl)
    (hpl : ((backTo pos (starEach [] X.env)).any (·.1) || (backToKw pos (keywordEach kws X.env)).any (·.1.isNone)) = false := by rfl) : Ev X pos [] kws un Z W (daKw 0 ks.length g daNil mb) :=
  fun fv first pins s σ H R Q' hk I ⟨F, ρ, R', U, I', hm, q', u⟩ q => by
    refine PySem.W.callWith_KW0 (h₀ := X.base) I.ok.mod.kin hk hall ?_ hpl
    have hm' : mb ρ (fun bs ρ2 => ([] : List Ag).length = 0 ∧ bs.length = ks.length ∧ R' (perm g ([] ++ bs)) ρ2) U := hm
    refine thn (hkw.run pos pins s σ H (fun zs H2 => zs.length = ks.length ∧ R (perm g zs) H2) I ⟨F, ρ, _, U, I', hm', fun bs ρ2 zs F2 H2 I2 s2 r2 ⟨_, l2, h2⟩ => ⟨r2.length.trans l2, q' _ ρ2 _ F2 H2 I2 s2 (Paired.perm r2 g) h2⟩, u⟩) fun ws s2 ⟨zs, H2, I2, r2, l2, h2⟩ => ⟨I2.kIn, ?_⟩
    have := q (perm g ws) (perm g zs) H2 s2 I2 (Paired.perm r2 g) h2
    rw [hun ws (r2.length.symm.trans l2)] at this
    rw [hks]
    exact this
end

/-! ### calls -/
/-- what holds of a promise: it may be weakened at its ends -/
def Mono (s : SpD) : Prop := ∀ args Q Q' U U', (∀ r o, Q r o → Q' r o) → (∀ r o, U r o → U' r o) → s args Q U → s args Q' U'
/-- how an exception of a callee reaches this code's wish -/
abbrev Pass (X : Cx) (W : WX) : Prop := ∀ σ, PassesAt (L2.CX X.prog X.w) X σ (fun cls d H' => W cls d σ H')
theorem pass_of {X : Cx} {W : WX} (tk : Takes X W) : Pass X W := fun σ => passAt tk σ
theorem pass_f {X : Cx} : Pass X WF := fun σ => passAt (W := fun _ _ _ _ => False) takes0 σ
/-- a def of the text that keeps a promise: by its name's value -/
structure Fd (T : List (Addr × Str)) (P : Program) (w : World) (K : PySem.W.Frag) (mg : Str → Option Value) (base : Heap) (k : Nat) (f : Addr) (ps : List Str) (fd : FuncData) (s : SpD) : Prop where
  ok : FnG P w K mg base k f fd ps (spOf T K s)
  mono : Mono s
  kp : PySem.W.keepIn K (.ref f) = true
/-- how given values reach the parameters -/
def BindK (K : PySem.W.Frag) (fd : FuncData) (ps : List Str) (un : List Value → Args) : Prop := ∀ (s : Shared) (us : List Value), K.In s.heap → us.length = ps.length → BindsTo s fd (un us) (ps.zip us)
section
variable {X : Cx} {Z : Fm} {W : WX} {k : Nat} {f C : Addr} {fd : FuncData} {ps : List Str} {s : SpD} {x m : Str} {p pos apos : Pos} {e o : Expr} {es : List Expr} {kws : List Keyword} {ma : DA} {mo : DT} {un : List Value → Args}
/-- the promise, from what the caller knows -/
theorem sp_call {as : List Ag} {args : List Sl} {vs : List V} {F H : Hp} {σ : St} {ρ : En} {Q : VK} {R : Rv → En → Prop} {U : XP} (mono : Mono s) (I : DI X.K Z F H σ ρ) (ra : Paired (fun v a => AgRep X.K F σ v a) vs as) (e : argsOf ρ as = some args)
    (h : s args (fun rv outs => R rv (putOuts as outs ρ)) (fun x outs => U x (putOuts as outs ρ)))
    (q : ∀ rv ρ' v F' H', DI X.K Z F' H' σ ρ' → Same F F' → RvAt X.K Z F' H' ρ' v rv → R rv ρ' → Q v H') (u : PX X.K Z W F σ U) : spOf Z.T X.K s vs H Q (fun cls d H' => W cls d σ H') := by
  refine ⟨F, args, I.fh, args_rep I ra e, owns_nodup I e, ⟨I.tab, I.tabF⟩, mono _ _ _ _ _ (fun rv outs hr => ?_) (fun x outs hu => ?_) h⟩
  · intro v F' H' A O rv'
    have I' := I.after e A O
    refine q rv _ v F' H' I' A.f0 ?_ hr
    cases rv with
    | d d => exact rv'
    | o o =>
      obtain ⟨p, e1, h1, h2, h3⟩ := rv'
      exact ⟨p, e1, new_after I A h1 h2 h3⟩
  · intro d F' H' A O xa
    exact u x _ F' H' d (I.after e A O) A.f0 xa hu
theorem call_in (mono : Mono s) (σ : St) (H : Hp) (Q : VK) (h : tE X.K Z W (dCall s ma) σ H Q) : tAs X.K Z W ma σ H (fun vs H1 => spOf Z.T X.K s vs H1 Q (fun cls d H' => W cls d σ H')) := by
  obtain ⟨F, ρ, R, U, I, hm, q, u⟩ := h
  refine ⟨F, ρ, _, U, I, hm, fun as ρ1 vs F1 H1 I1 s1 r1 h1 => ?_, u⟩
  try dsimp only at h1
  split at h1
  · rename_i args ea
    refine sp_call mono I1 r1 ea (R := fun rv ρ' => match rv.toD with | some d => R d ρ' | none => False) h1 (fun rv ρ' v F' H' I' s' rv' hr => ?_) (u.mono s1)
    split at hr
    · rename_i d ed
      cases rv with
      | d d' =>
        obtain rfl := Option.some.inj ed
        exact q d' ρ' v F' H' I' (s1.trans s') rv' hr
      | o o' =>
        obtain ⟨p, rfl, N⟩ := rv'
        obtain ⟨ho, I2, s2, r⟩ := I'.freeze N ed
        exact q d ρ' _ _ H' I2 (s1.trans (s'.trans s2)) r hr
    · exact hr.elim
  · exact h1.elim
theorem callO_in (mono : Mono s) (σ : St) (H : Hp) (Q : VK) (h : tO X.K Z W (dCallO s ma) σ H Q) : tAs X.K Z W ma σ H (fun vs H1 => spOf Z.T X.K s vs H1 Q (fun cls d H' => W cls d σ H')) := by
  obtain ⟨F, ρ, R, U, I, hm, q, u⟩ := h
  refine ⟨F, ρ, _, U, I, hm, fun as ρ1 vs F1 H1 I1 s1 r1 h1 => ?_, u⟩
  try dsimp only at h1
  split at h1
  · rename_i args ea
    refine sp_call mono I1 r1 ea (R := fun rv ρ' => match rv with | .o o => R o ρ' | .d _ => False) h1 (fun rv ρ' v F' H' I' s' rv' hr => ?_) (u.mono s1)
    cases rv with
    | d d' => exact hr.elim
    | o o' =>
      obtain ⟨p, rfl, N⟩ := rv'
      exact q o' ρ' p F' H' I' (s1.trans s') N hr
  · exact h1.elim
theorem d_callG {t : TE} (hr : Room k X.A) (hgd : X.A.guards = some []) (D : Fd Z.T X.prog X.w X.K X.mg X.base k f ps fd s) (hm : X.mg x = some (.ref f)) (hb : BindK X.K fd ps un) (hx : Pass X W) (ev : Ev X pos es kws un Z W ma)
    (ht : ∀ σ H Q, t σ H Q → tAs X.K Z W ma σ H (fun vs H1 => spOf Z.T X.K s vs H1 Q (fun cls d H' => W cls d σ H'))) (hg : Gl X x) (hdb : (x == ("__debug__" : Str)) = false) : PE X (.Call (.Name x p) es kws pos) t := by
  refine ⟨fun pins s σ H Q I h => ?_⟩
  refine wpAny_Call_Name_kw (ld_glob I hg hm ?_ hdb)
  refine ev (.ref f) [] pins s σ H _ _ D.kp I (ht σ H Q h) fun us vs H1 s1 I1 r h1 => ?_
  exact run_G (args := un us) D.ok hr hgd (fun s Ks hl => hb s us Ks hl) (hx σ) I1 r h1
theorem d_call (hr : Room k X.A) (hgd : X.A.guards = some []) (D : Fd Z.T X.prog X.w X.K X.mg X.base k f ps fd s) (hm : X.mg x = some (.ref f)) (hb : BindK X.K fd ps un) (hx : Pass X W) (ev : Ev X pos es kws un Z W ma) (hg : Gl X x := by rfl) (hdb : (x == ("__debug__" : Str)) = false := by decide) :
    DE X Z W (.Call (.Name x p) es kws pos) (dCall s ma) := d_callG hr hgd D hm hb hx ev (call_in D.mono) hg hdb
theorem d_callO (hr : Room k X.A) (hgd : X.A.guards = some []) (D : Fd Z.T X.prog X.w X.K X.mg X.base k f ps fd s) (hm : X.mg x = some (.ref f)) (hb : BindK X.K fd ps un) (hx : Pass X W) (ev : Ev X pos es kws un Z W ma) (hg : Gl X x := by rfl) (hdb : (x == ("__debug__" : Str)) = false := by decide) :
    DOk X Z W (.Call (.Name x p) es kws pos) (dCallO s ma) := d_callG hr hgd D hm hb hx ev (callO_in D.mono) hg hdb
/-! o.m(..), o a frozen instance of the class at C -/
def dMeth (C : Addr) (m : Str) (s : SpD) (o : DT) (a : DA) : DT := fun ρ R U => o ρ (fun x ρ0 => match x with
  | .ins C' fs => (C' = C ∧ fs.lookup m = none) ∧ a ρ0 (fun as ρ1 => match argsOf ρ1 (.d (.ins C' fs) :: as) with
    | some args => s args (fun rv outs => match rv.toD with
      | some d => R d (putOuts (.d (.ins C' fs) :: as) outs ρ1)
      | none => False) (fun y outs => U y (putOuts (.d (.ins C' fs) :: as) outs ρ1))
    | none => False) U
  | _ => False) U
/-! i.m(..), i an own instance's slot -/
/-! C(..) -/
def dMake (C : Addr) (s : SpD) (a : DA) : DO := fun ρ R U => a ρ (fun as ρ1 => match argsOf ρ1 as with
  | some args => ∀ p, p ∉ owns args → s (.own false p (.ins C []) :: args) (fun rv outs => match rv, outs with
    | .d .non, o :: outs => R o (putOuts as outs ρ1)
    | _, _ => False) (fun y outs => match outs with
    | _ :: outs => U y (putOuts as outs ρ1)
    | [] => False)
  | none => False) U
theorem d_make (hr : Room (k + 1) X.A) (hgd : X.A.guards = some []) (M : Mk X.K C f) (D : Fd Z.T X.prog X.w X.K X.mg X.base k f ps fd s) (hm : X.mg x = some (.ref C)) (hb : BindK X.K fd ps (fun us => match us with | [] => ⟨[], []⟩ | v :: us => ⟨v :: (un us).pos, (un us).kw⟩)) (hx : Pass X W) (ev : Ev X pos es kws un Z W ma)
    (hg : Gl X x := by rfl) (hdb : (x == ("__debug__" : Str)) = false := by decide) : DOk X Z W (.Call (.Name x p) es kws pos) (dMake C s ma) := by
  refine ⟨fun pins s0 σ H Q I ⟨F, ρ, R, U, Id, hd, q, u⟩ => ?_⟩
  refine wpAny_Call_Name_kw (ld_glob I hg hm ?_ hdb)
  refine ev (.ref C) [] pins s0 σ H (fun vs H1 => ∀ x dx, H1 x = none → H1 dx = none → dx ≠ x → spOf Z.T X.K s (.ref x :: vs) (upd (upd H1 dx (.own x)) x (.ins C dx [])) (fun v H2 => v = .non ∧ Q (.ref x) H2) (fun cls d H' => W cls d σ H')) _ M.kp I
    ⟨F, ρ, _, U, Id, hd, fun as ρ1 vs F1 H1 I1 s1 r1 h1 => ?_, u⟩ fun us vs H1 s1 I1 r h1 => ?_
  · intro x dx nx ndx nex
    try dsimp only at h1
    split at h1
    · rename_i args ea
      have ra := args_rep I1 r1 ea
      have fx : F1 x = none := I1.freeF nx
      have keepH : ∀ a o, H1 a = some o → (upd (upd H1 dx (.own x)) x (.ins C dx [])) a = some o := fun a o e => by
        rw [upd_ne (ne_of_none e nx), upd_ne (ne_of_none e ndx)]
        exact e
      have ra' : Paired (RepA X.K F1 (upd (upd H1 dx (.own x)) x (.ins C dx []))) vs args := Paired.mapP ra fun v a h => by
        cases a with
        | no => exact h
        | dat d => exact h
        | exc q C d fs => exact h
        | own b p o =>
          obtain ⟨e1, e2, ho, e3, e4⟩ := h
          exact ⟨e1, e2, ho, keepH _ _ e3, e4⟩
      have nown : x ∉ owns args := fun hx => by
        obtain ⟨i, _, b, o, e2⟩ := mem_owns_of ea x hx
        obtain ⟨_, _, ho, hh, _⟩ := I1.slotO e2
        rw [nx] at hh
        cases hh
      refine ⟨F1, .own false x (.ins C []) :: args, fun b o e => keepH b o (I1.fh b o e), .cons ⟨rfl, fx, _, upd_same, .ins .nil⟩ ra', List.nodup_cons.mpr ⟨nown, owns_nodup I1 ea⟩, ⟨I1.tab.ext keepH, I1.tabF⟩, D.mono _ _ _ _ _ (fun rv outs hr => ?_) (fun y outs hu => ?_) (h1 x nown)⟩
      · intro v F' H' A O rv'
        have A' : Aft Z.T X.K F1 H1 (owns args) F' H' := by
          refine ⟨A.f0, A.fh, fun a o e => ?_, fun a o e => ?_, A.tab, A.tabF⟩
          · rcases A.fnew a o e with z | z
            · exact .inl z
            · refine .inr ?_
              cases w : H1 a with
              | none => rfl
              | some u' =>
                rw [keepH a u' w] at z
                cases z
          · rcases A.keep a o (keepH a o e) with z | z
            · rcases List.mem_cons.mp z with y | y
              · rw [y, nx] at e
                cases e
              · exact .inl y
            · exact .inr z
        split at hr
        · rename_i o outs'
          have O' : Outs X.K F' H' (x :: owns args) (o :: outs') := O
          cases O' with
          | cons ho O' =>
            have I' := I1.after ea A' O'
            have ev : v = .non := by
              have r : Rep X.K F' v .non := rv'
              cases r
              rfl
            exact ⟨ev, q _ _ x F' H' I' (s1.trans A.f0) (new_after I1 A' ho.1 nx ho.2) hr⟩
        · exact hr.elim
      · intro d F' H' A O xa
        have A' : Aft Z.T X.K F1 H1 (owns args) F' H' := by
          refine ⟨A.f0, A.fh, fun a o e => ?_, fun a o e => ?_, A.tab, A.tabF⟩
          · rcases A.fnew a o e with z | z
            · exact .inl z
            · refine .inr ?_
              cases w : H1 a with
              | none => rfl
              | some u' =>
                rw [keepH a u' w] at z
                cases z
          · rcases A.keep a o (keepH a o e) with z | z
            · rcases List.mem_cons.mp z with y | y
              · rw [y, nx] at e
                cases e
              · exact .inl y
            · exact .inr z
        split at hu
        · rename_i o outs'
          have O' : Outs X.K F' H' (x :: owns args) (o :: outs') := O
          cases O' with
          | cons ho O' => exact u y _ F' H' d (I1.after ea A' O') (s1.trans A.f0) xa hu
        · exact hu.elim
    · exact h1.elim
  · refine run_makeG (pos := (un us).pos) (kw := (un us).kw) (us := us) (vs := vs) M D.ok hr hgd (fun s x Ks hl => hb s (x :: us) Ks hl) (fun H' s' _ => hx σ) I1 r h1
/-! o.f, a property; o a frozen instance -/
def dProp (C : Addr) (s : SpD) (o : DT) : DT := fun ρ R U => o ρ (fun x ρ0 => match x with
  | .ins C' fs => C' = C ∧ s [.dat (.ins C' fs)] (fun rv _ => match rv.toD with
    | some d => R d ρ0
    | none => False) (fun _ _ => False)
  | _ => False) U
theorem d_prop {g pp : Addr} {fn : Str} (hr : Room (k + 1) X.A) (hgd : X.A.guards = some []) (ho : DE X Z W o mo) (c : Cls X.K C) (hp : PropOf X.K C fn pp g) (D : Fd Z.T X.prog X.w X.K X.mg X.base k g ps fd s) (hb : BindK X.K fd ps mkP)
    (hab : attributeBase o fn X.env (eval o X.env) = eval o X.env := by rfl) : DE X Z W (.Attribute o fn pos) (dProp C s mo) := by
  refine ⟨fun pins s0 σ H Q I ⟨F, ρ, R, U, Id, hd, q, u⟩ => ?_⟩
  refine attr_of hab (thn (ho.run pins s0 σ H (fun v H1 => ∃ a dx fs, v = .ref a ∧ H1 a = some (.ins C dx fs) ∧ spOf Z.T X.K s [.ref a] H1 Q (fun _ _ _ => False)) I ⟨F, ρ, _, U, Id, hd, fun x ρ0 v F1 H1 I1 s1 r1 h1 => ?_, u⟩) fun ov s1 ⟨v, H1, I1, rv, a, dx, fs, ev', ea, h⟩ => ?_)
  · cases r1 with
    | ins ha ra =>
      obtain ⟨rfl, h1⟩ := h1
      refine ⟨_, _, _, rfl, I1.fh _ _ ha, ?_⟩
      exact sp_call (W := WF) (as := [.d _]) D.mono I1 (.cons (show AgRep X.K F1 σ _ (.d _) from .ins ha ra) .nil) rfl (R := fun rv ρ' => match rv.toD with | some d => R d ρ0 ∧ ρ' = ρ0 | none => False) (U := fun _ _ => False)
        (D.mono _ _ _ _ _ (fun rv outs hr => by
          have e : ∀ d, putOuts [.d d] outs ρ0 = ρ0 := fun d => by cases outs <;> rfl
          rw [e]
          revert hr
          cases rv.toD with
          | none => exact fun h => h
          | some d => exact fun h => ⟨h, rfl⟩) (fun _ _ h => h) h1) (fun rv ρ' v F' H' I' s' rv' hr => by
          cases rv with
          | d d' =>
            obtain ⟨hr, rfl⟩ := hr
            exact q d' ρ' v F' H' I' (s1.trans s') rv' hr
          | o o' =>
            obtain ⟨p, rfl, N⟩ := rv'
            have hr' : (match o'.toD with | some d => R d ρ0 ∧ ρ' = ρ0 | none => False) := hr
            split at hr'
            · rename_i d ed
              obtain ⟨hr', rfl⟩ := hr'
              obtain ⟨ho, I3, s3, r⟩ := I'.freeze N ed
              exact q d ρ' _ _ H' I3 (s1.trans (s'.trans s3)) r hr'
            · exact hr'.elim) (fun _ _ _ _ _ _ _ _ h => h)
    | _ => exact h1.elim
  · subst ev'
    obtain rfl : ov = Value.ref a := rv
    obtain ⟨mA, O, _, _, _, _⟩ := ins_get I1.hok ea
    obtain ⟨od, J, _⟩ := O.look
    obtain ⟨rest, hrec⟩ := hp.rec_
    have I2 := I1.tok (s1.toks + 1)
    have hc : (PySem.W.clsIn X.K C).isSome = true := by
      obtain ⟨cd, hc, _⟩ := PySem.W.any_some c.hd
      rw [hc]
      rfl
    have hl : ([Value.ref a] : List Value).length = ps.length := D.ok.len _ _ _ _ h
    refine PySem.W.get_bind I1.kIn J (PySem.W.plainGet_of (c.get fn)).1 (PySem.W.findObj_data hc hp.at_ hp.get hp.tak) (PySem.W.plainGet_of (c.get fn)).2 (wpAny_call (PySem.W.prop_get (s := { s1 with toks := s1.toks + 1 }) I1.kIn hrec ?_))
    refine codeAny_mono (D.ok.run X.A.in1 X.stack { s1 with toks := s1.toks + 1 } H1 ⟨[.ref a], []⟩ [.ref a] [.ref a] Q (fun _ _ _ => False) hr.in1 hgd I2.env0.in1 (hb _ [.ref a] I2.kIn hl) (.cons rfl .nil) h) fun r s' hq => ?_
    cases r with
    | error er => exact False.elim ((passAt (X := X.nox) (W := fun _ _ _ _ => False) takes0 σ) pins H1 { s1 with toks := s1.toks + 1 } er s' (I2.wish _) hq)
    | ok fl =>
      cases fl with
      | ret u' =>
        obtain ⟨v, H', I3, rv, q3⟩ := I2.after hq
        show wpAny _ _ (handedOut u') _ _ _
        rw [PySem.W.handedOut_of (handed_of rv)]
        exact wpAny_pure ⟨v, H', I3, rv, q3⟩
      | next => exact False.elim hq
      | brk => exact False.elim hq
      | cont => exact False.elim hq
end

/-! ### the def -/
def lend : Sl → Sl
  | .own _ p o => .own true p o
  | s => s
def entry (n : Nat) (args : List Sl) : En := args.map lend ++ List.replicate (n - args.length) .no
/-- the lent objects as they are at the end -/
def outW : List Sl → En → (List MO → Prop) → Prop
  | .own _ p _ :: as, .own _ q o :: ρ, k => p = q ∧ outW as ρ (fun r => k (o :: r))
  | .dat _ :: as, _ :: ρ, k => outW as ρ k
  | .no :: as, _ :: ρ, k => outW as ρ k
  | .exc _ _ _ _ :: as, _ :: ρ, k => outW as ρ k
  | [], _, k => k []
  | _, _, _ => False
def ends (args : List Sl) (Q : Rv → List MO → Prop) (U : Xn → List MO → Prop) : DEn where
  nx := fun ρ => outW args ρ (fun outs => Q (.d .non) outs)
  rt := fun rv ρ => outW args ρ (fun outs => Q rv outs)
  bk := fun _ => False
  ct := fun _ => False
  ex := fun x ρ => outW args ρ (fun outs => U x outs)
section
variable {P : Program} {w : World} {K : PySem.W.Frag} {mg : Str → Option Value} {base : Heap} {T : List (Addr × Str)}
theorem outW_get {F H : Hp} : ∀ {args : List Sl} {ρ : En} {k : List MO → Prop}, (∀ (i : Nat) b p o, ρ[i]? = some (.own b p o) → F p = none ∧ ∃ ho, H p = some ho ∧ RepO K F ho o) → outW args ρ k → ∃ outs, k outs ∧ Outs K F H (owns args) outs
  | [], ρ, k, _, h => ⟨[], (by cases ρ <;> exact h), .nil⟩
  | .own b p o :: as, [], k, _, h => h.elim
  | .own b p o :: as, .no :: ρ, k, _, h => h.elim
  | .own b p o :: as, .dat d :: ρ, k, _, h => h.elim
  | .own b p o :: as, .exc _ _ _ _ :: ρ, k, _, h => h.elim
  | .own b p o :: as, .own c q o' :: ρ, k, hr, h => by
    obtain ⟨rfl, h⟩ := h
    obtain ⟨outs, hk, O⟩ := outW_get (args := as) (fun i b p o e => hr (i + 1) b p o (by simpa using e)) h
    exact ⟨o' :: outs, hk, .cons (hr 0 c p o' rfl) O⟩
  | .dat d :: as, [], k, _, h => h.elim
  | .dat d :: as, s :: ρ, k, hr, h => by
    obtain ⟨outs, hk, O⟩ := outW_get (args := as) (fun i b p o e => hr (i + 1) b p o (by simpa using e)) (by cases s <;> exact h)
    exact ⟨outs, hk, O⟩
  | .no :: as, [], k, _, h => h.elim
  | .no :: as, s :: ρ, k, hr, h => by
    obtain ⟨outs, hk, O⟩ := outW_get (args := as) (fun i b p o e => hr (i + 1) b p o (by simpa using e)) (by cases s <;> exact h)
    exact ⟨outs, hk, O⟩
  | .exc _ _ _ _ :: as, [], k, _, h => h.elim
  | .exc _ _ _ _ :: as, s :: ρ, k, hr, h => by
    obtain ⟨outs, hk, O⟩ := outW_get (args := as) (fun i b p o e => hr (i + 1) b p o (by simpa using e)) (by cases s <;> exact h)
    exact ⟨outs, hk, O⟩
theorem entry_get {n : Nat} {args : List Sl} {i : Nat} {s : Sl} (h : (entry n args)[i]? = some s) : (∃ t, args[i]? = some t ∧ s = lend t) ∨ s = .no := by
  unfold entry at h
  by_cases hi : i < (args.map lend).length
  · rw [List.getElem?_append_left hi, List.getElem?_map] at h
    cases e : args[i]? with
    | none => rw [e] at h; cases h
    | some t => rw [e] at h; exact .inl ⟨t, rfl, (Option.some.inj h).symm⟩
  · rw [List.getElem?_append_right (by omega), List.getElem?_replicate] at h
    split at h
    · exact .inr (Option.some.inj h).symm
    · cases h
theorem entry_own {n : Nat} {args : List Sl} {i : Nat} {b : Bool} {p : Addr} {o : MO} (h : (entry n args)[i]? = some (.own b p o)) : b = true ∧ ∃ c, args[i]? = some (.own c p o) := by
  rcases entry_get h with ⟨t, e, z⟩ | z
  · cases t with
    | no => cases z
    | dat d => cases z
    | exc q C d fs => cases z
    | own c q o' =>
      injection z with z1 z2 z3
      subst z2
      subst z3
      exact ⟨z1, c, e⟩
  · cases z
theorem mem_owns {args : List Sl} {i : Nat} {c : Bool} {p : Addr} {o : MO} (h : args[i]? = some (.own c p o)) : p ∈ owns args := by
  induction args generalizing i with
  | nil => simp at h
  | cons a r ih =>
    cases i with
    | zero =>
      obtain rfl := Option.some.inj h
      exact List.mem_cons_self
    | succ i =>
      have := ih (i := i) (by simpa using h)
      cases a with
      | own _ _ _ => exact List.mem_cons_of_mem _ this
      | no => exact this
      | dat _ => exact this
      | exc _ _ _ _ => exact this
theorem owns_dis {args : List Sl} (nd : (owns args).Nodup) {i j : Nat} {c d : Bool} {p q : Addr} {o o' : MO} (h : args[i]? = some (.own c p o)) (h' : args[j]? = some (.own d q o')) (n : i ≠ j) : p ≠ q := by
  induction args generalizing i j with
  | nil => simp at h
  | cons a r ih =>
    have key : ∀ {i j : Nat} {c d : Bool} {p q : Addr} {o o' : MO}, i = 0 → (a :: r)[i]? = some (.own c p o) → (a :: r)[j]? = some (.own d q o') → i ≠ j → p ≠ q := fun {i j c d p q o o'} i0 h h' n => by
      subst i0
      obtain rfl := Option.some.inj h
      cases j with
      | zero => exact absurd rfl n
      | succ j =>
        have hm := mem_owns (args := r) (i := j) (by simpa using h')
        have nd' : (p :: owns r).Nodup := nd
        intro z
        rw [← z] at hm
        exact (List.nodup_cons.mp nd').1 hm
    by_cases i0 : i = 0
    · exact key i0 h h' n
    · by_cases j0 : j = 0
      · exact (key j0 h' h fun z => n z.symm).symm
      · obtain ⟨i, rfl⟩ : ∃ i', i = i' + 1 := ⟨i - 1, by omega⟩
        obtain ⟨j, rfl⟩ : ∃ j', j = j' + 1 := ⟨j - 1, by omega⟩
        have nd' : (owns r).Nodup := by
          cases a with
          | own _ p _ => exact (List.nodup_cons.mp nd).2
          | no => exact nd
          | dat _ => exact nd
          | exc _ _ _ _ => exact nd
        exact ih nd' (i := i) (j := j) (by simpa using h) (by simpa using h') (by omega)
theorem di_entry {T : List (Addr × Str)} {F H : Hp} {vs : List V} {args : List Sl} {N : List Str} (sf : Same F H) (r : Paired (RepA K F H) vs args) (nd : (owns args).Nodup) (tb : LamX.Tabs T H ∧ ∀ t ∈ T, F t.1 = none) (hl : vs.length ≤ N.length) :
    DI K ⟨F, H, owns args ++ T.map (·.1), fun _ => none, T⟩ F H (L2.start N vs) (entry N.length args) := by
  have hva : vs.length = args.length := r.length
  have getA : ∀ (i : Nat) t, args[i]? = some t → ∃ v, vs[i]? = some v ∧ RepA K F H v t := by
    intro i t
    induction r generalizing i with
    | nil => intro h; simp at h
    | cons h t' ih =>
      intro e
      cases i with
      | zero =>
        obtain rfl := Option.some.inj e
        exact ⟨_, rfl, h⟩
      | succ i =>
        rename_i v0 t0 vs' as' 
        have nd' : (owns as').Nodup := by
          cases t0 with
          | own _ p _ => exact (List.nodup_cons.mp nd).2
          | no => exact nd
          | dat _ => exact nd
          | exc _ _ _ _ => exact nd
        obtain ⟨v, e1, e2⟩ := ih nd' (Nat.le_of_succ_le hl) t'.length i (by simpa using e)
        exact ⟨v, by simpa using e1, e2⟩
  refine { f0 := Same.refl F, fh := sf, fnew := fun a o e => .inl ⟨o, e⟩, keep := fun a o e => .inr e, bor := fun b hb => ?_, len := ?_, sl := fun i s e => ?_, ownB := fun i b p o e => ?_, dis := fun i j b c p o q o' e e' n => ?_, pin := fun a u e => (nomatch e), ownP := fun _ _ _ _ _ => rfl, tab := tb.1, tabB := fun t ht => List.mem_append_right _ (List.mem_map.mpr ⟨t, ht, rfl⟩), tabF := tb.2 }
  · have : ∀ {vs : List V} {as : List Sl}, Paired (RepA K F H) vs as → ∀ b ∈ owns as, ∃ o, H b = some o := fun {vs as} r => by
      induction r with
      | nil => intro b hb; cases hb
      | cons h t ih =>
        rename_i v a vs as
        intro b hb
        cases a with
        | own _ p _ =>
          rcases List.mem_cons.mp hb with rfl | hb
          · obtain ⟨_, _, ho, hh, _⟩ := h
            exact ⟨ho, hh⟩
          · exact ih b hb
        | no => exact ih b hb
        | dat _ => exact ih b hb
        | exc _ _ _ _ => exact ih b hb
    rcases List.mem_append.mp hb with hb | hb
    · exact this r b hb
    · obtain ⟨t, ht, rfl⟩ := List.mem_map.mp hb
      obtain ⟨ps, h1, _⟩ := tb.1 t ht
      exact ⟨_, h1⟩
  · unfold L2.start entry
    rw [List.length_append, List.length_append, List.length_map, List.length_map, List.length_replicate, List.length_replicate, hva]
  · have gs : ∀ v, vs[i]? = some v → (L2.start N vs)[i]? = some (some v) := fun v h => by
      unfold L2.start
      have hi : i < vs.length := (List.getElem?_eq_some_iff.mp h).1
      rw [List.getElem?_append_left (by rw [List.length_map]; exact hi), List.getElem?_map, h]
      rfl
    rcases entry_get e with ⟨t, et, rfl⟩ | rfl
    · obtain ⟨v, ev, rv⟩ := getA i t et
      refine ⟨some v, gs v ev, ?_⟩
      cases t with
      | no => trivial
      | dat d => exact ⟨v, rfl, rv⟩
      | exc q C d fs =>
        obtain ⟨rfl, z, x⟩ := rv
        exact ⟨rfl, z, x⟩
      | own c p o =>
        obtain ⟨rfl, fp, hh⟩ := rv
        exact ⟨rfl, fp, hh⟩
    · have hi : i < (L2.start N vs).length := by
        have := (List.getElem?_eq_some_iff.mp e).1
        unfold entry at this
        unfold L2.start
        rw [List.length_append, List.length_map, List.length_replicate] at this ⊢
        omega
      exact ⟨_, List.getElem?_eq_getElem hi, trivial⟩
  · obtain ⟨hb, c, e'⟩ := entry_own e
    exact .inl ⟨hb, List.mem_append_left _ (mem_owns e')⟩
  · obtain ⟨_, _, e1⟩ := entry_own e
    obtain ⟨_, _, e2⟩ := entry_own e'
    exact owns_dis nd e1 e2 n
/-- THE RULE: a def over data, by its body's reading over data -/
theorem fn_DC {x qual : Str} {params : Arguments} {body : List Stmt} {scope : Scope} {dvs : List V} {kws : List (Str × V)} {f : Addr} {fd : FuncData} {N ps : List Str} {k : Nat} {s : SpD} {m : DSt} (F : FunD K x qual params body scope dvs kws f fd) (S : FnScope N ps scope) (mono : Mono s) (hlen : ∀ args Q U, s args Q U → args.length = ps.length)
    (hbody : ∀ (cdv : Value), fd.code = cdv → ∀ (A : Around) (outer : List Env) (s : Shared) (H : Hp) (E : XK) (Z : Fm0), Room k (A.deeper (envOfC qual scope s.heap.objs.size f cdv)) → (A.deeper (envOfC qual scope s.heap.objs.size f cdv)).guards = some [] →
      DSs (cxOf (L2.CX P w) P w K mg base N qual scope f cdv A outer s H E) (Fm.of Z T) (fun cls d _ H' => E cls d H') body m)
    (math : ∀ args Q U, s args Q U → m (ends args Q U) (entry N.length args)) : Fd T P w K mg base (k + 1) f ps fd s := by
  have plen : ps.length ≤ N.length := by
    have := congrArg List.length S.pre
    rw [List.length_take] at this
    omega
  refine ⟨?_, mono, F.kp⟩
  obtain ⟨oc, od, dV, kV, doc, pm, an, cdv, ct, osl, rfl, lk, hcd, _, _⟩ := F.ex
  refine fn_ofG lk hcd S (fun vs H Q E ⟨Fz, args, sf, r, nd, tb, h⟩ => by rw [r.length]; exact hlen _ _ _ h) (fun A outer s' H vs Q E hr hgd h => ?_)
  obtain ⟨Fz, args, sf, r, nd, tb, h⟩ := h
  have hl : vs.length ≤ N.length := by
    rw [r.length, hlen _ _ _ h]
    exact plen
  refine ⟨_, hbody cdv rfl A outer s' H E ⟨Fz, H, owns args ++ T.map (·.1)⟩ hr hgd, Fz, entry N.length args, _, di_entry sf r nd tb hl, math _ _ _ h, ?_⟩
  have aft : ∀ {ρ' σ' F' H'}, DI K (Fm.of ⟨Fz, H, owns args ++ T.map (·.1)⟩ T) F' H' σ' ρ' → Aft T K Fz H (owns args) F' H' := fun {ρ' σ' F' H'} I => ⟨I.f0, I.fh, I.fnew, fun a o e => (I.keep a o e).elim (fun z => (List.mem_append.mp z).elim .inl fun z => .inr (.inl (let ⟨t, ht, e⟩ := List.mem_map.mp z; ⟨t, ht, e⟩))) fun z => .inr (.inr z), I.tab, I.tabF⟩
  have outs : ∀ {ρ' σ' F' H'} {k : List MO → Prop}, DI K (Fm.of ⟨Fz, H, owns args ++ T.map (·.1)⟩ T) F' H' σ' ρ' → outW args ρ' k → ∃ os, k os ∧ Outs K F' H' (owns args) os := fun {ρ' σ' F' H' k} I h => outW_get (k := k) (fun i b p o e => (I.slotO e).2) h
  exact { nx := fun ρ' σ' F' H' I s h => by
            obtain ⟨os, hq, O⟩ := outs I h
            exact hq _ F' H' (aft I) O .non
          rt := fun rv ρ' v σ' F' H' I s rv' h => by
            obtain ⟨os, hq, O⟩ := outs I h
            refine hq v F' H' (aft I) O ?_
            cases rv with
            | d d => exact rv'
            | o o =>
              obtain ⟨p, e, N⟩ := rv'
              exact ⟨p, e, N.fr, N.h0, N.at_⟩
          bk := fun ρ' σ' F' H' I s h => h.elim
          ct := fun ρ' σ' F' H' I s h => h.elim
          ex := fun σ x ρ' F' H' d I s xa h => by
            obtain ⟨os, hq, O⟩ := outs I h
            exact hq d F' H' (aft I) O xa }
theorem fn_D {x qual : Str} {params : Arguments} {body : List Stmt} {scope : Scope} {dvs : List V} {kws : List (Str × V)} {f : Addr} {fd : FuncData} {N ps : List Str} {k : Nat} {s : SpD} {m : DSt} (F : FunD K x qual params body scope dvs kws f fd) (S : FnScope N ps scope) (mono : Mono s) (hlen : ∀ args Q U, s args Q U → args.length = ps.length)
    (hbody : ∀ (cdv : Value) (A : Around) (outer : List Env) (s : Shared) (H : Hp) (E : XK) (Z : Fm0), Room k (A.deeper (envOfC qual scope s.heap.objs.size f cdv)) → (A.deeper (envOfC qual scope s.heap.objs.size f cdv)).guards = some [] →
      DSs (cxOf (L2.CX P w) P w K mg base N qual scope f cdv A outer s H E) (Fm.of Z T) (fun cls d _ H' => E cls d H') body m)
    (math : ∀ args Q U, s args Q U → m (ends args Q U) (entry N.length args)) : Fd T P w K mg base (k + 1) f ps fd s := fn_DC F S mono hlen (fun cdv _ => hbody cdv) math
theorem Fd.le {j k : Nat} {f : Addr} {fd : FuncData} {ps : List Str} {s : SpD} (D : Fd T P w K mg base j f ps fd s) (h : j ≤ k) : Fd T P w K mg base k f ps fd s := ⟨D.ok.mono h, D.mono, D.kp⟩
end
end DL

namespace DL
open PyProof.Rows hiding St
open PySem PySem.Spec L2

def Fits (n : Nat) : Prop := n ≤ 16777216
theorem Fits.line {n : Nat} (h : Fits n) : n ≤ sizeLine := by
  rw [sizeLine_eq]
  exact h
/-! ### arithmetic -/
def oAdd : O2 := fun x y k => match x, y with
  | .int i, .int j => k (.int (i + j))
  | .str a, .str b => Fits (a.length + b.length) ∧ k (.str (a ++ b))
  | .lst a, .lst b => Fits (a.length + b.length) ∧ k (.lst (a ++ b))
  | .tup a, .tup b => Fits (a.length + b.length) ∧ k (.tup (a ++ b))
  | _, _ => False
abbrev rAddA (K : PySem.W.Frag) : R2 := fun x y H Q => rI0 (fun i j => .int (i + j)) x y H Q ∨ ((∃ i j, x = .str i ∧ y = .str j ∧ i.length + j.length ≤ sizeLine ∧ Q (.str (i ++ j)) H) ∨ (rCat x y H Q ∨ rCatA K x y H Q))
theorem opAddA {X : Cx} : OpR X (binaryOp .Add) (rAddA X.K) := OpR.or op_add (OpR.or op_add_str (OpR.or op_cat op_catA))
theorem str_app (a b : List Nat) : (⟨a.toArray⟩ : Str) ++ (⟨b.toArray⟩ : Str) = ⟨(a ++ b).toArray⟩ := by
  show (⟨a.toArray ++ b.toArray⟩ : Str) = _
  rw [List.append_toArray]
section
variable {K : PySem.W.Frag} {Z : Fm} {F H : Hp} {σ : St} {ρ : En}
theorem rt_lst (I : DI K Z F H σ ρ) {vs : List V} {ds : List Dt} {Q : VK} (r : Reps K F vs ds) (q : Rt1 K Z F σ ρ (.lst ds) Q) : ∀ p, H p = none → Q (.ref p) (upd H p (.lst vs)) := fun p np =>
  q _ _ _ (I.freshF np) (same_new (I.freeF np)) (.lst upd_same (r.mono (same_new (I.freeF np))))
theorem rt_tup (I : DI K Z F H σ ρ) {vs : List V} {ds : List Dt} {Q : VK} (r : Reps K F vs ds) (q : Rt1 K Z F σ ρ (.tup ds) Q) : ∀ p, H p = none → Q (.ref p) (upd H p (.tup vs)) := fun p np =>
  q _ _ _ (I.freshF np) (same_new (I.freeF np)) (.tup (SqT.of upd_same) (r.mono (same_new (I.freeF np))))
theorem rt_here (I : DI K Z F H σ ρ) {v : V} {d : Dt} {Q : VK} (r : Rep K F v d) (q : Rt1 K Z F σ ρ d Q) : Q v H := q v F H I (Same.refl F) r
end
theorem Reps.nil_iff {K : PySem.W.Frag} {F : Hp} {vs : List V} {ds : List Dt} (r : Reps K F vs ds) : vs = [] ↔ ds = [] := by
  have := r.length
  constructor
  · intro e
    subst e
    exact List.eq_nil_of_length_eq_zero this.symm
  · intro e
    subst e
    exact List.eq_nil_of_length_eq_zero this
theorem v_add {K : PySem.W.Frag} : V2 K (rAddA K) oAdd := fun Z F H σ ρ x y dx dy k Q I rx ry h q => by
  cases rx with
  | int i =>
    cases ry with
    | int j => exact .inl ⟨i, j, rfl, rfl, rt_here I (.int _) (q _ h)⟩
    | _ => exact h.elim
  | str a ha =>
    cases ry with
    | str b hb =>
      obtain ⟨hf, h⟩ := h
      refine .inr (.inl ⟨_, _, rfl, rfl, ?_, ?_⟩)
      · show a.toArray.size + b.toArray.size ≤ sizeLine
        simpa using hf.line
      · rw [str_app]
        exact rt_here I (.str _ (by rw [List.length_append]; exact hf.line)) (q _ h)
    | _ => exact h.elim
  | lst ha ra =>
    cases ry with
    | lst hb rb =>
      obtain ⟨hf, h⟩ := h
      refine .inr (.inr (.inl ⟨_, _, _, _, rfl, rfl, I.fh _ _ ha, I.fh _ _ hb, ?_, rt_lst I (ra.app rb) (q _ h)⟩))
      rw [ra.length, rb.length]
      exact hf.line
    | _ => exact h.elim
  | tup ha ra =>
    cases ry with
    | tup hb rb =>
      obtain ⟨hf, h⟩ := h
      refine .inr (.inr (.inr ⟨_, _, _, _, rfl, rfl, sameT I.fh ha, sameT I.fh hb, ?_, fun e => ?_, fun _ e => ?_, fun _ _ => rt_tup I (ra.app rb) (q _ h)⟩))
      · rw [ra.length, rb.length]
        exact hf.line
      · obtain rfl := ra.nil_iff.mp e
        exact rt_here I (.tup hb rb) (q _ h)
      · obtain rfl := rb.nil_iff.mp e
        rw [List.append_nil] at h
        exact rt_here I (.tup ha ra) (q _ h)
    | _ => exact h.elim
  | _ => cases ry <;> exact h.elim
def oSub : O2 := fun x y k => match x, y with
  | .int i, .int j => k (.int (i - j))
  | _, _ => False
theorem v_sub {K : PySem.W.Frag} : V2 K (rI0 fun i j => .int (i - j)) oSub := fun Z F H σ ρ x y dx dy k Q I rx ry h q => by
  cases rx with
  | int i =>
    cases ry with
    | int j => exact ⟨i, j, rfl, rfl, rt_here I (.int _) (q _ h)⟩
    | _ => exact h.elim
  | _ => cases ry <;> exact h.elim
/-- one factor below 2 ^ 64 -/
def oMul : O2 := fun x y k => match x, y with
  | .int i, .int j => CMul i j ∧ k (.int (i * j))
  | .lst a, .int j => (0 ≤ j ∧ j ≤ 1000 ∧ a.length ≤ 1000) ∧ k (.lst (List.replicate j.toNat a).flatten)
  | .tup a, .int j => (a ≠ [] ∧ 2 ≤ j ∧ j ≤ 1000 ∧ a.length ≤ 1000) ∧ k (.tup (List.replicate j.toNat a).flatten)
  | _, _ => False
abbrev rMulA (K : PySem.W.Frag) : R2 := fun x y H Q => rI CMul (fun i j => .int (i * j)) x y H Q ∨ (rRep x y H Q ∨ rRepT K x y H Q)
theorem opMulA {X : Cx} : OpR X (binaryOp .Mult) (rMulA X.K) := OpR.or op_mul (OpR.or op_rep op_repT)
theorem Reps.rep {K : PySem.W.Frag} {F : Hp} {vs : List V} {ds : List Dt} (r : Reps K F vs ds) : ∀ n : Nat, Reps K F (List.replicate n vs).flatten (List.replicate n ds).flatten
  | 0 => .nil
  | n + 1 => by
    rw [List.replicate_succ, List.replicate_succ, List.flatten_cons, List.flatten_cons]
    exact r.app (Reps.rep r n)
theorem v_mul {K : PySem.W.Frag} : V2 K (rMulA K) oMul := fun Z F H σ ρ x y dx dy k Q I rx ry h q => by
  cases rx with
  | int i =>
    cases ry with
    | int j => exact .inl ⟨i, j, rfl, rfl, h.1, rt_here I (.int _) (q _ h.2)⟩
    | _ => exact h.elim
  | lst ha ra =>
    cases ry with
    | int j =>
      obtain ⟨⟨h1, h2, h3⟩, h⟩ := h
      refine .inr (.inl ⟨_, j, _, rfl, rfl, I.fh _ _ ha, by omega, by omega, ?_, rt_lst I (ra.rep _) (q _ h)⟩)
      rw [ra.length, sizeLine_eq]
      have : j.toNat ≤ 1000 := by omega
      have := Nat.mul_le_mul h3 this
      omega
    | _ => exact h.elim
  | tup ha ra =>
    cases ry with
    | int j =>
      obtain ⟨⟨h0, h1, h2, h3⟩, h⟩ := h
      exact .inr (.inr ⟨_, j, _, rfl, rfl, sameT I.fh ha, fun e => h0 (ra.nil_iff.mp e), h1, h2, by rw [ra.length]; exact h3, rt_tup I (ra.rep _) (q _ h)⟩)
    | _ => exact h.elim
  | _ => cases ry <;> exact h.elim
def oDiv : O2 := fun x y k => match x, y with
  | .int i, .int j => (0 < j ∧ j < 1073741824) ∧ k (.int (i / j))
  | _, _ => False
def oMod : O2 := fun x y k => match x, y with
  | .int i, .int j => 0 < j ∧ k (.int (i % j))
  | _, _ => False
theorem v_mod {K : PySem.W.Frag} : V2 K (rI (fun _ j => 0 < j) fun i j => .int (i % j)) oMod := fun Z F H σ ρ x y dx dy k Q I rx ry h q => by
  cases rx with
  | int i =>
    cases ry with
    | int j => exact ⟨i, j, rfl, rfl, h.1, rt_here I (.int _) (q _ h.2)⟩
    | _ => exact h.elim
  | _ => cases ry <;> exact h.elim
def oPow : O2 := fun x y k => match x, y with
  | .int i, .int j => CPow i j ∧ k (.int (i ^ j.toNat))
  | _, _ => False
theorem v_pow {K : PySem.W.Frag} : V2 K (rI CPow fun i j => .int (i ^ j.toNat)) oPow := fun Z F H σ ρ x y dx dy k Q I rx ry h q => by
  cases rx with
  | int i =>
    cases ry with
    | int j => exact ⟨i, j, rfl, rfl, h.1, rt_here I (.int _) (q _ h.2)⟩
    | _ => exact h.elim
  | _ => cases ry <;> exact h.elim
def oNeg : O1 := fun x k => match x with
  | .int i => k (.int (-i))
  | _ => False
theorem v_neg {K : PySem.W.Frag} : V1 K (rU fun i => .int (-i)) oNeg := fun Z F H σ ρ x dx k Q I rx h q => by
  cases rx with
  | int i => exact ⟨i, rfl, rt_here I (.int _) (q _ h)⟩
  | _ => exact h.elim

/-! ### order -/
def oCmp (p : Int → Int → Bool) (s : List Nat → List Nat → Bool) : O2 := fun x y k => match x, y with
  | .int i, .int j => k (.bl (p i j))
  | .str a, .str b => k (.bl (s a b))
  | _, _ => False
theorem v_cmp {K : PySem.W.Frag} {p : Int → Int → Bool} {s : List Nat → List Nat → Bool} : V2 K (fun x y H Q => rI0 (fun i j => .bl (p i j)) x y H Q ∨ ∃ i j, x = .str i ∧ y = .str j ∧ Q (.bl (s i.cps.toList j.cps.toList)) H) (oCmp p s) := fun Z F H σ ρ x y dx dy k Q I rx ry h q => by
  cases rx with
  | int i =>
    cases ry with
    | int j => exact .inl ⟨i, j, rfl, rfl, rt_here I (.bl _) (q _ h)⟩
    | _ => exact h.elim
  | str a ha =>
    cases ry with
    | str b hb => exact .inr ⟨_, _, rfl, rfl, rt_here I (.bl _) (q _ h)⟩
    | _ => exact h.elim
  | _ => cases ry <;> exact h.elim
abbrev oLt : O2 := oCmp (fun i j => decide (i < j)) (fun a b => decide (a < b))
abbrev oLe : O2 := oCmp (fun i j => decide (i ≤ j)) (fun a b => !decide (b < a))
abbrev oGt : O2 := oCmp (fun i j => decide (j < i)) (fun a b => decide (b < a))
abbrev oGe : O2 := oCmp (fun i j => decide (j ≤ i)) (fun a b => !decide (a < b))
section
variable {X : Cx}
theorem opLt : OpR X (compareOp .Lt) (fun x y H Q => rI0 (fun i j => .bl (decide (i < j))) x y H Q ∨ ∃ i j, x = .str i ∧ y = .str j ∧ Q (.bl (decide (i.cps.toList < j.cps.toList))) H) := OpR.or op_lt op_lt_str
theorem opLe : OpR X (compareOp .LtE) (fun x y H Q => rI0 (fun i j => .bl (decide (i ≤ j))) x y H Q ∨ ∃ i j, x = .str i ∧ y = .str j ∧ Q (.bl (!decide (j.cps.toList < i.cps.toList))) H) := OpR.or op_le op_le_str
theorem opGt : OpR X (compareOp .Gt) (fun x y H Q => rI0 (fun i j => .bl (decide (j < i))) x y H Q ∨ ∃ i j, x = .str i ∧ y = .str j ∧ Q (.bl (decide (j.cps.toList < i.cps.toList))) H) := OpR.or op_gt op_gt_str
theorem opGe : OpR X (compareOp .GtE) (fun x y H Q => rI0 (fun i j => .bl (decide (j ≤ i))) x y H Q ∨ ∃ i j, x = .str i ∧ y = .str j ∧ Q (.bl (!decide (i.cps.toList < j.cps.toList))) H) := OpR.or op_ge op_ge_str
end

/-! ### == of data -/
mutual
def eqD : Dt → Dt → Bool
  | .non, .non => true
  | .bl a, .bl b => a == b
  | .bl a, .int j => (if a then 1 else 0) == j
  | .int i, .bl b => i == (if b then 1 else 0)
  | .int i, .int j => i == j
  | .str x, .str y => x == y
  | .lst xs, .lst ys => eqDs xs ys
  | .tup xs, .tup ys => eqDs xs ys
  | _, _ => false
def eqDs : List Dt → List Dt → Bool
  | [], [] => true
  | x :: xs, y :: ys => eqD x y && eqDs xs ys
  | _, _ => false
end
mutual
def toPy : Dt → PyData
  | .non => .none
  | .bl b => .bool b
  | .int i => .int i
  | .str x => .str ⟨x.toArray⟩
  | .lst xs => .list (toPys xs)
  | .tup xs => .tuple (toPys xs)
  | _ => .none
def toPys : List Dt → List PyData
  | [] => []
  | x :: xs => toPy x :: toPys xs
end
/-- plain data, at most so deep -/
def Sh : Nat → Dt → Prop
  | _, .non => True
  | _, .bl _ => True
  | _, .int _ => True
  | _, .str _ => True
  | n + 1, .tup xs => ∀ x ∈ xs, Sh n x
  | n + 1, .lst xs => ∀ x ∈ xs, Sh n x
  | _, _ => False
theorem toPys_map : ∀ xs : List Dt, toPys xs = xs.map toPy
  | [] => by rw [toPys]; rfl
  | x :: xs => by rw [toPys, toPys_map xs]; rfl
theorem Dp.of {K : PySem.W.Frag} {F H : Hp} (s : Same F H) : ∀ (n : Nat) {v : V} {d : Dt}, Rep K F v d → Sh n d → L2.Dp K H v (toPy d) := by
  intro n
  induction n with
  | zero =>
    intro v d r h
    cases r with
    | non => rw [toPy]; exact .non
    | bl b => rw [toPy]; exact .bl b
    | int i => rw [toPy]; exact .int i
    | str l _ => rw [toPy]; exact .str _
    | tup _ _ => exact h.elim
    | lst _ _ => exact h.elim
    | scr _ _ => exact h.elim
    | dct _ _ => exact h.elim
    | ins _ _ => exact h.elim
  | succ n ih =>
    have all : ∀ {vs : List V} {ds : List Dt}, Reps K F vs ds → (∀ x ∈ ds, Sh n x) → L2.DpAll K H vs (toPys ds) := by
      intro vs ds
      induction ds generalizing vs with
      | nil => intro r _; cases r; rw [toPys]; exact .nil
      | cons d ds ihd =>
        intro r h
        cases r with
        | cons r1 r2 =>
          rw [toPys]
          exact .cons (ih r1 (h d List.mem_cons_self)) (ihd r2 fun x hx => h x (List.mem_cons_of_mem _ hx))
    intro v d r h
    cases r with
    | non => rw [toPy]; exact .non
    | bl b => rw [toPy]; exact .bl b
    | int i => rw [toPy]; exact .int i
    | str l _ => rw [toPy]; exact .str _
    | tup hh r => rw [toPy]; exact .tup (sameT s hh) (all r h)
    | lst hh r => rw [toPy]; exact .lst (SqL.of (s _ _ hh)) (all r h)
    | scr _ _ => exact h.elim
    | dct _ _ => exact h.elim
    | ins _ _ => exact h.elim
theorem plains_iff : ∀ xs : List PyData, PyData.plainAll xs = true ↔ ∀ x ∈ xs, x.plain = true
  | [] => by simp [PyData.plainAll]
  | x :: xs => by
    simp only [PyData.plainAll, Bool.and_eq_true, plains_iff xs, List.mem_cons, forall_eq_or_imp]
theorem depths_le : ∀ (xs : List PyData) (n : Nat), (∀ x ∈ xs, x.depth ≤ n) → PyData.depthAll xs ≤ n
  | [], n, _ => by simp [PyData.depthAll]
  | x :: xs, n, h => by
    rw [PyData.depthAll]
    exact Nat.max_le.mpr ⟨h x List.mem_cons_self, depths_le xs n fun y hy => h y (List.mem_cons_of_mem _ hy)⟩
theorem plain_of : ∀ (n : Nat) {d : Dt}, Sh n d → (toPy d).plain = true ∧ (toPy d).depth ≤ n := by
  intro n
  induction n with
  | zero =>
    intro d h
    cases d with
    | tup _ => exact h.elim
    | lst _ => exact h.elim
    | scr _ => exact h.elim
    | dct _ => exact h.elim
    | ins _ _ => exact h.elim
    | _ => rw [toPy]; exact ⟨rfl, by simp [PyData.depth]⟩
  | succ n ih =>
    intro d h
    cases d with
    | tup xs =>
      rw [toPy]
      refine ⟨?_, ?_⟩
      · rw [PyData.plain, plains_iff, toPys_map]
        intro x hx
        obtain ⟨y, hy, rfl⟩ := List.mem_map.mp hx
        exact (ih (h y hy)).1
      · rw [PyData.depth, toPys_map]
        have := depths_le (xs.map toPy) n fun x hx => by
          obtain ⟨y, hy, rfl⟩ := List.mem_map.mp hx
          exact (ih (h y hy)).2
        omega
    | lst xs =>
      rw [toPy]
      refine ⟨?_, ?_⟩
      · rw [PyData.plain, plains_iff, toPys_map]
        intro x hx
        obtain ⟨y, hy, rfl⟩ := List.mem_map.mp hx
        exact (ih (h y hy)).1
      · rw [PyData.depth, toPys_map]
        have := depths_le (xs.map toPy) n fun x hx => by
          obtain ⟨y, hy, rfl⟩ := List.mem_map.mp hx
          exact (ih (h y hy)).2
        omega
    | scr _ => exact h.elim
    | dct _ => exact h.elim
    | ins _ _ => exact h.elim
    | _ => rw [toPy]; exact ⟨rfl, by simp [PyData.depth]⟩
theorem eqv_str (x y : List Nat) : ((⟨x.toArray⟩ : Str) == (⟨y.toArray⟩ : Str)) = (x == y) := by
  by_cases h : x = y
  · subst h
    simp
  · have : ¬ (⟨x.toArray⟩ : Str) = ⟨y.toArray⟩ := fun e => h (by simpa using congrArg (fun s => s.cps.toList) e)
    rw [beq_eq_false_iff_ne.mpr this, beq_eq_false_iff_ne.mpr h]
theorem eqv_eqD : ∀ (n : Nat) {x y : Dt}, Sh n x → (∃ m, Sh m y) → PyData.eqv (toPy x) (toPy y) = eqD x y := by
  intro n
  induction n with
  | zero =>
    intro x y hx ⟨m, hy⟩
    cases x <;> first | exact hx.elim | (cases y <;> first | (cases m <;> exact hy.elim) | simp [toPy, PyData.eqv, eqD, eqv_str])
  | succ n ih =>
    have all : ∀ (xs ys : List Dt), (∀ x ∈ xs, Sh n x) → (∃ m, ∀ y ∈ ys, Sh m y) → PyData.eqvAll (toPys xs) (toPys ys) = eqDs xs ys := by
      intro xs
      induction xs with
      | nil => intro ys _ _; cases ys <;> simp [toPys, PyData.eqvAll, eqDs]
      | cons x xs ihx =>
        intro ys h ⟨m, hm⟩
        cases ys with
        | nil => simp [toPys, PyData.eqvAll, eqDs]
        | cons y ys =>
          rw [toPys, toPys, PyData.eqvAll, eqDs, ih (h x List.mem_cons_self) ⟨m, hm y List.mem_cons_self⟩, ihx ys (fun z hz => h z (List.mem_cons_of_mem _ hz)) ⟨m, fun z hz => hm z (List.mem_cons_of_mem _ hz)⟩]
    intro x y hx ⟨m, hy⟩
    cases x with
    | tup xs =>
      cases y with
      | tup ys =>
        cases m with
        | zero => exact hy.elim
        | succ m => rw [toPy, toPy, PyData.eqv, eqD, all xs ys hx ⟨m, hy⟩]
      | scr _ => cases m <;> exact hy.elim
      | dct _ => cases m <;> exact hy.elim
      | ins _ _ => cases m <;> exact hy.elim
      | _ => simp [toPy, PyData.eqv, eqD]
    | lst xs =>
      cases y with
      | lst ys =>
        cases m with
        | zero => exact hy.elim
        | succ m => rw [toPy, toPy, PyData.eqv, eqD, all xs ys hx ⟨m, hy⟩]
      | scr _ => cases m <;> exact hy.elim
      | dct _ => cases m <;> exact hy.elim
      | ins _ _ => cases m <;> exact hy.elim
      | _ => simp [toPy, PyData.eqv, eqD]
    | scr _ => exact hx.elim
    | dct _ => exact hx.elim
    | ins _ _ => exact hx.elim
    | _ => cases y <;> first | (cases m <;> exact hy.elim) | simp [toPy, PyData.eqv, eqD, eqv_str]
def oEq : O2 := fun x y k => Sh 8 x ∧ Sh 8 y ∧ k (.bl (eqD x y))
def oNe : O2 := fun x y k => Sh 8 x ∧ Sh 8 y ∧ k (.bl (!eqD x y))
def rEqP (K : PySem.W.Frag) : R2 := fun x y H Q => ∃ d e, L2.Dp K H x d ∧ L2.Dp K H y e ∧ d.plain = true ∧ e.plain = true ∧ d.depth ≤ 8 ∧ Q (.bl (PyData.eqv d e)) H
def rNeP (K : PySem.W.Frag) : R2 := fun x y H Q => ∃ d e, L2.Dp K H x d ∧ L2.Dp K H y e ∧ d.plain = true ∧ e.plain = true ∧ d.depth ≤ 8 ∧ Q (.bl (!PyData.eqv d e)) H
def rInP (K : PySem.W.Frag) (neg : Bool) : R2 := fun x y H Q => ∃ d es, L2.Dp K H x d ∧ (L2.Dp K H y (.list es) ∨ L2.Dp K H y (.tuple es)) ∧ d.plain = true ∧ PyData.plainAll es = true ∧ d.depth ≤ 8 ∧ Q (.bl (xor neg (es.any fun z => PyData.eqv z d))) H
section
variable {X : Cx}
theorem opEqP (hu : X.A.units + 64 < cLine) : OpR X (compareOp .Eq) (rEqP X.K) := by
  intro pins s σ H x y v u Q I rx ry h
  obtain ⟨d, e, hd, he, sd, se, dd, q⟩ := h
  obtain ⟨as, r1⟩ := Dp.reads I d x v hd rx
  obtain ⟨bs, r2⟩ := Dp.reads I e y u he ry
  exact SeqAt.eq_plain r1 r2 sd se (by omega) ⟨.bl _, H, I, rfl, q⟩
theorem opNeP (hu : X.A.units + 64 < cLine) : OpR X (compareOp .NotEq) (rNeP X.K) := by
  intro pins s σ H x y v u Q I rx ry h
  obtain ⟨d, e, hd, he, sd, se, dd, q⟩ := h
  obtain ⟨as, r1⟩ := Dp.reads I d x v hd rx
  obtain ⟨bs, r2⟩ := Dp.reads I e y u he ry
  exact SeqAt.ne_plain r1 r2 sd se (by omega) ⟨.bl _, H, I, rfl, q⟩
theorem opInP (hu : X.A.units + 64 < cLine) : OpR X (compareOp .In) (rInP X.K false) := by
  intro pins s σ H x y v u Q I rx ry h
  obtain ⟨d, es, hd, he, sd, se, dd, q⟩ := h
  obtain ⟨as, r1⟩ := Dp.reads I d x v hd rx
  rw [Bool.false_xor] at q
  rcases he with he | he
  · obtain ⟨bs, r2⟩ := Dp.reads I _ y u he ry
    exact SeqAt.in_list_data r2 r1 se sd (by omega) ⟨.bl _, H, I, rfl, q⟩
  · obtain ⟨bs, r2⟩ := Dp.reads I _ y u he ry
    exact SeqAt.in_tuple_data r2 r1 se sd (by omega) ⟨.bl _, H, I, rfl, q⟩
theorem opNotInP (hu : X.A.units + 64 < cLine) : OpR X (compareOp .NotIn) (rInP X.K true) := by
  intro pins s σ H x y v u Q I rx ry h
  obtain ⟨d, es, hd, he, sd, se, dd, q⟩ := h
  obtain ⟨as, r1⟩ := Dp.reads I d x v hd rx
  rw [Bool.true_xor] at q
  rcases he with he | he
  · obtain ⟨bs, r2⟩ := Dp.reads I _ y u he ry
    exact SeqAt.notIn_list_data r2 r1 se sd (by omega) ⟨.bl _, H, I, rfl, q⟩
  · obtain ⟨bs, r2⟩ := Dp.reads I _ y u he ry
    exact SeqAt.notIn_tuple_data r2 r1 se sd (by omega) ⟨.bl _, H, I, rfl, q⟩
end
theorem v_eq {K : PySem.W.Frag} : V2 K (rEqP K) oEq := fun Z F H σ ρ x y dx dy k Q I rx ry ⟨h1, h2, h⟩ q => by
  refine ⟨toPy dx, toPy dy, Dp.of I.fh 8 rx h1, Dp.of I.fh 8 ry h2, (plain_of 8 h1).1, (plain_of 8 h2).1, (plain_of 8 h1).2, ?_⟩
  rw [eqv_eqD 8 h1 ⟨8, h2⟩]
  exact rt_here I (.bl _) (q _ h)
theorem v_ne {K : PySem.W.Frag} : V2 K (rNeP K) oNe := fun Z F H σ ρ x y dx dy k Q I rx ry ⟨h1, h2, h⟩ q => by
  refine ⟨toPy dx, toPy dy, Dp.of I.fh 8 rx h1, Dp.of I.fh 8 ry h2, (plain_of 8 h1).1, (plain_of 8 h2).1, (plain_of 8 h1).2, ?_⟩
  rw [eqv_eqD 8 h1 ⟨8, h2⟩]
  exact rt_here I (.bl _) (q _ h)
/-! in, not in: a list, a tuple, a text -/
def oIn (neg : Bool) : O2 := fun x y k => match y with
  | .lst ys => Sh 8 x ∧ (∀ y ∈ ys, Sh 7 y) ∧ k (.bl (xor neg (ys.any fun z => eqD z x)))
  | .tup ys => Sh 8 x ∧ (∀ y ∈ ys, Sh 7 y) ∧ k (.bl (xor neg (ys.any fun z => eqD z x)))
  | .str b => (match x with
    | .str [c] => k (.bl (xor neg (decide (c ∈ b))))
    | _ => False)
  | _ => False
abbrev rInA (K : PySem.W.Frag) (neg : Bool) : R2 := fun x y H Q => rInP K neg x y H Q ∨ ∃ (c : Nat) (z : Str), x = .str ⟨#[c]⟩ ∧ y = .str z ∧ Q (.bl (xor neg (decide (c ∈ z.cps.toList)))) H
theorem opInA {X : Cx} (hu : X.A.units + 64 < cLine) : OpR X (compareOp .In) (rInA X.K false) := OpR.or (opInP hu) fun pins s σ H x y v u Q I rx ry ⟨c, z, e1, e2, h⟩ => op_in_sign pins s σ H x y v u Q I rx ry ⟨c, z, e1, e2, by rw [Bool.false_xor] at h; exact h⟩
theorem opNotInA {X : Cx} (hu : X.A.units + 64 < cLine) : OpR X (compareOp .NotIn) (rInA X.K true) := OpR.or (opNotInP hu) fun pins s σ H x y v u Q I rx ry ⟨c, z, e1, e2, h⟩ => op_notIn_sign pins s σ H x y v u Q I rx ry ⟨c, z, e1, e2, by rw [Bool.true_xor] at h; exact h⟩
theorem any_eqv {x : Dt} (hx : Sh 8 x) : ∀ {ys : List Dt}, (∀ y ∈ ys, Sh 7 y) → (toPys ys).any (fun z => PyData.eqv z (toPy x)) = ys.any fun z => eqD z x
  | [], _ => rfl
  | y :: ys, h => by
    rw [toPys, List.any_cons, List.any_cons, eqv_eqD 7 (h y List.mem_cons_self) ⟨8, hx⟩, any_eqv hx fun z hz => h z (List.mem_cons_of_mem _ hz)]
theorem v_in {K : PySem.W.Frag} {neg : Bool} : V2 K (rInA K neg) (oIn neg) := fun Z F H σ ρ x y dx dy k Q I rx ry h q => by
  cases ry with
  | lst hh r =>
    obtain ⟨h1, h2, h⟩ := h
    have hs : Sh 8 (.lst _) := h2
    have hp := (plain_of 8 hs).1
    rw [toPy, PyData.plain] at hp
    have hd := Dp.of I.fh 8 (.lst hh r) hs
    rw [toPy] at hd
    refine .inl ⟨toPy dx, _, Dp.of I.fh 8 rx h1, .inl hd, (plain_of 8 h1).1, hp, (plain_of 8 h1).2, ?_⟩
    rw [any_eqv h1 h2]
    exact rt_here I (.bl _) (q _ h)
  | tup hh r =>
    obtain ⟨h1, h2, h⟩ := h
    have hs : Sh 8 (.tup _) := h2
    have hp := (plain_of 8 hs).1
    rw [toPy, PyData.plain] at hp
    have hd := Dp.of I.fh 8 (.tup hh r) hs
    rw [toPy] at hd
    refine .inl ⟨toPy dx, _, Dp.of I.fh 8 rx h1, .inr hd, (plain_of 8 h1).1, hp, (plain_of 8 h1).2, ?_⟩
    rw [any_eqv h1 h2]
    exact rt_here I (.bl _) (q _ h)
  | str b hb =>
    cases rx with
    | str a ha =>
      cases a with
      | nil => exact h.elim
      | cons c r =>
        cases r with
        | cons _ _ => exact h.elim
        | nil => exact .inr ⟨c, _, rfl, rfl, rt_here I (.bl _) (q _ h)⟩
    | _ => exact h.elim
  | _ => exact h.elim
/-! is None -/
def isN : Dt → Bool
  | .non => true
  | _ => false
def oIsN : O2 := fun x y k => match y with
  | .non => k (.bl (isN x))
  | _ => False
def oNotN : O2 := fun x y k => match y with
  | .non => k (.bl (!isN x))
  | _ => False
end DL

namespace DL
open PyProof.Rows hiding St
open PySem PySem.Spec L2

theorem str_len (l : List Nat) : (⟨l.toArray⟩ : Str).length = l.length := List.size_toArray
theorem str_leL {l : List Nat} (h : l.length ≤ sizeLine) : (⟨l.toArray⟩ : Str).length ≤ sizeLine := by rw [str_len]; exact h
theorem kilo_line {n : Nat} (h : n ≤ 1000) : n ≤ sizeLine := by rw [sizeLine_eq]; omega
def opt {α : Type} (o : Option α) (k : α → Prop) : Prop := match o with
  | some x => k x
  | none => False
theorem opt_get {α : Type} {o : Option α} {k : α → Prop} (h : opt o k) : ∃ x, o = some x ∧ k x := by
  cases o with
  | none => exact h.elim
  | some x => exact ⟨x, rfl, h⟩
def itemsD : Dt → Option (List Dt)
  | .lst ds => some ds
  | .tup ds => some ds
  | .scr ds => some ds
  | _ => none
section
variable {K : PySem.W.Frag} {Z : Fm} {F H : Hp} {σ : St} {ρ : En}
theorem Reps.atI {vs : List V} {ds : List Dt} {i : Int} {d : Dt} (r : Reps K F vs ds) (e : atI ds i = some d) : ∃ v, atI vs i = some v ∧ Rep K F v d := by
  unfold L2.atI at e ⊢
  rw [r.length]
  cases q : ixN ds.length i with
  | none => rw [q] at e; cases e
  | some j =>
    rw [q] at e
    exact r.get e
theorem items_sq (I : DI K Z F H σ ρ) {v : V} {d : Dt} {ds : List Dt} (r : Rep K F v d) (e : itemsD d = some ds) : ∃ a vs, v = .ref a ∧ (SqL K H a vs ∨ SqT K H a vs) ∧ Reps K F vs ds := by
  cases r with
  | lst h r =>
    obtain rfl := Option.some.inj e
    exact ⟨_, _, rfl, .inl (SqL.of (I.fh _ _ h)), r⟩
  | scr h r =>
    obtain rfl := Option.some.inj e
    exact ⟨_, _, rfl, .inl (I.fh.seq h), r⟩
  | tup h r =>
    obtain rfl := Option.some.inj e
    exact ⟨_, _, rfl, .inr (sameT I.fh h), r⟩
  | _ => cases e
end
/-! ### x[i] -/
def oIx : O2 := fun x y k => match y with
  | .int i => (match x with
    | .str l => opt (L2.atI l i) fun c => k (.str [c])
    | x => opt (itemsD x) fun ds => opt (L2.atI ds i) k)
  | _ => False
theorem v_ix {K : PySem.W.Frag} : V2 K (rIx K) oIx := fun Z F H σ ρ x y dx dy k Q I rx ry h q => by
  cases ry with
  | int i =>
    have gen : (opt (itemsD dx) fun ds => opt (L2.atI ds i) k) → rIx K x (.int i) H Q := fun h => by
      obtain ⟨ds, e, h⟩ := opt_get h
      obtain ⟨d, e2, h⟩ := opt_get h
      obtain ⟨a, vs, rfl, s, r⟩ := items_sq I rx e
      obtain ⟨v, e3, rv⟩ := r.atI e2
      rcases s with s | s
      · exact .inl ⟨a, vs, i, v, rfl, rfl, s, e3, rt_here I rv (q _ h)⟩
      · exact .inr (.inl ⟨a, vs, i, v, rfl, rfl, s, e3, rt_here I rv (q _ h)⟩)
    cases rx with
    | str l hl =>
      obtain ⟨c, e, h⟩ := opt_get h
      exact .inr (.inr ⟨_, i, c, rfl, rfl, str_leL hl, e, rt_here I (.str [c] (kilo_line (show 1 ≤ 1000 by decide))) (q _ h)⟩)
    | non => exact gen h
    | bl _ => exact gen h
    | int _ => exact gen h
    | tup a b => exact gen h
    | lst a b => exact gen h
    | scr a b => exact gen h
    | dct a b => exact gen h
    | ins a b => exact gen h
  | _ => exact h.elim
section
variable {X : Cx} {Z : Fm} {W : WX} {e a b c : Expr} {ma mb mc : DT} {pos : Pos}
theorem d_index (ha : DE X Z W a ma) (hb : DE X Z W b mb) (hs : PlainIx b := by exact fun _ _ => rfl) : DE X Z W (.Subscript a b pos) (dBin oIx ma mb) := d_ix ix_seq v_ix ha hb hs
/-! what an own object is asked: x stands in the slot i -/
/-- op(x, y), x own -/
def dOwn2 (i : Nat) (f : MO → Dt → (Dt → Prop) → Prop) (b : DT) : DT := fun ρ R U => match ρ[i]? with
  | some (.own _ _ _) => b ρ (fun y ρ2 => match ρ2[i]? with
    | some (.own _ _ o) => f o y (fun z => R z ρ2)
    | _ => False) U
  | _ => False
def VO2 (K : PySem.W.Frag) (r : R2) (f : MO → Dt → (Dt → Prop) → Prop) : Prop := ∀ (Z : Fm) (F H : Hp) (σ : St) (ρ : En) (p : Addr) (ho : HO) (y : V) (o : MO) (dy : Dt) (k : Dt → Prop) (Q : VK), DI K Z F H σ ρ → H p = some ho → RepO K F ho o → Rep K F y dy → f o dy k → (∀ dz, k dz → Rt1 K Z F σ ρ dz Q) → r (.ref p) y H Q
theorem own2_in {r : R2} {f : MO → Dt → (Dt → Prop) → Prop} {i : Nat} (hv : VO2 X.K r f) (σ : St) (H : Hp) (Q : VK) (h : tE X.K Z W (dOwn2 i f mb) σ H Q) : tOp r (tVar i) (tE X.K Z W mb) σ H Q := by
  obtain ⟨F, ρ, R, U, I, hm, q, u⟩ := h
  unfold dOwn2 at hm
  split at hm
  · rename_i b p o e
    obtain ⟨e1, _⟩ := I.slotO e
    refine ⟨_, e1, F, ρ, _, U, I, hm, fun y ρ2 w F2 H2 I2 s2 r2 h2 => ?_, u⟩
    try dsimp only at h2
    split at h2
    · rename_i b2 p2 o2 e2
      obtain ⟨e3, _, ho, hh, ro⟩ := I2.slotO e2
      rw [e1] at e3
      obtain rfl : p = p2 := by injection e3 with e3; injection e3 with e3; injection e3
      exact hv Z F2 H2 σ ρ2 p ho w o2 y _ Q I2 hh ro r2 h2 fun z hz v' F' H' I' s' r' => q z ρ2 v' F' H' I' (s2.trans s') r' hz
    · exact h2.elim
  · exact hm.elim
/-- op(x), x own -/
def dOwn1 (i : Nat) (f : MO → (Dt → Prop) → Prop) : DT := fun ρ R _ => match ρ[i]? with
  | some (.own _ _ o) => f o (fun z => R z ρ)
  | _ => False
def VO1 (K : PySem.W.Frag) (r : V → Hp → VK → Prop) (f : MO → (Dt → Prop) → Prop) : Prop := ∀ (Z : Fm) (F H : Hp) (σ : St) (ρ : En) (p : Addr) (ho : HO) (o : MO) (k : Dt → Prop) (Q : VK), DI K Z F H σ ρ → H p = some ho → RepO K F ho o → f o k → (∀ dz, k dz → Rt1 K Z F σ ρ dz Q) → r (.ref p) H Q
theorem own1_in {r : V → Hp → VK → Prop} {f : MO → (Dt → Prop) → Prop} {i : Nat} (hv : VO1 X.K r f) (σ : St) (H : Hp) (Q : VK) (h : tE X.K Z W (dOwn1 i f) σ H Q) : tVar i σ H (fun x H1 => r x H1 Q) := by
  obtain ⟨F, ρ, R, U, I, hm, q, u⟩ := h
  unfold dOwn1 at hm
  split at hm
  · rename_i b p o e
    obtain ⟨e1, _, ho, hh, ro⟩ := I.slotO e
    exact ⟨_, e1, hv Z F H σ ρ p ho o _ Q I hh ro hm fun z hz v' F' H' I' s' r' => q z ρ v' F' H' I' s' r' hz⟩
  · exact hm.elim
def fIx (o : MO) (y : Dt) (k : Dt → Prop) : Prop := match o, y with
  | .lst ds, .int i => opt (L2.atI ds i) k
  | _, _ => False
theorem vo_ix {K : PySem.W.Frag} : VO2 K (rIx K) fIx := fun Z F H σ ρ p ho y o dy k Q I hh ro ry h q => by
  cases ro with
  | lst r =>
    cases ry with
    | int i =>
      obtain ⟨d, e2, h⟩ := opt_get h
      obtain ⟨v, e3, rv⟩ := r.atI e2
      exact .inl ⟨p, _, i, v, rfl, rfl, SqL.of hh, e3, rt_here I rv (q _ h)⟩
    | _ => exact h.elim
  | _ => cases ry <;> exact h.elim
abbrev dIxO (i : Nat) (b : DT) : DT := dOwn2 i fIx b
theorem d_indexO (i : Nat) {x : Str} {pos' : Pos} (hb : DE X Z W b mb) (hN : X.N[i]? = some x := by rfl) (hv : Vis X.env.scope x := by first | exact Or.inl rfl | exact Or.inr (Or.inl rfl) | exact Or.inr (Or.inr rfl)) (hd : (x == ("__debug__" : Str)) = false := by decide)
    (hcd : (x == ("__classdict__" : Str)) = false := by decide) (hs : PlainIx b := by exact fun _ _ => rfl) : DE X Z W (.Subscript (.Name x pos') b pos) (dIxO i mb) :=
  PE.imp (pe_ix ix_seq (pe_var hN hv hd hcd) hb hs) (own2_in vo_ix)

/-! ### slices -/
abbrev DP := En → (Option Int → En → Prop) → XP → Prop
def tP (K : PySem.W.Frag) (Z : Fm) (W : WX) (m : DP) : TO := fun σ H Q => ∃ F ρ R U, DI K Z F H σ ρ ∧ m ρ R U ∧ (∀ o ρ' F' H', DI K Z F' H' σ ρ' → Same F F' → R o ρ' → Q o H') ∧ PX K Z W F σ U
def DPt (X : Cx) (Z : Fm) (W : WX) (e : Option Expr) (m : DP) : Prop := PO X e (tP X.K Z W m)
def pNo : DP := fun ρ R _ => R none ρ
def pSo (a : DT) : DP := fun ρ R U => a ρ (fun x ρ1 => match x with
  | .int i => R (some i) ρ1
  | _ => False) U
theorem p_no : DPt X Z W none pNo := ⟨fun pins s σ H Q I ⟨F, ρ, R, U, Id, hm, q, u⟩ => po_none.run pins s σ H Q I (q none ρ F H Id (Same.refl F) hm)⟩
theorem p_so (ha : DE X Z W a ma) : DPt X Z W (some a) (pSo ma) := ⟨fun pins s σ H Q I ⟨F, ρ, R, U, Id, hm, q, u⟩ => (po_some ha).run pins s σ H Q I
  ⟨F, ρ, _, U, Id, hm, fun x ρ1 v F1 H1 I1 s1 r1 h1 => by
    cases r1 with
    | int i => exact ⟨i, rfl, q _ ρ1 F1 H1 I1 s1 h1⟩
    | _ => exact h1.elim, u⟩⟩
def cutD {α : Type} (xs : List α) (lo hi : Option Int) : List α := (xs.drop (HT.sIx xs.length 0 lo)).take (HT.sIx xs.length xs.length hi - HT.sIx xs.length 0 lo)
def oSl (lo hi : Option Int) : O1 := fun x k => match x with
  | .str l => k (.str (cutD l lo hi))
  | .tup l => k (.tup (cutD l lo hi))
  | .lst l => k (.lst (cutD l lo hi))
  | .scr l => k (.lst (cutD l lo hi))
  | _ => False
theorem Reps.cut {K : PySem.W.Frag} {F : Hp} {vs : List V} {ds : List Dt} (r : Reps K F vs ds) (lo hi : Option Int) : Reps K F (cutV vs lo hi) (cutD ds lo hi) := by
  unfold cutV cutD
  rw [r.length]
  exact (r.drop _).take _
theorem cut_len {α : Type} (xs : List α) (lo hi : Option Int) : (cutD xs lo hi).length ≤ xs.length := by
  unfold cutD
  rw [List.length_take, List.length_drop]
  omega
abbrev rSlX (K : PySem.W.Frag) : V → Option Int → Option Int → Hp → VK → Prop := fun x lo hi H Q => rSlL K x lo hi H Q ∨ (rSlA K x lo hi H Q ∨ rSlS x lo hi H Q)
theorem slX : L2.SlR X (rSlX X.K) := SlR.or sl_list (SlR.or sl_tupA sl_str)
theorem v_sl {K : PySem.W.Frag} {lo hi : Option Int} : V1 K (fun x H Q => rSlX K x lo hi H Q) (oSl lo hi) := fun Z F H σ ρ x dx k Q I rx h q => by
  cases rx with
  | str l hl =>
    refine .inr (.inr ⟨_, rfl, str_leL hl, ?_⟩)
    have e : cutS (⟨l.toArray⟩ : Str) lo hi = ⟨(cutD l lo hi).toArray⟩ := by
      unfold cutS cutD
      rfl
    rw [e]
    exact rt_here I (.str _ (Nat.le_trans (cut_len l lo hi) hl)) (q _ h)
  | lst hh r => exact .inl ⟨_, _, rfl, SqL.of (I.fh _ _ hh), rt_lst I (r.cut lo hi) (q _ h)⟩
  | scr hh r => exact .inl ⟨_, _, rfl, I.fh.seq hh, rt_lst I (r.cut lo hi) (q _ h)⟩
  | tup hh r =>
    refine .inr (.inl ⟨_, _, rfl, sameT I.fh hh, fun e => ?_, fun _ => rt_tup I (r.cut lo hi) (q _ h)⟩)
    rename_i a vs ds
    have e2 : cutD ds lo hi = ds := by
      unfold cutD
      rw [r.length] at e
      rw [e.1, e.2, List.drop_zero, Nat.sub_zero, List.take_length]
    have h : k (.tup (cutD ds lo hi)) := h
    rw [e2] at h
    exact rt_here I (.tup hh r) (q _ h)
  | _ => exact h.elim
def dSl (lo hi : DP) (a : DT) : DT := fun ρ R U => a ρ (fun x ρ1 => lo ρ1 (fun l ρ2 => hi ρ2 (fun u ρ3 => oSl l u x (fun z => R z ρ3)) U) U) U
theorem d_sl {lo hi : Option Expr} {ml mh : DP} {p2 : Pos} (ha : DE X Z W a ma) (hl : DPt X Z W lo ml) (hu : DPt X Z W hi mh) : DE X Z W (.Subscript a (.Slice lo hi none p2) pos) (dSl ml mh ma) :=
  PE.imp (pe_slice slX ha hl hu) fun σ H Q ⟨F, ρ, R, U, I, hm, q, u⟩ => ⟨F, ρ, _, U, I, hm, fun x ρ1 v F1 H1 I1 s1 r1 h1 => ⟨F1, ρ1, _, U, I1, h1, fun l ρ2 F2 H2 I2 s2 h2 => ⟨F2, ρ2, _, U, I2, h2, fun u ρ3 F3 H3 I3 s3 h3 =>
    v_sl Z F3 H3 σ ρ3 v x _ Q I3 (r1.mono (s2.trans s3)) h3 fun z hz v' F' H' I' s' r' => q z ρ3 v' F' H' I' (((s1.trans s2).trans s3).trans s') r' hz, (u.mono s1).mono s2⟩, u.mono s1⟩, u⟩

/-! ### built-in calls -/
def one (f : O1) : OL := fun ds k => match ds with
  | [x] => f x k
  | _ => False
def lenD : Dt → Option Nat
  | .str l => some l.length
  | .dct l => some l.length
  | x => (itemsD x).map List.length
def oLen : O1 := fun x k => opt (lenD x) fun n => k (.int n)
abbrev rLen (K : PySem.W.Frag) : List V → Hp → VK → Prop := fun xs H Q => (∃ p ys, xs = [.ref p] ∧ (SqL K H p ys ∨ SqT K H p ys) ∧ Q (.int ys.length) H) ∨ ((∃ z : Str, xs = [.str z] ∧ z.length ≤ sizeLine ∧ Q (.int z.length) H) ∨ (∃ a kvs, xs = [V.ref a] ∧ H a = some (.dK kvs) ∧ Q (.int kvs.length) H))
theorem call_lenX : CallR X (.builtin "len") (rLen X.K) := CallR.or call_len_seq (CallR.or call_len_str call_lenD)
theorem v_len {K : PySem.W.Frag} : VL K (rLen K) (one oLen) := fun Z F H σ ρ xs ds k Q I r h q => by
  cases r with
  | nil => exact h.elim
  | cons r1 r2 =>
    cases r2 with
    | cons _ _ => exact h.elim
    | nil =>
      obtain ⟨n, e, h⟩ := opt_get (show opt (lenD _) _ from h)
      cases r1 with
      | str l hl =>
        obtain rfl := Option.some.inj e
        refine .inr (.inl ⟨_, rfl, str_leL hl, ?_⟩)
        rw [str_len]
        exact rt_here I (.int _) (q _ h)
      | dct hh rk =>
        obtain rfl := Option.some.inj e
        refine .inr (.inr ⟨_, _, rfl, I.fh _ _ hh, ?_⟩)
        rw [rk.length]
        exact rt_here I (.int _) (q _ h)
      | lst hh r =>
        obtain rfl := Option.some.inj e
        refine .inl ⟨_, _, rfl, .inl (SqL.of (I.fh _ _ hh)), ?_⟩
        rw [r.length]
        exact rt_here I (.int _) (q _ h)
      | scr hh r =>
        obtain rfl := Option.some.inj e
        refine .inl ⟨_, _, rfl, .inl (I.fh.seq hh), ?_⟩
        rw [r.length]
        exact rt_here I (.int _) (q _ h)
      | tup hh r =>
        obtain rfl := Option.some.inj e
        refine .inl ⟨_, _, rfl, .inr (sameT I.fh hh), ?_⟩
        rw [r.length]
        exact rt_here I (.int _) (q _ h)
      | _ => cases e
def fLen (o : MO) (k : Dt → Prop) : Prop := match o with
  | .lst ds => k (.int ds.length)
  | .dK ds => k (.int ds.length)
  | _ => False
theorem vo_len {K : PySem.W.Frag} : VO1 K (fun x H Q => rLen K [x] H Q) fLen := fun Z F H σ ρ p ho o k Q I hh ro h q => by
  cases ro with
  | lst r =>
    refine .inl ⟨p, _, rfl, .inl (SqL.of hh), ?_⟩
    rw [r.length]
    exact rt_here I (.int _) (q _ h)
  | dK r =>
    refine .inr (.inr ⟨p, _, rfl, hh, ?_⟩)
    rw [r.length]
    exact rt_here I (.int _) (q _ h)
  | _ => exact h.elim
theorem d_lenO (i : Nat) {x : Str} {pos' p : Pos} (hg : Gl X "len" := by rfl) (hm : X.mg "len" = none := by rfl) (hN : X.N[i]? = some x := by rfl) (hv : Vis X.env.scope x := by first | exact Or.inl rfl | exact Or.inr (Or.inl rfl) | exact Or.inr (Or.inr rfl)) (hd : (x == ("__debug__" : Str)) = false := by decide)
    (hcd : (x == ("__classdict__" : Str)) = false := by decide) (hs : starEach [.Name x pos'] X.env = (false, eval (.Name x pos') X.env) :: starEach [] X.env := by rfl) : DE X Z W (.Call (.Name "len" p) [.Name x pos'] [] pos) (dOwn1 i fLen) :=
  PE.imp (pe_callB call_lenX hg hm rfl (pa_cons (pe_var hN hv hd hcd) pa_nil hs) (he := hs)) fun σ H Q h => own1_in vo_len σ H Q h
def oAbs : O1 := fun x k => match x with
  | .int i => k (.int (if i < 0 then -i else i))
  | _ => False
theorem v1L {K : PySem.W.Frag} {r : List V → Hp → VK → Prop} {f : O1} (h : V1 K (fun x H Q => r [x] H Q) f) : VL K r (one f) := fun Z F H σ ρ xs ds k Q I rr hf q => by
  cases rr with
  | nil => exact hf.elim
  | cons r1 r2 =>
    cases r2 with
    | cons _ _ => exact hf.elim
    | nil => exact h Z F H σ ρ _ _ k Q I r1 hf q
theorem v_abs {K : PySem.W.Frag} : VL K (fun xs H Q => ∃ i, xs = [.int i] ∧ Q (.int (if i < 0 then -i else i)) H) (one oAbs) := v1L fun Z F H σ ρ x dx k Q I rx h q => by
  cases rx with
  | int i => exact ⟨i, rfl, rt_here I (.int _) (q _ h)⟩
  | _ => exact h.elim
def oInt : O1 := fun x k => match x with
  | .int i => k (.int i)
  | .bl b => k (.int (if b then 1 else 0))
  | _ => False
theorem v_int {K : PySem.W.Frag} : VL K (fun xs H Q => (∃ i, xs = [.int i] ∧ Q (.int i) H) ∨ ∃ k, xs = [.bl k] ∧ Q (.int (if k then 1 else 0)) H) (one oInt) := v1L fun Z F H σ ρ x dx k Q I rx h q => by
  cases rx with
  | int i => exact .inl ⟨i, rfl, rt_here I (.int _) (q _ h)⟩
  | bl b => exact .inr ⟨b, rfl, rt_here I (.int _) (q _ h)⟩
  | _ => exact h.elim
def oBool : O1 := fun x k => match x with
  | .int i => k (.bl (i != 0))
  | .bl b => k (.bl b)
  | _ => False
def two (f : O2) : OL := fun ds k => match ds with
  | [x, y] => f x y k
  | _ => False
theorem v2L {K : PySem.W.Frag} {r : List V → Hp → VK → Prop} {f : O2} (h : V2 K (fun x y H Q => r [x, y] H Q) f) : VL K r (two f) := fun Z F H σ ρ xs ds k Q I rr hf q => by
  cases rr with
  | nil => exact hf.elim
  | cons r1 r2 =>
    cases r2 with
    | nil => exact hf.elim
    | cons r3 r4 =>
      cases r4 with
      | cons _ _ => exact hf.elim
      | nil => exact h Z F H σ ρ _ _ _ _ k Q I r1 r3 hf q
def oInts (f : Int → Int → Int) : O2 := fun x y k => match x, y with
  | .int i, .int j => k (.int (f i j))
  | _, _ => False
theorem v_ints {K : PySem.W.Frag} {f : Int → Int → Int} : VL K (fun xs H Q => ∃ i j, xs = [.int i, .int j] ∧ Q (.int (f i j)) H) (two (oInts f)) := v2L fun Z F H σ ρ x y dx dy k Q I rx ry h q => by
  cases rx with
  | int i =>
    cases ry with
    | int j => exact ⟨i, j, rfl, rt_here I (.int _) (q _ h)⟩
    | _ => exact h.elim
  | _ => cases ry <;> exact h.elim
abbrev minI (i j : Int) : Int := if j < i then j else i
abbrev maxI (i j : Int) : Int := if j > i then j else i
/-- tuple(x), x a list or a tuple -/
def oTuple : O1 := fun x k => opt (itemsD x) fun ds => k (.tup ds)
theorem v_tuple {K : PySem.W.Frag} : VL K (fun xs H Q => ∃ p ys, xs = [.ref p] ∧ ((SqL K H p ys ∧ ∀ l, H l = none → Q (.ref l) (upd H l (.tup ys))) ∨ (SqT K H p ys ∧ Q (.ref p) H))) (one oTuple) := v1L fun Z F H σ ρ x dx k Q I rx h q => by
  obtain ⟨ds, e, h⟩ := opt_get h
  cases rx with
  | lst hh r =>
    obtain rfl := Option.some.inj e
    exact ⟨_, _, rfl, .inl ⟨SqL.of (I.fh _ _ hh), rt_tup I r (q _ h)⟩⟩
  | scr hh r =>
    obtain rfl := Option.some.inj e
    exact ⟨_, _, rfl, .inl ⟨I.fh.seq hh, rt_tup I r (q _ h)⟩⟩
  | tup hh r =>
    obtain rfl := Option.some.inj e
    exact ⟨_, _, rfl, .inr ⟨sameT I.fh hh, rt_here I (.tup hh r) (q _ h)⟩⟩
  | _ => cases e
/-- all and any of a list of True and False; sum of ints -/
def bls : List Dt → Option (List Bool)
  | [] => some []
  | .bl b :: r => (bls r).map (b :: ·)
  | _ :: _ => none
def intsD : List Dt → Option (List Int)
  | [] => some []
  | .int b :: r => (intsD r).map (b :: ·)
  | _ :: _ => none
def strsD : List Dt → Option (List (List Nat))
  | [] => some []
  | .str b :: r => (strsD r).map (b :: ·)
  | _ :: _ => none
theorem bls_map (bs : List Bool) : bls (bs.map Dt.bl) = some bs := by
  induction bs with
  | nil => rfl
  | cons b bs ih => simp [bls, ih]
theorem strsD_map (bs : List (List Nat)) : strsD (bs.map Dt.str) = some bs := by
  induction bs with
  | nil => rfl
  | cons b bs ih => simp [strsD, ih]
theorem bls_of : ∀ {ds : List Dt} {bs : List Bool}, bls ds = some bs → ds = bs.map Dt.bl
  | [], _, e => by obtain rfl := Option.some.inj e; rfl
  | .bl b :: r, bs, e => by
    have e' : (bls r).map (b :: ·) = some bs := e
    cases q : bls r with
    | none => rw [q] at e'; cases e'
    | some l =>
      rw [q] at e'
      obtain rfl := Option.some.inj e'
      rw [bls_of q]
      rfl
  | .non :: _, _, e => by cases e
  | .int _ :: _, _, e => by cases e
  | .str _ :: _, _, e => by cases e
  | .tup _ :: _, _, e => by cases e
  | .lst _ :: _, _, e => by cases e
  | .scr _ :: _, _, e => by cases e
  | .dct _ :: _, _, e => by cases e
  | .ins _ _ :: _, _, e => by cases e
theorem strsD_of : ∀ {ds : List Dt} {bs : List (List Nat)}, strsD ds = some bs → ds = bs.map Dt.str
  | [], _, e => by obtain rfl := Option.some.inj e; rfl
  | .str b :: r, bs, e => by
    have e' : (strsD r).map (b :: ·) = some bs := e
    cases q : strsD r with
    | none => rw [q] at e'; cases e'
    | some l =>
      rw [q] at e'
      obtain rfl := Option.some.inj e'
      rw [strsD_of q]
      rfl
  | .non :: _, _, e => by cases e
  | .bl _ :: _, _, e => by cases e
  | .int _ :: _, _, e => by cases e
  | .tup _ :: _, _, e => by cases e
  | .lst _ :: _, _, e => by cases e
  | .scr _ :: _, _, e => by cases e
  | .dct _ :: _, _, e => by cases e
  | .ins _ _ :: _, _, e => by cases e
theorem bls_list {K : PySem.W.Frag} {Z : Fm} {F H : Hp} {σ : St} {ρ : En} (I : DI K Z F H σ ρ) {v : V} {ds : List Dt} {bs : List Bool} (r : Rep K F v (.lst ds)) (e : bls ds = some bs) : ∃ a, v = .ref a ∧ SqL K H a (bs.map V.bl) := by
  obtain rfl := bls_of e
  cases r with
  | lst hh r =>
    obtain rfl := r.bls
    exact ⟨_, rfl, SqL.of (I.fh _ _ hh)⟩
def oAll : O1 := fun x k => match x with
  | .lst ds => opt (bls ds) fun bs => k (.bl (bs.all id))
  | _ => False
def oAny : O1 := fun x k => match x with
  | .lst ds => opt (bls ds) fun bs => k (.bl (bs.any id))
  | _ => False
def oSum : O1 := fun x k => match x with
  | .lst ds => opt (intsD ds) fun bs => k (.int bs.sum)
  | _ => False
theorem v_all {K : PySem.W.Frag} : VL K (rAll K) (one oAll) := v1L fun Z F H σ ρ x dx k Q I rx h q => by
  cases rx with
  | lst hh r =>
    obtain ⟨bs, e, h⟩ := opt_get (show opt (bls _) (fun bs => k (.bl (bs.all id))) from h)
    obtain ⟨a, e2, s⟩ := bls_list I (.lst hh r) e
    exact ⟨a, bs, by rw [e2], s, rt_here I (.bl _) (q _ h)⟩
  | _ => exact h.elim
end
end DL

namespace DL
open PyProof.Rows hiding St
open PySem PySem.Spec L2

/-! ### texts sorted -/
def insL (x : List Nat) : List (List Nat) → List (List Nat)
  | [] => [x]
  | y :: r => if y < x then y :: insL x r else x :: y :: r
def srtL : List (List Nat) → List (List Nat)
  | [] => []
  | x :: r => insL x (srtL r)
theorem insL_perm (x : List Nat) : ∀ l, (insL x l).Perm (x :: l)
  | [] => List.Perm.refl _
  | y :: r => by
    unfold insL
    split
    · exact ((insL_perm x r).cons y).trans (List.Perm.swap x y r)
    · exact List.Perm.refl _
theorem srtL_perm : ∀ l, (srtL l).Perm l
  | [] => List.Perm.refl _
  | x :: r => (insL_perm x (srtL r)).trans ((srtL_perm r).cons x)
def SrtL (l : List (List Nat)) : Prop := l.Pairwise fun a b => ¬ b < a
theorem leL_trans {a b c : List Nat} (h : ¬ b < a) (h' : ¬ c < b) : ¬ c < a := fun q => by
  have h1 : a ≤ b := List.not_lt.mp h
  have h2 : b ≤ c := List.not_lt.mp h'
  exact List.not_lt.mpr (List.le_trans h1 h2) q
theorem leL_anti {a b : List Nat} (h : ¬ b < a) (h' : ¬ a < b) : a = b := List.le_antisymm (List.not_lt.mp h) (List.not_lt.mp h')
theorem insL_srt (x : List Nat) : ∀ l, SrtL l → SrtL (insL x l)
  | [], _ => List.pairwise_singleton _ _
  | y :: r, h => by
    obtain ⟨h1, h2⟩ := List.pairwise_cons.mp h
    unfold insL
    split
    · rename_i q
      refine List.pairwise_cons.mpr ⟨fun z hz => ?_, insL_srt x r h2⟩
      rcases List.mem_cons.mp ((insL_perm x r).mem_iff.mp hz) with rfl | hz
      · exact List.not_lt.mpr (List.le_of_lt q)
      · exact h1 z hz
    · rename_i q
      refine List.pairwise_cons.mpr ⟨fun z hz => ?_, h⟩
      rcases List.mem_cons.mp hz with rfl | hz
      · exact q
      · exact leL_trans q (h1 z hz)
theorem srtL_srt : ∀ l, SrtL (srtL l)
  | [] => List.Pairwise.nil
  | x :: r => insL_srt x _ (srtL_srt r)
theorem srt_unique : ∀ {a b : List (List Nat)}, a.Perm b → SrtL a → SrtL b → a = b
  | [], b, p, _, _ => (List.nil_perm.mp p).symm
  | x :: a, [], p, _, _ => absurd p (by simp)
  | x :: a, y :: b, p, ha, hb => by
    obtain ⟨a1, a2⟩ := List.pairwise_cons.mp ha
    obtain ⟨b1, b2⟩ := List.pairwise_cons.mp hb
    have e : x = y := by
      rcases List.mem_cons.mp (p.mem_iff.mp List.mem_cons_self) with e | hx
      · exact e
      · rcases List.mem_cons.mp (p.mem_iff.mpr List.mem_cons_self) with e | hy
        · exact e.symm
        · exact leL_anti (a1 y hy) (b1 x hx)
    subst e
    rw [srt_unique ((List.perm_cons x).mp p) a2 b2]
theorem srtL_of {a b : List (List Nat)} (p : a.Perm b) (h : SrtL a) : a = srtL b := srt_unique (p.trans (srtL_perm b).symm) h (srtL_srt b)
abbrev mkS (l : List Nat) : Str := ⟨l.toArray⟩
theorem rising_pw : ∀ (x : Str) (l : List Str), risingS x l = true → (x :: l).Pairwise fun a b => ¬ b.cps.toList < a.cps.toList
  | x, [], _ => List.pairwise_singleton _ _
  | x, y :: r, h => by
    have h' : (!ltCps y.cps.toList x.cps.toList && risingS y r) = true := h
    rw [Bool.and_eq_true, Bool.not_eq_true', ltCps_eq, decide_eq_false_iff_not] at h'
    have ih := rising_pw y r h'.2
    refine List.pairwise_cons.mpr ⟨fun z hz => ?_, ih⟩
    rcases List.mem_cons.mp hz with rfl | hz
    · exact h'.1
    · exact leL_trans h'.1 ((List.pairwise_cons.mp ih).1 z hz)
theorem sorted_srtL {ys : List Str} {ls : List (List Nat)} (p : ys.Perm (ls.map mkS)) (h : sortedS ys = true) : ys = (srtL ls).map mkS := by
  have hp : (ys.map fun s => s.cps.toList).Pairwise fun a b => ¬ b < a := by
    rw [List.pairwise_map]
    cases ys with
    | nil => exact List.Pairwise.nil
    | cons x r => exact rising_pw x r h
  have hq := p.map (fun s : Str => s.cps.toList)
  have e : (ls.map mkS).map (fun s : Str => s.cps.toList) = ls := by
    rw [List.map_map]
    exact (List.map_congr_left fun l _ => rfl).trans (List.map_id ls)
  rw [e] at hq
  have := srtL_of hq hp
  rw [← this, List.map_map]
  exact ((List.map_congr_left fun s _ => rfl).trans (List.map_id ys)).symm

/-! ### a new object, by values -/
def RtO (K : PySem.W.Frag) (Z : Fm) (F : Hp) (σ : St) (ρ : En) (o : MO) (Q : VK) : Prop := ∀ p F' H', DI K Z F' H' σ ρ → Same F F' → NewAt K Z F' H' ρ p o → Q (.ref p) H'
abbrev OLO := List Dt → (MO → Prop) → Prop
def VLO (K : PySem.W.Frag) (r : List V → Hp → VK → Prop) (f : OLO) : Prop := ∀ (Z : Fm) (F H : Hp) (σ : St) (ρ : En) (xs : List V) (ds : List Dt) (k : MO → Prop) (Q : VK), DI K Z F H σ ρ → Reps K F xs ds → f ds k → (∀ o, k o → RtO K Z F σ ρ o Q) → r xs H Q
theorem rto_lst {K : PySem.W.Frag} {Z : Fm} {F H : Hp} {σ : St} {ρ : En} (I : DI K Z F H σ ρ) {vs : List V} {ds : List Dt} {Q : VK} (r : Reps K F vs ds) (q : RtO K Z F σ ρ (.lst ds) Q) : ∀ p, H p = none → Q (.ref p) (upd H p (.lst vs)) := fun p np =>
  q p F _ (I.freshO np) (Same.refl F) (I.newAt np (.lst r))
def dCBO (f : OLO) (a : DA) : DO := fun ρ R U => a ρ (fun as ρ1 => match dats as with
  | some ds => f ds (fun z => R z ρ1)
  | none => False) U
section
variable {X : Cx} {Z : Fm} {W : WX} {e a b c : Expr} {ma mb mc : DT} {pos : Pos}
theorem cbo_in {r : List V → Hp → VK → Prop} {f : OLO} {m : DA} (hv : VLO X.K r f) (σ : St) (H : Hp) (Q : VK) (h : tO X.K Z W (dCBO f m) σ H Q) : tAs X.K Z W m σ H (fun vs H1 => r vs H1 Q) := by
  obtain ⟨F, ρ, R, U, I, hm, q, u⟩ := h
  refine ⟨F, ρ, _, U, I, hm, fun as ρ1 vs F1 H1 I1 s1 r1 h1 => ?_, u⟩
  try dsimp only at h1
  cases ea : dats as with
  | none =>
    rw [ea] at h1
    exact h1.elim
  | some ds =>
    rw [ea] at h1
    exact hv Z F1 H1 σ ρ1 vs ds _ Q I1 (dats_reps r1 ea) h1 fun z hz p F' H' I' s' N => q z ρ1 p F' H' I' (s1.trans s') N hz
theorem d_cbO {x : Str} {p : Pos} {r : List V → Hp → VK → Prop} {g : OLO} {m : DA} {es : List Expr} (hv : VLO X.K r g) (h : ∀ t, PA X es t → PE X (.Call (.Name x p) es [] pos) (tCB r t)) (ha : DAs X Z W es m) : DOk X Z W (.Call (.Name x p) es [] pos) (dCBO g m) :=
  PE.imp (h _ ha) (cbo_in hv)
end
def oneO (f : Dt → (MO → Prop) → Prop) : OLO := fun ds k => match ds with
  | [x] => f x k
  | _ => False
theorem vo1L {K : PySem.W.Frag} {r : List V → Hp → VK → Prop} {f : Dt → (MO → Prop) → Prop} (h : ∀ (Z : Fm) (F H : Hp) (σ : St) (ρ : En) (x : V) (d : Dt) (k : MO → Prop) (Q : VK), DI K Z F H σ ρ → Rep K F x d → f d k → (∀ o, k o → RtO K Z F σ ρ o Q) → r [x] H Q) : VLO K r (oneO f) := fun Z F H σ ρ xs ds k Q I rr hf q => by
  cases rr with
  | nil => exact hf.elim
  | cons r1 r2 =>
    cases r2 with
    | cons _ _ => exact hf.elim
    | nil => exact h Z F H σ ρ _ _ k Q I r1 hf q

/-! ### sorted(v): v is gathered into texts first -/
theorem sorted_texts {X : Cx} {pins : List (Addr × Obj)} {σ : St} {H : Hp} {s : Shared} {v : Value} {Q : VK} (good : List Str → Prop) (tk : ∀ g, good g → g.length < 64)
    (got : ∀ (Q' : List Value → Shared → Prop), (∀ t vs g, Inv X pins σ H t → StrsAre vs g → good g → Q' vs t) → wpAny (model X.prog X.w) X.A.in1 (collect v) Q' X.xe s)
    (fin : ∀ g ys p, good g → ys.Perm g → sortedS ys = true → H p = none → Q (.ref p) (upd H p (.lst (ys.map V.str)))) :
    wpAny (model X.prog X.w) X.A (call (.builtin "sorted") [v]) (EP X pins σ Q) X.xe s := by
  refine Calls.call_function_entry kind_sorted plain_sorted entry_sorted (args_sorted1 v) ?_
  unfold Builtin.«sorted»
  refine wpAny_bind (m := checkCount "sorted" 1 1 _) (wpAny_pure (wpAny_bind (got _ fun t vs g J are ok => ?_)))
  have few : vs.length < 64 := by
    rw [StrsAre.len_eq are]
    exact tk g ok
  have line : vs.length ≤ sizeLine := by rw [sizeLine_eq]; omega
  let b := t.heap.objs.size
  have fresh : (t.heap.push (seqObj "list" vs.toArray 0)).get? b = some (seqObj "list" vs.toArray 0) := Heap.get?_push_size _ rfl
  refine wpAny_bind (wpAny_newList ?_ line)
  let t1 : Shared := { t with heap := t.heap.push (seqObj "list" vs.toArray 0) }
  show wpAny _ _ _ _ _ t1
  refine wpAny_bind (wpAny_holding (wpAny_call_entry slot_list_sort (s := t1) ⟨_, fresh, rfl⟩ entry_list_sort ?_ (args_list_sort (.ref b))))
  refine list_sort_treeK strKind_oneLt (s := t1) fresh are.keysOf (fun x y r e => keyKind_strs (e ▸ are)) few fun o perm srt => ⟨_, rfl, ?_⟩
  obtain ⟨ys, y1, y2, y3⟩ := sorted_out_str are perm srt
  obtain ⟨c, stands⟩ := sortedHeap_at (vs := vs) (out := (arrOf o).map (·.2)) fresh
  have ysl : (ys.map V.str).length ≤ sizeLine := by
    rw [List.length_map, y2.length_eq, ← StrsAre.len_eq are]
    exact line
  have old : ∀ a u, t.heap.get? a = some u → (sortedHeap (t.heap.push (seqObj "list" vs.toArray 0)) b vs ((arrOf o).map (·.2))).get? a = some u := fun a u e => by
    have lt : a < b := Heap.lt_size e
    rw [sortedHeap_old (Nat.ne_of_lt lt) (by rw [size_push']; exact Nat.lt_succ_of_lt lt)]
    exact Heap.get?_push_of_some _ e
  have made : ObjOk X.prog X.w (upd H b (.lst (ys.map V.str))) (sortedHeap (t.heap.push (seqObj "list" vs.toArray 0)) b vs ((arrOf o).map (·.2))) b (.lst (ys.map V.str)) :=
    ⟨ysl, _, c, vals_of_strs y1, by rw [Array.toArray_toList]; exact stands⟩
  exact wpAny_pure ⟨_, rfl, .ref b, _, J.laid (t' := t.toks) old (Nat.le_refl b) made, rfl, fin g ys b ok y2 y3 (J.hok.fresh (Nat.le_refl b))⟩

/-! ### sorted(a text), list(a text) -/
def sgs (z : Str) : List Str := z.cps.toList.map fun c => ⟨#[c]⟩
def rSortStr : List V → Hp → VK → Prop := fun xs H Q => ∃ z : Str, xs = [.str z] ∧ z.length < 64 ∧ ∀ ys p, ys.Perm (sgs z) → sortedS ys = true → H p = none → Q (.ref p) (upd H p (.lst (ys.map V.str)))
theorem signs_are {z : Str} {acc : Array Value} (h : ItemsOf (SignAt z) acc z.cps.size) : StrsAre acc.toList (sgs z) := by
  have hl : acc.toList.length = (sgs z).length := by
    rw [Array.length_toList, h.1]
    unfold sgs
    rw [List.length_map, Array.length_toList]
  refine L2.strs_at hl fun j v e => ?_
  obtain ⟨c, u, hc, ev⟩ := h.2 j v (by rw [← Array.getElem?_toList]; exact e)
  refine ⟨⟨#[c]⟩, u, ?_, ev⟩
  unfold sgs
  rw [List.getElem?_map, Array.getElem?_toList, hc]
  rfl
theorem cr_sortStr {X : Cx} (hcalm : X.calm = true) : CallR X (.builtin "sorted") rSortStr := by
  intro pins s σ H xs us Q I r ⟨z, e, few, q⟩
  subst e
  obtain ⟨u, rfl, ru⟩ := vals1 r
  obtain ⟨k, rfl⟩ := ru
  have n : (sgs z).length = z.length := (List.length_map _).trans Array.length_toList
  have line : z.cps.size ≤ sizeLine := by
    have : z.cps.size < 64 := few
    rw [sizeLine_eq]
    omega
  refine sorted_texts (fun g => g = sgs z) (fun g e => by rw [e, n]; exact few) (fun Q' k' => ?_) fun g ys p e pm so np => q ys p (e ▸ pm) so np
  refine wpAny_collect_str (A := X.A.in1) (I.ok.hd hcalm) z k (fun s' acc keep gens _ os are => ?_) line
  exact k' s' _ _ (I.call' (ch := []) os (Un.kept keep) (I.hok.kept keep) (by rw [gens]; exact I.bare) (fun _ z => nomatch z)) (signs_are are) rfl
def rListStr : List V → Hp → VK → Prop := fun xs H Q => ∃ z : Str, xs = [.str z] ∧ z.length ≤ sizeLine ∧ ∀ p, H p = none → Q (.ref p) (upd H p (.lst ((sgs z).map V.str)))
theorem cr_listStr {X : Cx} (hcalm : X.calm = true) : CallR X (.type "list") rListStr := by
  intro pins s σ H xs us Q I r q
  obtain ⟨z, ex, hz, q⟩ := q
  subst ex
  obtain ⟨u, eu, rx⟩ := vals1 r
  subst eu
  obtain ⟨tk, rfl⟩ := rx
  refine call_list_str (I.ok.hd hcalm) z tk (fun h' tk' acc c hk hS' hacc => ?_) hz
  have hS : StrsAre acc.toList (sgs z) := signs_are hacc
  have hl : ((sgs z).map V.str).length ≤ sizeLine := by
    unfold sgs
    rw [List.length_map, List.length_map, Array.length_toList]
    exact hz
  exact ⟨.ref s.heap.objs.size, upd H s.heap.objs.size (.lst ((sgs z).map V.str)), I.laid hk (Nat.le_refl _) (show ObjOk X.prog X.w _ _ _ (.lst ((sgs z).map V.str)) from ⟨hl, acc.toList, c, vals_of_strs hS, by rw [Array.toArray_toList]; exact hS'⟩), rfl, q _ (I.hok.fresh (Nat.le_refl _))⟩

def oSorted (x : Dt) (k : MO → Prop) : Prop := match x with
  | .str l => l.length < 64 ∧ k (.lst ((srtL (l.map fun c => [c])).map Dt.str))
  | .lst ds => opt (strsD ds) fun ls => ls.length < 64 ∧ k (.lst ((srtL ls).map Dt.str))
  | _ => False
theorem sgs_mk (l : List Nat) : sgs (mkS l) = (l.map fun c => [c]).map mkS := by
  unfold sgs
  rw [List.map_map]
  rfl
theorem srt_reps {K : PySem.W.Frag} {F : Hp} {ls : List (List Nat)} (h : ∀ l ∈ ls, l.length ≤ sizeLine) : Reps K F (((srtL ls).map mkS).map V.str) ((srtL ls).map Dt.str) :=
  Reps.of_strs fun l hl => h l ((srtL_perm ls).mem_iff.mp hl)
abbrev rSortX (K : PySem.W.Frag) : List V → Hp → VK → Prop := fun xs H Q => rSortStr xs H Q ∨ rSortedS K xs H Q
theorem cr_sortX {X : Cx} (hcalm : X.calm = true) : CallR X (.builtin "sorted") (rSortX X.K) := CallR.or (cr_sortStr hcalm) cr_sortedS
theorem v_sorted {K : PySem.W.Frag} : VLO K (rSortX K) (oneO oSorted) := vo1L fun Z F H σ ρ x dx k Q I rx h q => by
  cases rx with
  | str l hl =>
    obtain ⟨h64, h⟩ := h
    refine .inl ⟨_, rfl, by rw [str_len]; exact h64, fun ys p hp hs np => ?_⟩
    rw [sgs_mk] at hp
    rw [sorted_srtL hp hs]
    exact rto_lst I (srt_reps fun l hl => by
      obtain ⟨c, _, rfl⟩ := List.mem_map.mp hl
      exact kilo_line (show 1 ≤ 1000 by decide)) (q _ h) p np
  | lst hh r =>
    obtain ⟨ls, e, h'⟩ := opt_get (show opt (strsD _) (fun ls => ls.length < 64 ∧ k (.lst ((srtL ls).map Dt.str))) from h)
    obtain ⟨h64, h'⟩ := h'
    obtain rfl := strsD_of e
    obtain ⟨hv, hz⟩ := r.strs
    refine .inr ⟨_, ls.map mkS, rfl, ?_, by rw [List.length_map]; exact h64, fun ys p hp hs np => ?_⟩
    · rw [← hv]
      exact SqL.of (I.fh _ _ hh)
    · rw [sorted_srtL hp hs]
      exact rto_lst I (srt_reps hz) (q _ h') p np
  | _ => exact h.elim
def oList (x : Dt) (k : MO → Prop) : Prop := match x with
  | .str l => k (.lst (l.map fun c => Dt.str [c]))
  | x => opt (itemsD x) fun ds => k (.lst ds)
abbrev rListX (K : PySem.W.Frag) : List V → Hp → VK → Prop := fun xs H Q => rListStr xs H Q ∨ ∃ p ys, xs = [.ref p] ∧ (SqL K H p ys ∨ SqT K H p ys) ∧ ∀ l, H l = none → Q (.ref l) (upd H l (.lst ys))
theorem cr_listX {X : Cx} (hcalm : X.calm = true) : CallR X (.type "list") (rListX X.K) := CallR.or (cr_listStr hcalm) call_list_of
theorem v_list {K : PySem.W.Frag} : VLO K (rListX K) (oneO oList) := vo1L fun Z F H σ ρ x dx k Q I rx h q => by
  have gen : (opt (itemsD dx) fun ds => k (.lst ds)) → rListX K [x] H Q := fun h => by
    obtain ⟨ds, e, h⟩ := opt_get h
    obtain ⟨a, vs, rfl, s, r⟩ := items_sq I rx e
    exact .inr ⟨a, vs, rfl, s, rto_lst I r (q _ h)⟩
  cases rx with
  | str l hl =>
    refine .inl ⟨_, rfl, str_leL hl, fun p np => ?_⟩
    rw [sgs_mk]
    refine rto_lst I (ds := l.map fun c => Dt.str [c]) ?_ (q _ h) p np
    have := Reps.of_strs (K := K) (F := F) (ls := l.map fun c => [c]) fun z hz => by
      obtain ⟨c, _, rfl⟩ := List.mem_map.mp hz
      exact kilo_line (show 1 ≤ 1000 by decide)
    rw [List.map_map (f := fun c => [c]) (g := Dt.str)] at this
    exact this
  | non => exact gen h
  | bl _ => exact gen h
  | int _ => exact gen h
  | tup a b => exact gen h
  | lst a b => exact gen h
  | scr a b => exact gen h
  | dct a b => exact gen h
  | ins a b => exact gen h

/-! ### sep.join(texts) -/
def jn (sep : List Nat) : List (List Nat) → List Nat
  | [] => []
  | [p] => p
  | p :: q :: r => p ++ (sep ++ jn sep (q :: r))
def lens : List (List Nat) → Nat
  | [] => 0
  | p :: r => p.length + lens r
def oJoin : O2 := fun x y k => match x with
  | .str s => opt (itemsD y) fun ds => opt (strsD ds) fun ls => Fits (lens ls + ls.length * s.length) ∧ k (.str (jn s ls))
  | _ => False
theorem join_mk (s : List Nat) : ∀ ls : List (List Nat), (Txt.join (mkS s) (ls.map mkS)) = mkS (jn s ls)
  | [] => rfl
  | [p] => rfl
  | p :: q :: r => by
    have ih := join_mk s (q :: r)
    have e : Txt.join (mkS s) ((p :: q :: r).map mkS) = mkS p ++ (mkS s ++ Txt.join (mkS s) ((q :: r).map mkS)) := by
      rw [show Txt.join (mkS s) ((p :: q :: r).map mkS) = Str.join (mkS s) ((p :: q :: r).map mkS) from TL.join_eq _ _, show Txt.join (mkS s) ((q :: r).map mkS) = Str.join (mkS s) ((q :: r).map mkS) from TL.join_eq _ _]
      show mkS p ++ mkS s ++ Str.join (mkS s) ((q :: r).map mkS) = _
      rw [str_app, str_app]
      generalize Str.join (mkS s) ((q :: r).map mkS) = J
      obtain ⟨⟨j⟩⟩ := J
      rw [str_app, str_app]
      show (⟨((p ++ s) ++ j).toArray⟩ : Str) = ⟨(p ++ (s ++ j)).toArray⟩
      rw [List.append_assoc]
    rw [e, ih, str_app, str_app]
    rfl
theorem lens_sum : ∀ ls : List (List Nat), ((ls.map mkS).map (·.length)).sum = lens ls
  | [] => rfl
  | p :: r => by
    rw [List.map_cons, List.map_cons, List.sum_cons, lens_sum r, str_len]
    rfl
theorem jn_len (s : List Nat) : ∀ ls : List (List Nat), (jn s ls).length ≤ lens ls + ls.length * s.length
  | [] => Nat.zero_le _
  | [p] => by simp only [jn, lens, List.length_cons, List.length_nil]; omega
  | p :: q :: r => by
    have ih := jn_len s (q :: r)
    have e1 : (jn s (p :: q :: r)).length = p.length + (s.length + (jn s (q :: r)).length) := by
      show (p ++ (s ++ jn s (q :: r))).length = _
      rw [List.length_append, List.length_append]
    have e2 : lens (p :: q :: r) = p.length + lens (q :: r) := rfl
    have e3 : (p :: q :: r).length * s.length = (q :: r).length * s.length + s.length := by rw [List.length_cons (a := p), Nat.succ_mul]
    omega
abbrev rJoin (K : PySem.W.Frag) : V → List V → Hp → VK → Prop := fun x xs H Q => ∃ a p, ∃ ys : List Str, x = .str a ∧ xs = [.ref p] ∧ (SqL K H p (ys.map V.str) ∨ SqT K H p (ys.map V.str)) ∧ (ys.map (·.length)).sum + ys.length * a.length ≤ 16777216 ∧ Q (.str (Txt.join a ys)) H
theorem v_join {K : PySem.W.Frag} : V2 K (fun x y H Q => rJoin K x [y] H Q) oJoin := fun Z F H σ ρ x y dx dy k Q I rx ry h q => by
  cases rx with
  | str s hs =>
    obtain ⟨ds, e, h⟩ := opt_get (show opt (itemsD dy) (fun ds => opt (strsD ds) fun ls => Fits (lens ls + ls.length * s.length) ∧ k (.str (jn s ls))) from h)
    obtain ⟨ls, e2, hf, hk⟩ := opt_get h
    obtain ⟨a, vs, rfl, sq, r⟩ := items_sq I ry e
    obtain rfl := strsD_of e2
    obtain ⟨hv, hz⟩ := r.strs
    subst hv
    refine ⟨_, a, ls.map mkS, rfl, rfl, sq, ?_, ?_⟩
    · rw [lens_sum, List.length_map, str_len]
      exact hf
    · rw [join_mk]
      exact rt_here I (.str _ (Nat.le_trans (jn_len s ls) hf.line)) (q _ hk)
  | _ => exact h.elim
/-! ### methods of data: o.name(e) -/
def dMt1 (f : O2) (o a : DT) : DT := fun ρ R U => o ρ (fun x ρ1 => match x with
  | .str l => a ρ1 (fun y ρ2 => f (.str l) y (fun z => R z ρ2)) U
  | _ => False) U
section
variable {X : Cx} {Z : Fm} {W : WX} {e a b c o : Expr} {ma mb mc mo : DT} {pos : Pos}
/-- a text's method -/
theorem d_mt1 {id : String} {name : Str} {apos : Pos} {r : V → List V → Hp → VK → Prop} {f : O2} (slot : Slot "str" name id) (hty : typeOf (.builtin id) = pure (.type "method_descriptor")) (hm : MtR X id r) (hv : V2 X.K (fun x y H Q => r x [y] H Q) f) (ho : DE X Z W o mo) (ha : DE X Z W a ma)
    (hbase : attributeBase o name X.env (eval o X.env) = eval o X.env := by rfl)
    (hfew : ((backTo pos (starEach [a] X.env)).all (fun x => !x.1) && (backToKw pos (keywordEach [] X.env)).all (fun x => x.1.isSome)
      && decide (([a] : List Expr).length + ([] : List Keyword).length + (if ([] : List Keyword).isEmpty then 0 else 1) < 30)) = true := by rfl)
    (hline : (apos.endLine == pos.line) = true := by rfl) (hs : starEach [a] X.env = (false, eval a X.env) :: starEach [] X.env := by rfl) : DE X Z W (.Call (.Attribute o name apos) [a] [] pos) (dMt1 f mo ma) :=
  PE.imp (pe_bm PySem.F.plainAttrs_str slot hty hm ho (pa_cons ha pa_nil hs) hbase hfew hline hs rfl) fun σ H Q ⟨F, ρ, R, U, I, h, q, u⟩ =>
    ⟨F, ρ, _, U, I, h, fun x ρ1 v F1 H1 I1 s1 r1 h1 => by
      cases r1 with
      | str l hl => exact ⟨rfl, F1, ρ1, _, U, I1, h1, fun y ρ2 w F2 H2 I2 s2 r2 h2 => hv Z F2 H2 σ ρ2 _ w (.str l) y _ Q I2 (.str l hl) r2 h2 fun z hz v' F' H' I' s' r' => q z ρ2 v' F' H' I' ((s1.trans s2).trans s') r' hz, u.mono s1⟩
      | _ => exact h1.elim, u⟩
theorem d_join {apos : Pos} (ho : DE X Z W o mo) (ha : DE X Z W a ma)
    (hbase : attributeBase o "join" X.env (eval o X.env) = eval o X.env := by rfl)
    (hfew : ((backTo pos (starEach [a] X.env)).all (fun x => !x.1) && (backToKw pos (keywordEach [] X.env)).all (fun x => x.1.isSome)
      && decide (([a] : List Expr).length + ([] : List Keyword).length + (if ([] : List Keyword).isEmpty then 0 else 1) < 30)) = true := by rfl)
    (hline : (apos.endLine == pos.line) = true := by rfl) (hs : starEach [a] X.env = (false, eval a X.env) :: starEach [] X.env := by rfl) : DE X Z W (.Call (.Attribute o "join" apos) [a] [] pos) (dMt1 oJoin mo ma) :=
  d_mt1 PySem.F.slot_str_join PySem.F.type_str_join mt_join v_join ho ha hbase hfew hline hs

/-! ### methods of an own list -/
/-- the slot's object becomes another -/
def put (i : Nat) (o : MO) (ρ : En) (k : En → Prop) : Prop := match ρ[i]? with
  | some (.own b p _) => k (ρ.set i (.own b p o))
  | _ => False
def dApp (i : Nat) (a : DT) : DT := fun ρ R U => match ρ[i]? with
  | some (.own _ _ (.lst _)) => a ρ (fun y ρ1 => match ρ1[i]? with
    | some (.own b p (.lst ds)) => Fits (ds.length + 1) ∧ R .non (ρ1.set i (.own b p (.lst (ds ++ [y]))))
    | _ => False) U
  | _ => False
theorem own_ty {i : Nat} {σ : St} {F H : Hp} {ρ : En} {b : Bool} {p : Addr} {ds : List Dt} {K : PySem.W.Frag} (I : DI K Z F H σ ρ) (e : ρ[i]? = some (.own b p (.lst ds))) : ∃ vs, σ[i]? = some (some (.ref p)) ∧ H p = some (.lst vs) ∧ Reps K F vs ds ∧ tyV K "list" (.ref p) H := by
  obtain ⟨e1, _, ho, hh, ro⟩ := I.slotO e
  cases ro with
  | lst r => exact ⟨_, e1, hh, r, .inl ⟨rfl, _, SqL.of hh⟩⟩
theorem d_append (i : Nat) {x : Str} {p1 apos : Pos} (ha : DE X Z W a ma) (hN : X.N[i]? = some x := by rfl) (hv : Vis X.env.scope x := by first | exact Or.inl rfl | exact Or.inr (Or.inl rfl) | exact Or.inr (Or.inr rfl)) (hd : (x == ("__debug__" : Str)) = false := by decide) (hcd : (x == ("__classdict__" : Str)) = false := by decide)
    (hbase : attributeBase (.Name x p1) "append" X.env (eval (.Name x p1) X.env) = eval (.Name x p1) X.env := by rfl)
    (hfew : ((backTo pos (starEach [a] X.env)).all (fun x => !x.1) && (backToKw pos (keywordEach [] X.env)).all (fun x => x.1.isSome)
      && decide (([a] : List Expr).length + ([] : List Keyword).length + (if ([] : List Keyword).isEmpty then 0 else 1) < 30)) = true := by rfl)
    (hline : (apos.endLine == pos.line) = true := by rfl) (hs : starEach [a] X.env = (false, eval a X.env) :: starEach [] X.env := by rfl) : DE X Z W (.Call (.Attribute (.Name x p1) "append" apos) [a] [] pos) (dApp i ma) :=
  PE.imp (pe_bm PySem.F.plainAttrs_list PySem.F.slot_list_append PySem.F.type_list_append mt_append (pe_var hN hv hd hcd) (pa_cons ha pa_nil hs) hbase hfew hline hs rfl) fun σ H Q ⟨F, ρ, R, U, I, h, q, u⟩ => by
    unfold dApp at h
    split at h
    · rename_i b p ds e
      obtain ⟨vs, e1, _, _, ty⟩ := own_ty I e
      refine ⟨_, e1, ty, F, ρ, _, U, I, h, fun y ρ1 w F1 H1 I1 s1 r1 h1 => ?_, u⟩
      try dsimp only at h1
      split at h1
      · rename_i b1 p1 ds1 e1'
        obtain ⟨hf, h1⟩ := h1
        obtain ⟨vs1, e3, hh, r, _⟩ := own_ty I1 e1'
        rw [e1] at e3
        obtain rfl : p = p1 := by injection e3 with e3; injection e3 with e3; injection e3
        have hl : vs1.length < sizeLine := by
          rw [r.length, sizeLine_eq]
          have : ds1.length + 1 ≤ 16777216 := hf
          omega
        exact ⟨p, vs1, w, rfl, rfl, hh, hl, q _ _ .non F1 _ (I1.write e1' (.lst (r.app (.cons r1 .nil)))) s1 .non h1⟩
      · exact h1.elim
    · exact h.elim
/-- x.pop(i) -/
def dPopAt (i : Nat) (a : DT) : DT := fun ρ R U => match ρ[i]? with
  | some (.own _ _ (.lst _)) => a ρ (fun y ρ1 => match ρ1[i]? with
    | some (.own b p (.lst ds)) => (match y with
      | .int n => (-(2 ^ 63) ≤ n ∧ n < 2 ^ 63) ∧ opt (seqIndex? n ds.length) fun j => opt ds[j]? fun d => R d (ρ1.set i (.own b p (.lst (ds.eraseIdx j))))
      | _ => False)
    | _ => False) U
  | _ => False
theorem d_popAt (i : Nat) {x : Str} {p1 apos : Pos} (ha : DE X Z W a ma) (hN : X.N[i]? = some x := by rfl) (hv : Vis X.env.scope x := by first | exact Or.inl rfl | exact Or.inr (Or.inl rfl) | exact Or.inr (Or.inr rfl)) (hd : (x == ("__debug__" : Str)) = false := by decide) (hcd : (x == ("__classdict__" : Str)) = false := by decide)
    (hbase : attributeBase (.Name x p1) "pop" X.env (eval (.Name x p1) X.env) = eval (.Name x p1) X.env := by rfl)
    (hfew : ((backTo pos (starEach [a] X.env)).all (fun x => !x.1) && (backToKw pos (keywordEach [] X.env)).all (fun x => x.1.isSome)
      && decide (([a] : List Expr).length + ([] : List Keyword).length + (if ([] : List Keyword).isEmpty then 0 else 1) < 30)) = true := by rfl)
    (hline : (apos.endLine == pos.line) = true := by rfl) (hs : starEach [a] X.env = (false, eval a X.env) :: starEach [] X.env := by rfl) : DE X Z W (.Call (.Attribute (.Name x p1) "pop" apos) [a] [] pos) (dPopAt i ma) :=
  PE.imp (pe_bm PySem.F.plainAttrs_list PySem.F.slot_list_pop PySem.F.type_list_pop mt_popAt (pe_var hN hv hd hcd) (pa_cons ha pa_nil hs) hbase hfew hline hs rfl) fun σ H Q ⟨F, ρ, R, U, I, h, q, u⟩ => by
    unfold dPopAt at h
    split at h
    · rename_i b p ds e
      obtain ⟨vs, e1, _, _, ty⟩ := own_ty I e
      refine ⟨_, e1, ty, F, ρ, _, U, I, h, fun y ρ1 w F1 H1 I1 s1 r1 h1 => ?_, u⟩
      try dsimp only at h1
      split at h1
      · rename_i b1 p1 ds1 e1'
        split at h1
        · rename_i n
          obtain ⟨⟨n1, n2⟩, h1⟩ := h1
          obtain ⟨j, ej, h1⟩ := opt_get h1
          obtain ⟨d, ed, h1⟩ := opt_get h1
          obtain ⟨vs1, e3, hh, r, _⟩ := own_ty I1 e1'
          rw [e1] at e3
          obtain rfl : p = p1 := by injection e3 with e3; injection e3 with e3; injection e3
          obtain ⟨v, ev, rv⟩ := r.get ed
          cases r1
          rw [← r.length] at ej
          exact ⟨p, vs1, n, j, v, rfl, rfl, hh, n1, n2, ej, ev, q d _ v F1 _ (I1.write e1' (.lst (r.erase j))) s1 rv h1⟩
        · exact h1.elim
      · exact h1.elim
    · exact h.elim
/-- x[b] = a -/
def dPut (i : Nat) (b a : DT) : DSt := fun D ρ => a ρ (fun v ρ1 => match ρ1[i]? with
  | some (.own _ _ (.lst _)) => b ρ1 (fun y ρ2 => match ρ2[i]? with
    | some (.own c p (.lst ds)) => (match y with
      | .int n => opt (ixN ds.length n) fun j => D.nx (ρ2.set i (.own c p (.lst (ds.set j v))))
      | _ => False)
    | _ => False) (fun _ _ => False)
  | _ => False) D.ex
theorem ds_put (i : Nat) {x : Str} {p1 tpos : Pos} (ha : DE X Z W a ma) (hb : DE X Z W b mb) (hN : X.N[i]? = some x := by rfl) (hv : Vis X.env.scope x := by first | exact Or.inl rfl | exact Or.inr (Or.inl rfl) | exact Or.inr (Or.inr rfl)) (hd : (x == ("__debug__" : Str)) = false := by decide) (hcd : (x == ("__classdict__" : Str)) = false := by decide)
    (hset : ∀ v, assign (.Subscript (.Name x p1) b tpos) X.env v = (do
      let ov ← holding [v] (eval (.Name x p1) X.env)
      let iv ← holding [v, ov] (eval b X.env)
      standAt tpos
      holding [v, ov, iv] (setItem ov iv v)
      release [v, ov, iv] []) := by intro _; rfl)
    (hs : swapsWithSole [.Subscript (.Name x p1) b tpos] a pos.line X.env = pure false := by rfl) (hw : swappedStores [.Subscript (.Name x p1) b tpos] a X.env = pure none := by rfl)
    (h1 : (assignEach [.Subscript (.Name x p1) b tpos] X.env).map (·.2) = [assign (.Subscript (.Name x p1) b tpos) X.env] := by rfl) : DS X Z W (.Assign [.Subscript (.Name x p1) b tpos] a pos) (dPut i mb ma) :=
  PS.imp (ps_asg ha (pg_sub (pe_var hN hv hd hcd) hb set_list hset) hs hw h1) fun D' σ H ⟨F, ρ, D, I, hm, r⟩ => ⟨F, ρ, _, _, I, hm, fun v ρ1 w F1 H1 I1 s1 r1 h1 => by
    try dsimp only at h1
    split at h1
    · rename_i c p ds e
      obtain ⟨vs, e1, _, _, _⟩ := own_ty I1 e
      refine ⟨_, e1, F1, ρ1, _, _, I1, h1, fun y ρ2 u F2 H2 I2 s2 r2 h2 => ?_, fun _ _ _ _ _ _ _ _ z => z.elim⟩
      try dsimp only at h2
      split at h2
      · rename_i c2 p2 ds2 e2
        split at h2
        · rename_i n
          obtain ⟨j, ej, h2⟩ := opt_get h2
          obtain ⟨vs2, e3, hh, rl, _⟩ := own_ty I2 e2
          rw [e1] at e3
          obtain rfl : p = p2 := by injection e3 with e3; injection e3 with e3; injection e3
          cases r2
          rw [← rl.length] at ej
          exact ⟨p, vs2, n, j, rfl, rfl, hh, ej, r.nx _ σ F2 _ (I2.write e2 (.lst (Reps.set (r1.mono s2) j rl))) (s1.trans s2) h2⟩
        · exact h2.elim
      · exact h2.elim
    · exact h1.elim, r.ex σ⟩
end
end DL

namespace DL
open PyProof.Rows hiding St
open PySem PySem.Spec L2

/-! ### sets of texts: the members in a list -/
def txOf (e : Int × Value) : Str := match e.2 with
  | .str k _ => k
  | _ => Str.empty
def TxS (P : Program) (w : World) (h : Heap) (a : Addr) (L : List Str) : Prop := ∃ ob es ep tb, h.get? a = some ob ∧ ob.ExactSet ∧ ob.data = .set es ep tb ∧ ElemsOf (PySem.strKind P w) es.toList ∧ (es.toList.map txOf).Perm L ∧
  es.size < scanBound ∧ tb.fits es.size = true ∧ Ris tb.place.toList ∧ (w.params.followText "set-order" = true ∨ tb.led = true)
theorem TxS.there {P : Program} {w : World} {h h' : Heap} {a : Addr} {L : List Str} (T : TxS P w h a L) (k : ∀ u, h.get? a = some u → h'.get? a = some u) : TxS P w h' a L := by
  obtain ⟨ob, es, ep, tb, e, rest⟩ := T
  exact ⟨ob, es, ep, tb, k _ e, rest⟩
def addS (L : List Str) (x : Str) : List Str := if x ∈ L then L else x :: L
section
variable {P : Program} {w : World} {A : Around} {E : Value → Shared → Prop} {s : Shared} {a : Addr} {L : List Str}
theorem tx_shape {es : List (Int × Value)} (g : ElemsOf (PySem.strKind P w) es) {e : Int × Value} (m : e ∈ es) : ∃ k t, e.2 = .str k t := by
  obtain ⟨⟨k, is, _⟩, _⟩ := g e m
  obtain ⟨t, q⟩ := Value.isStrOf_shape (x := k) (v := e.2) is
  exact ⟨k, t, q⟩
theorem tx_mem {es : List (Int × Value)} (g : ElemsOf (PySem.strKind P w) es) (x : Str) : x ∈ es.map txOf ↔ ∃ e ∈ es, (PySem.strKind P w).is x e.2 = true := by
  rw [List.mem_map]
  refine exists_congr fun e => and_congr_right fun m => ?_
  obtain ⟨k, t, q⟩ := tx_shape g m
  unfold txOf
  rw [q]
  constructor
  · rintro rfl
    exact strKind_is P w _ t
  · intro is
    obtain ⟨t', q'⟩ := Value.isStrOf_shape (x := x) (v := Value.str k t) is
    injection q'
theorem TxS.stored {ob : Obj} {es es' : Array (Int × Value)} {ep : Nat} {tb tb' : SetTable} {h : Heap} (e : h.get? a = some ob) (ex : ob.ExactSet) (d : ob.data = .set es ep tb) (g : ElemsOf (PySem.strKind P w) es'.toList) (pm : (es'.toList.map txOf).Perm L)
    (sm : es'.size < scanBound) (ft : tb'.fits es'.size = true) (rs : Ris tb'.place.toList) (ld : w.params.followText "set-order" = true ∨ tb'.led = true) : ∃ ob', (h.update a (Obj.putSet es' tb')).get? a = some ob' ∧ ob'.ExactSet ∧ (∃ ep', ob'.data = .set es' ep' tb') ∧ TxS P w (h.update a (Obj.putSet es' tb')) a L := by
  have at_ := store_at (es' := es') (t' := tb') e d
  exact ⟨_, at_, ex, ⟨_, rfl⟩, _, es', _, tb', at_, ex, rfl, g, pm, sm, ft, rs, ld⟩
/-- the end of an add: the table may grow -/
theorem add_end {gv : Bool → Sem Unit} (quiet : ∀ (k : Bool) (t : Shared) (Q' : Unit → Shared → Prop), Q' () t → wpAny (model P w) A (gv k) Q' E t) {ob : Obj} {es es' : Array (Int × Value)} {ep : Nat} {tb tb' : SetTable}
    (e : s.heap.get? a = some ob) (ex : ob.ExactSet) (d : ob.data = .set es ep tb) (g : ElemsOf (PySem.strKind P w) es'.toList) (pm : (es'.toList.map txOf).Perm L) (sm : es'.size < scanBound) (ft : tb'.fits es'.size = true) (rs : Ris tb'.place.toList)
    (ld : w.params.followText "set-order" = true ∨ tb'.led = true) {dm : Bool} {Q : Option Bool → Shared → Prop} (fin : ∀ h', Heap.SameBut a s.heap h' → TxS P w h' a L → Q (some true) { s with heap := h' }) :
    wpAny (model P w) A (do
        storeSet a es' tb'
        if (!dm && tb'.tooFull) = true then do
            gv (relayAll tb' es' (SetTable.grown es'.size)).2.2
            storeSet a (relayAll tb' es' (SetTable.grown es'.size)).1 (relayAll tb' es' (SetTable.grown es'.size)).2.1
            pure (some true)
          else pure (some true)) Q E s := by
  obtain ⟨ob1, at1, ex1, ⟨ep1, d1⟩, T1⟩ := TxS.stored (P := P) (w := w) e ex d g pm sm ft rs ld
  have same1 : Heap.SameBut a s.heap (s.heap.update a (Obj.putSet es' tb')) := Heap.SameBut.update _ _ _
  refine wpAny_bind (wpAny_storeSet_of e d ?_ (fits_of_scanBound sm))
  by_cases full : (!dm && tb'.tooFull) = true
  · rw [if_pos full]
    have p2 := relayAll_perm tb' es' (SetTable.grown es'.size)
    have f2 := relayAll_fits tb' es' (SetTable.grown es'.size)
    have r2 := relayAll_ris tb' es' (SetTable.grown es'.size)
    have l2 := relayAll_led tb' es' (SetTable.grown es'.size)
    revert p2 f2 r2 l2
    generalize relayAll tb' es' (SetTable.grown es'.size) = relaid
    obtain ⟨es2, tb2, gave⟩ := relaid
    intro p2 f2 r2 l2
    have sz : es2.size = es'.size := by simpa using p2.length_eq
    have sm2 : es2.size < scanBound := sz ▸ sm
    refine wpAny_bind (quiet _ _ _ (wpAny_bind (wpAny_storeSet_of at1 d1 (wpAny_pure ?_) (fits_of_scanBound sm2))))
    obtain ⟨_, _, _, _, T2⟩ := TxS.stored (P := P) (w := w) at1 ex1 d1 (es' := es2) (tb' := tb2) (fun x hx => g x (p2.mem_iff.mp hx)) ((p2.map txOf).trans pm) sm2 f2 r2 (ld.imp_right fun z => l2.trans z)
    exact fin _ (same1.trans (Heap.SameBut.update _ a _)) T2
  · rw [if_neg full]
    exact wpAny_pure (fin _ same1 T1)
theorem tx_add {x : Str} {t : Tok} {Q : Bool → Shared → Prop} (T : TxS P w s.heap a L) (room : L.length + 1 < scanBound) (fin : ∀ h' k, Heap.SameBut a s.heap h' → TxS P w h' a (addS L x) → Q k { s with heap := h' }) :
    wpAny (model P w) A (setAddHashed a (.str x t) ((PySem.strKind P w).hash x)) Q E s := by
  obtain ⟨ob, es, ep, tb, e, ex, d, g, pm, sm, ft, rs, ld⟩ := T
  have is : (PySem.strKind P w).is x (.str x t) = true := strKind_is P w x t
  have quiet : ∀ (k : Bool) (t : Shared) (Q' : Unit → Shared → Prop), Q' () t → wpAny (model P w) A (match k with | true => rule "set.scan.the-table-gave-way" | false => pure ()) Q' E t := fun k t Q' q => by
    cases k
    · exact wpAny_pure q
    · exact wpAny_rule q
  unfold setAddHashed setAddHashedIn
  refine wpAny_holding (wpAny_bind (wpAny_setState_of e d ft ?_))
  dsimp only
  rw [byScan_of (show (Value.str x t).scannable = true from rfl) sm g]
  simp only [↓reduceIte]
  unfold setAddByScan
  refine wpAny_bind (wpAny_bind (wpAny_rule (wpAny_bind (wpAny_setScan_of is e d ft g ?_))))
  cases found : es.toList.findIdx? (fun y => (PySem.strKind P w).is x y.2) with
  | some j =>
    obtain ⟨lt, hit, _⟩ := List.findIdx?_eq_some_iff_getElem.mp found
    have inL : x ∈ L := pm.mem_iff.mp ((tx_mem g x).mpr ⟨_, List.getElem_mem lt, hit⟩)
    have q := fin s.heap false (Heap.SameBut.refl a _) (by
      unfold addS
      rw [if_pos inL]
      exact ⟨ob, es, ep, tb, e, ex, d, g, pm, sm, ft, rs, ld⟩)
    exact wpAny_pure (wpAny_pure q)
  | none =>
    have outL : x ∉ L := fun m => by
      obtain ⟨y, my, is'⟩ := (tx_mem g x).mp (pm.mem_iff.mpr m)
      have no := List.findIdx?_eq_none_iff.mp found y my
      rw [is'] at no
      cases no
    have lay := layNew_perm tb es ((PySem.strKind P w).hash x) (.str x t)
    have f1 := layNew_fits tb es ((PySem.strKind P w).hash x) (.str x t)
    have r1 := layNew_ris tb es ((PySem.strKind P w).hash x) (.str x t) rs
    have l1 := layNew_led tb es ((PySem.strKind P w).hash x) (.str x t)
    dsimp only
    revert lay f1 r1 l1
    generalize layNew tb es ((PySem.strKind P w).hash x) (.str x t) = laid
    obtain ⟨es1, tb1, dm, gave⟩ := laid
    intro lay f1 r1 l1
    dsimp only at lay f1 r1 l1 ⊢
    have lay2 : es1.toList.Perm (((PySem.strKind P w).hash x, Value.str x t) :: es.toList) := by
      rw [Array.toList_push] at lay
      exact lay.trans (List.perm_append_singleton _ _)
    have g1 : ElemsOf (PySem.strKind P w) es1.toList := fun y my => by
      rcases List.mem_cons.mp (lay2.mem_iff.mp my) with rfl | my
      · exact ⟨⟨x, is, rfl⟩, rfl⟩
      · exact g y my
    have pm1 : (es1.toList.map txOf).Perm (addS L x) := by
      unfold addS
      rw [if_neg outL]
      exact (lay2.map txOf).trans (pm.cons x)
    have sm1 : es1.size < scanBound := by
      have q := pm1.length_eq
      unfold addS at q
      rw [if_neg outL, List.length_map, Array.length_toList, List.length_cons] at q
      omega
    have ld1 : w.params.followText "set-order" = true ∨ tb1.led = true := ld.imp_right fun z => l1.trans z
    refine wpAny_bind (quiet _ _ _ ?_)
    split
    · refine wpAny_bind ?_
      rw [hashByValue_scannable 8 (show (Value.str x t).scannable = true from rfl)]
      refine wpAny_pure (add_end quiet e ex d g1 pm1 sm1 ?_ ?_ ?_ fun h' sb T' => wpAny_pure (fin h' true sb T'))
      · split
        · exact f1
        · exact SetTable.fits_plain_off f1
      · split <;> exact r1
      · split <;> exact ld1
    · refine wpAny_bind (wpAny_pure ?_)
      simp only [↓reduceIte]
      exact add_end quiet e ex d g1 pm1 sm1 f1 r1 ld1 fun h' sb T' => wpAny_pure (fin h' true sb T')
end
section
variable {P : Program} {w : World} {A : Around} {E : Value → Shared → Prop} {s : Shared}
theorem addS_len (L : List Str) (x : Str) : (addS L x).length ≤ L.length + 1 := by
  unfold addS
  split
  · omega
  · exact Nat.le_refl _
/-- the texts of a walk are added one by one -/
theorem tx_update {I S : Addr} {fp wr : List Addr} {G : Array GenState → Array GenState → Prop} {Pv : Nat → Value → Prop} {St : Nat → Shared → Prop} {R : Result → Shared → Prop} {n : Nat} (W : WalksS P w A.in1 I fp wr G n Pv St) (out : S ∉ fp) :
    ∀ (todo : List Str) (i : Nat) (L : List Str) (s : Shared), i + todo.length = n → (∀ j v, Pv (i + j) v → ∃ x t, todo[j]? = some x ∧ v = .str x t) → L.length + todo.length + 1 < scanBound → St i s → TxS P w s.heap S L →
      (∀ s', Moved (S :: wr) G s s' → TxS P w s'.heap S (todo.foldl addS L) → R (.ok (.ret .none)) s') → codeAny (model P w) A (.builtin "set.update.loop" ⟨[.ref S, .ref I], []⟩) R s := by
  have notW : S ∉ wr := fun m => out (W.sub _ m)
  intro todo
  induction todo with
  | nil =>
    intro i L s hi _ _ st T fin
    obtain rfl : i = n := hi
    refine codeAny_builtin F.entry_set_update_loop ?_
    rw [Around.under_plainId F.plain_set_update_loop _]
    refine wpAny_bind (m := pyNext (.ref I)) (W.done s _ _ st fun s' mv => ?_)
    exact wpAny_pure (fin s' (mv.mono fun b m => List.mem_cons_of_mem _ m) (T.there fun u e => mv.heap S u notW e))
  | cons x todo ih =>
    intro i L s hi hv room st T fin
    have room1 : L.length + (todo.length + 1) + 1 < scanBound := room
    refine codeAny_builtin F.entry_set_update_loop ?_
    rw [Around.under_plainId F.plain_set_update_loop _]
    refine wpAny_bind (m := pyNext (.ref I)) (W.item i s _ _ (by rw [← hi, List.length_cons]; omega) st fun v s1 pv st1 mv => ?_)
    obtain ⟨y, t, ey, rfl⟩ := hv 0 v pv
    obtain rfl : x = y := Option.some.inj ey
    have T1 : TxS P w s1.heap S L := T.there fun u e => mv.heap S u notW e
    refine wpAny_bind (m := holding [Value.str x t] (setAdd S (.str x t))) (wpAny_holding ?_)
    unfold setAdd
    refine wpAny_holding (wpAny_bind ((PySem.strKind P w).pyHash (strKind_is P w x t) ?_))
    refine tx_add (s := { s1 with toks := s1.toks + 1 }) T1 (by omega) fun h' k sb T2 => ?_
    have st2 : St (i + 1) { s1 with heap := h', toks := s1.toks + 1 } := W.frame _ s1 _ _ st1 (Nat.le_succ _) fun b m u e => by
      rw [sb.2 b fun z => out (z ▸ m)]
      exact e
    refine wpAny_pure ⟨plainId_quiet F.plain_set_update_loop _, ih (i + 1) (addS L x) _ (by rw [← hi, List.length_cons]; omega) (fun j v pv => ?_) (by have := addS_len L x; omega) st2 T2 fun s2 mv2 T3 => fin s2 (Moved.trans W.gtrans ((mv.mono fun b m => List.mem_cons_of_mem _ m).then_heap (Nat.le_succ _) fun b u nb e => ?_) mv2) T3⟩
    · have := hv (j + 1) v (by rw [show i + (j + 1) = i + 1 + j by omega]; exact pv)
      exact this
    · rw [sb.2 b fun z => nb (z ▸ List.mem_cons_self)]
      exact e
end
section
variable {P : Program} {w : World} {A : Around} {E : Value → Shared → Prop} {s : Shared}
/-- T(..) for a built-in T whose __init__ asks after its receiver -/
theorem type_call_asked {T idN idI : String} {b : Builtin} {as : List Value} {Q N : Value → Shared → Prop} (tc : TypeCalled T idN idI) (ok : checkTypeCall T ⟨as, []⟩ = pure ()) (en : entryFor table idI = some b)
    (new : codeAny (model P w) A.in1 (.call (.builtin idN) ⟨.type T :: as, []⟩) (wants N E) s)
    (init : ∀ o t, N o t → t.TypeIs o T ∧ (∀ Q' : Unit → Shared → Prop, Q' () t → ∀ A' E', wpAny (model P w) A' (checkBuiltinCall idI ⟨o :: as, []⟩) Q' E' t) ∧
      wpAny (model P w) A.in1.in1 (b ⟨o :: as, []⟩) (fun f t' => match f with
        | .done r => wants (fun v t'' => v = .none ∧ Q o t'') E (.ok r) t'
        | .again c => c.quiet = true ∧ codeAny (model P w) A.in1 c (wants (fun v t'' => v = .none ∧ Q o t'') E) t') (fun e t' => wants (fun v t'' => v = .none ∧ Q o t'') E (.error e) t') t) :
    wpAny (model P w) A (call (.type T) as) Q E s := by
  obtain ⟨hd, rest, lin⟩ := tc.mro
  have t1 := tc.made
  have t2 := tc.sub
  have t3 := tc.notType
  have t4 := tc.canCreate
  refine wpAny_call (codeAny_of_tree (show wpAny _ _ (callAny (.type T) _) _ _ _ from wpAny_pure ⟨Code.quiet_builtin _ (by decide +kernel), codeAny_builtin F.entry_type_call ?_⟩))
  rw [Around.under_plain (weight_type_call_type T as []) rfl]
  repeat any_goals (first | wp_step | assumption)
  refine codeAny_mono new fun r t got => ?_
  match r, got with
  | .error e, got => exact got
  | .ok (.ret o), got =>
    obtain ⟨i1, i2, i3⟩ := init o t got
    have t5 := tc.init.lookup
    have t6 := tc.init.bind o
    repeat any_goals (first | wp_step | assumption)
    refine codeAny_mono (codeAny_call_builtin tc.init.plain en (i2 _ i3 _ _)) fun r' t' got' => ?_
    match r', got' with
    | .error e, got' => exact got'
    | .ok (.ret v), got' =>
      obtain ⟨rfl, q⟩ := got'
      repeat any_goals (first | wp_step | assumption)
end
section
variable {P : Program} {w : World} {A : Around} {E : Value → Shared → Prop} {s : Shared}
/-- the set that is begun -/
def setObj0 (w : World) : Obj := { cls := .type "set", dict := none, data := .set #[] 0 (.fresh 0 0 (!w.params.followText "set-order")) }
theorem tx_none {h : Heap} {a : Addr} (e : h.get? a = some (setObj0 w)) : TxS P w h a [] := by
  refine ⟨_, #[], 0, _, e, ⟨rfl, rfl, rfl⟩, rfl, fun x m => by simp at m, List.Perm.refl _, by decide, by rfl, List.Pairwise.nil, ?_⟩
  show _ ∨ (!w.params.followText "set-order") = true
  cases w.params.followText "set-order" <;> simp
set_option maxHeartbeats 3200000 in
theorem set_of_texts {l : Addr} {its : Array Value} (xs : List Str) {Q : Value → Shared → Prop} (cold : A.handled = none) (isl : s.heap.IsList l its) (are : StrsAre its.toList xs) (few : xs.length + 1 < scanBound)
    (fin : ∀ (h' : Heap) (k : Nat), TxS P w h' s.heap.objs.size (xs.foldl addS []) → (∀ b u, s.heap.get? b = some u → h'.get? b = some u) → Q (.ref s.heap.objs.size) { s with heap := h', toks := k }) :
    wpAny (model P w) A (call (.type "set") [.ref l]) Q E s := by
  have size : its.size = xs.length := by rw [← StrsAre.len_eq are, Array.length_toList]
  let S := s.heap.objs.size
  let s0 : Shared := { s with heap := s.heap.push (setObj0 w) }
  have at0 : s0.heap.get? S = some (setObj0 w) := Heap.get?_push_size _ rfl
  have size0 : s0.heap.objs.size = S + 1 := Heap.size_push ..
  refine type_call_asked (N := fun o t => o = .ref S ∧ t = s0) F.called_set (F.typeCall_set_1 _) F.entry_set_init (code_set_led1 _ ⟨rfl, rfl⟩) fun o t eq => ?_
  obtain ⟨rfl, rfl⟩ := eq
  refine ⟨⟨_, at0, rfl⟩, fun Q' q A' E' => check_set_init_1 ⟨_, at0, rfl⟩ q, ?_⟩
  · obtain ⟨ob, lo, lc, ln, ld⟩ := isl
    obtain ⟨lcls, ldict, ldata, lslots⟩ := ob
    simp only at lc ld
    subst lc ld
    have lo1 : s0.heap.get? l = some { cls := .type "list", dict := ldict, data := .seq its ln, slots := lslots } := Heap.get?_push_of_some _ lo
    have isl1 : s0.heap.IsList l its := ⟨_, lo1, rfl, ln, rfl⟩
    have n1 := F.sub_list_set
    have n2 := F.sub_list_frozenset
    have n3 : (Value.type "list" == Value.type "dict") = false := by decide
    have at1 : s0.heap.get? S = some { cls := .type "set", dict := none, data := .set #[] 0 (.fresh 0 0 (!w.params.followText "set-order")) } := at0
    unfold Builtin.«set.__init__» noKeywords Builtin.Frozenset.updateFrom
    generalize hh : pyIter = iter
    wp_walk
    subst hh
    let s2 : Shared := { s0 with heap := s0.heap.push { cls := .type "list_iterator", data := .fields #[.ref l, .int 0 0] } }
    have lS : l < S := Heap.lt_size lo
    have lI : l ≠ s0.heap.objs.size := by rw [size0]; exact Nat.ne_of_lt (Nat.lt_succ_of_lt lS)
    have cold3 : A.in1.in1.in1.handled = none := cold
    have stay : ∀ b u, s0.heap.get? b = some u → s2.heap.get? b = some u := fun b u e => Heap.get?_push_of_some _ e
    refine wpAny_pyIter_list isl1 (wpAny_bind (wpAny_runValue ?_))
    refine tx_update (s := s2) (L := []) (i := 0) (n := its.size) (todo := xs) (S := S) (Walks.list cold3 s0.heap.objs.size l lI its).toS ?_ (by omega) (fun j v pv => ?_) (by simpa using few) ⟨⟨_, Heap.get?_push_size _ rfl, rfl, rfl⟩, isl1.push _⟩ (tx_none (stay _ _ at0)) fun s' mv T => ?_
    · rw [size0]
      simp only [List.mem_cons, List.mem_singleton, List.not_mem_nil, or_false, not_or]
      exact ⟨Nat.ne_of_lt (Nat.lt_succ_self S), fun z => Nat.lt_irrefl _ (z ▸ lS)⟩
    · have pv' : its.toList[j]? = some v := by
        rw [Array.getElem?_toList]
        simpa using pv
      have hj : j < xs.length := by
        rw [← StrsAre.len_eq are]
        exact (List.getElem?_eq_some_iff.mp pv').1
      obtain ⟨t, e⟩ := SS.strs_at are j v pv'
      refine ⟨xs[j], t, List.getElem?_eq_getElem hj, ?_⟩
      rw [e, List.getD_eq_getElem?_getD, List.getElem?_eq_getElem hj]
      rfl
    · have es : s' = { s with heap := s'.heap, toks := s'.toks } := by
        have a1 : s'.gens = s.gens := mv.gens
        have a2 : s'.drawn = s.drawn := mv.drawn
        have a3 : s'.os = s.os := mv.os
        cases s'
        cases s
        cases a1
        cases a2
        cases a3
        rfl
      refine wpAny_pure (wpAny_pure ⟨rfl, ?_⟩)
      rw [es]
      refine fin s'.heap s'.toks T fun b u e => mv.heap b u ?_ (stay b u (Heap.get?_push_of_some _ e))
      have lt : b < S := Heap.lt_size e
      rw [size0]
      simp only [List.mem_cons, List.mem_singleton, List.not_mem_nil, or_false, not_or]
      exact ⟨Nat.ne_of_lt lt, Nat.ne_of_lt (Nat.lt_succ_of_lt lt)⟩
set_option maxHeartbeats 3200000 in
theorem set_of_textsT {l : Addr} {its : Array Value} (xs : List Str) {Q : Value → Shared → Prop} (cold : A.handled = none) (isl : s.heap.IsTuple l its) (are : StrsAre its.toList xs) (few : xs.length + 1 < scanBound)
    (fin : ∀ (h' : Heap) (k : Nat), TxS P w h' s.heap.objs.size (xs.foldl addS []) → (∀ b u, s.heap.get? b = some u → h'.get? b = some u) → Q (.ref s.heap.objs.size) { s with heap := h', toks := k }) :
    wpAny (model P w) A (call (.type "set") [.ref l]) Q E s := by
  have size : its.size = xs.length := by rw [← StrsAre.len_eq are, Array.length_toList]
  let S := s.heap.objs.size
  let s0 : Shared := { s with heap := s.heap.push (setObj0 w) }
  have at0 : s0.heap.get? S = some (setObj0 w) := Heap.get?_push_size _ rfl
  have size0 : s0.heap.objs.size = S + 1 := Heap.size_push ..
  refine type_call_asked (N := fun o t => o = .ref S ∧ t = s0) F.called_set (F.typeCall_set_1 _) F.entry_set_init (code_set_led1 _ ⟨rfl, rfl⟩) fun o t eq => ?_
  obtain ⟨rfl, rfl⟩ := eq
  refine ⟨⟨_, at0, rfl⟩, fun Q' q A' E' => check_set_init_1 ⟨_, at0, rfl⟩ q, ?_⟩
  · obtain ⟨ob, lo, lc, ln, ld⟩ := isl
    obtain ⟨lcls, ldict, ldata, lslots⟩ := ob
    simp only at lc ld
    subst lc ld
    have lo1 : s0.heap.get? l = some { cls := .type "tuple", dict := ldict, data := .seq its ln, slots := lslots } := Heap.get?_push_of_some _ lo
    have isl1 : s0.heap.IsTuple l its := ⟨_, lo1, rfl, ln, rfl⟩
    have n1 := F.sub_tuple_set
    have n2 := F.sub_tuple_frozenset
    have n3 : (Value.type "tuple" == Value.type "dict") = false := by decide
    have at1 : s0.heap.get? S = some { cls := .type "set", dict := none, data := .set #[] 0 (.fresh 0 0 (!w.params.followText "set-order")) } := at0
    unfold Builtin.«set.__init__» noKeywords Builtin.Frozenset.updateFrom
    generalize hh : pyIter = iter
    wp_walk
    subst hh
    let s2 : Shared := { s0 with heap := s0.heap.push { cls := .type "tuple_iterator", data := .fields #[.ref l, .int 0 0] } }
    have lS : l < S := Heap.lt_size lo
    have lI : l ≠ s0.heap.objs.size := by rw [size0]; exact Nat.ne_of_lt (Nat.lt_succ_of_lt lS)
    have cold3 : A.in1.in1.in1.handled = none := cold
    have stay : ∀ b u, s0.heap.get? b = some u → s2.heap.get? b = some u := fun b u e => Heap.get?_push_of_some _ e
    refine wpAny_pyIter_tuple isl1 (wpAny_bind (wpAny_runValue ?_))
    refine tx_update (s := s2) (L := []) (i := 0) (n := its.size) (todo := xs) (S := S) (Walks.tuple cold3 s0.heap.objs.size l lI its).toS ?_ (by omega) (fun j v pv => ?_) (by simpa using few) ⟨⟨_, Heap.get?_push_size _ rfl, rfl, rfl⟩, isl1.push _⟩ (tx_none (stay _ _ at0)) fun s' mv T => ?_
    · rw [size0]
      simp only [List.mem_cons, List.mem_singleton, List.not_mem_nil, or_false, not_or]
      exact ⟨Nat.ne_of_lt (Nat.lt_succ_self S), fun z => Nat.lt_irrefl _ (z ▸ lS)⟩
    · have pv' : its.toList[j]? = some v := by
        rw [Array.getElem?_toList]
        simpa using pv
      have hj : j < xs.length := by
        rw [← StrsAre.len_eq are]
        exact (List.getElem?_eq_some_iff.mp pv').1
      obtain ⟨t, e⟩ := SS.strs_at are j v pv'
      refine ⟨xs[j], t, List.getElem?_eq_getElem hj, ?_⟩
      rw [e, List.getD_eq_getElem?_getD, List.getElem?_eq_getElem hj]
      rfl
    · have es : s' = { s with heap := s'.heap, toks := s'.toks } := by
        have a1 : s'.gens = s.gens := mv.gens
        have a2 : s'.drawn = s.drawn := mv.drawn
        have a3 : s'.os = s.os := mv.os
        cases s'
        cases s
        cases a1
        cases a2
        cases a3
        rfl
      refine wpAny_pure (wpAny_pure ⟨rfl, ?_⟩)
      rw [es]
      refine fin s'.heap s'.toks T fun b u e => mv.heap b u ?_ (stay b u (Heap.get?_push_of_some _ e))
      have lt : b < S := Heap.lt_size e
      rw [size0]
      simp only [List.mem_cons, List.mem_singleton, List.not_mem_nil, or_false, not_or]
      exact ⟨Nat.ne_of_lt lt, Nat.ne_of_lt (Nat.lt_succ_of_lt lt)⟩
end
def TxO (P : Program) (w : World) (a : Addr) (L : List Str) : HO := .ext fun h => TxS P w h a L
section
variable {X : Cx}
def rSetTx (P : Program) (w : World) (K : PySem.W.Frag) : List V → Hp → VK → Prop := fun xs H Q => ∃ (l : Addr) (g : List Str), xs = [.ref l] ∧ (SqL K H l (g.map V.str) ∨ SqT K H l (g.map V.str)) ∧ g.length < 64 ∧ ∀ p, H p = none → Q (.ref p) (upd H p (TxO P w p (g.foldl addS [])))
theorem cr_setTx (hc : X.calm = true) : CallR X (.type "set") (rSetTx X.prog X.w X.K) := by
  intro pins s σ H xs us Q I r ⟨l, g, e, sq, few, q⟩
  subst e
  obtain ⟨u, rfl, ru⟩ := vals1 r
  obtain rfl : u = Value.ref l := ru
  have lim : g.length + 1 < scanBound := by unfold scanBound; omega
  have fin : ∀ (h' : Heap) (k : Nat), TxS X.prog X.w h' s.heap.objs.size (g.foldl addS []) → (∀ b u, s.heap.get? b = some u → h'.get? b = some u) → EP X pins σ Q (.ref s.heap.objs.size) { s with heap := h', toks := k } := fun h' k T keep => by
    refine ⟨.ref s.heap.objs.size, _, I.laid keep (Nat.le_refl _) (show ObjOk X.prog X.w (upd H _ (TxO X.prog X.w _ (g.foldl addS []))) h' _ (TxO X.prog X.w _ (g.foldl addS [])) from ⟨T, ?_, fun h1 h2 p k => TxS.there p k⟩), rfl, q _ (I.hok.fresh (Nat.le_refl _))⟩
    obtain ⟨ob, _, _, _, e, _⟩ := T
    exact ⟨ob, e⟩
  rcases sq with sq | sq
  · obtain ⟨its, rv, isl, _⟩ := I.list sq
    exact set_of_texts g (I.ok.hd hc) isl.isList (by simpa using Vals.strs rv) lim fin
  · obtain ⟨its, rv, isl, _⟩ := I.tuple sq
    obtain ⟨o, h1, h2, n, h3⟩ := isl
    exact set_of_textsT g (I.ok.hd hc) ⟨o, h1, h2, n, h3⟩ (by simpa using Vals.strs rv) lim fin
def rSortTx (P : Program) (w : World) : List V → Hp → VK → Prop := fun xs H Q => ∃ (a : Addr) (L : List Str), xs = [.ref a] ∧ H a = some (TxO P w a L) ∧ L.length < 64 ∧ ∀ ys p, ys.Perm L → sortedS ys = true → H p = none → Q (.ref p) (upd H p (.lst (ys.map V.str)))
theorem cr_sortTx (hc : X.calm = true) : CallR X (.builtin "sorted") (rSortTx X.prog X.w) := by
  intro pins s σ H xs us Q I r ⟨a, L, e, ha, few, q⟩
  subst e
  obtain ⟨u, rfl, ru⟩ := vals1 r
  obtain rfl : u = Value.ref a := ru
  have T : TxS X.prog X.w s.heap a L := (I.hok a _ ha).1
  obtain ⟨ob, es, ep, tb, at_, ex, d, g, pm, sm, ft, rs, ld⟩ := T
  refine sorted_texts (fun g => g.Perm L) (fun g p => by rw [p.length_eq]; exact few) (fun Q' k => ?_) fun g ys p gp yp ys' np => q ys p (yp.trans gp) ys' np
  refine collect_set (A := X.A.in1) (I.ok.hd hc) ⟨ob, at_, ex.1, d⟩ ft sm rs ld fun s' out keep _ gens os op => ?_
  have J : Inv X pins σ H s' := I.call' (ch := []) os (Un.kept keep) (I.hok.kept keep) (by rw [gens]; exact I.bare) (fun _ z => nomatch z)
  have shape : ∀ v ∈ out, ∃ x t, v = Value.str x t := fun v m => by
    obtain ⟨e, me, rfl⟩ := List.mem_map.mp (op.mem_iff.mp m)
    exact tx_shape g me
  have are : StrsAre out (out.map strOf) := by
    clear op k
    induction out with
    | nil => exact .nil
    | cons v out ih =>
      obtain ⟨x, t, rfl⟩ := shape v List.mem_cons_self
      exact .cons x t (ih fun v m => shape v (List.mem_cons_of_mem _ m))
  refine k s' out _ J are ?_
  have p1 := op.map strOf
  rw [List.map_map] at p1
  refine (p1.trans (List.Perm.of_eq (List.map_congr_left fun e m => ?_))).trans pm
  obtain ⟨x, t, e2⟩ := tx_shape g m
  show strOf e.2 = txOf e
  unfold txOf
  rw [e2]
  rfl
end
/-- sorted(set(texts)) -/
def tx (L : List (List Nat)) (x : List Nat) : List (List Nat) := if x ∈ L then L else x :: L
def dd (ls : List (List Nat)) : List (List Nat) := ls.foldl tx []
theorem mkS_inj {a b : List Nat} (e : mkS a = mkS b) : a = b := by simpa using congrArg (fun s : Str => s.cps.toList) e
theorem adds_mk : ∀ (ls L : List (List Nat)), (ls.map mkS).foldl addS (L.map mkS) = (ls.foldl tx L).map mkS
  | [], L => rfl
  | x :: r, L => by
    have e : addS (L.map mkS) (mkS x) = (tx L x).map mkS := by
      unfold addS tx
      by_cases m : x ∈ L
      · rw [if_pos m, if_pos (List.mem_map_of_mem m)]
      · rw [if_neg m, if_neg fun z => m (by
          obtain ⟨y, my, ey⟩ := List.mem_map.mp z
          exact mkS_inj ey ▸ my)]
        rfl
    show (r.map mkS).foldl addS (addS (L.map mkS) (mkS x)) = (r.foldl tx (tx L x)).map mkS
    rw [e]
    exact adds_mk r _
theorem dd_mem (x : List Nat) : ∀ (ls L : List (List Nat)), x ∈ ls.foldl tx L ↔ x ∈ ls ∨ x ∈ L
  | [], L => by simp
  | y :: r, L => by
    show x ∈ r.foldl tx (tx L y) ↔ _
    rw [dd_mem x r]
    unfold tx
    split
    · rename_i m
      simp only [List.mem_cons]
      constructor
      · rintro (h | h)
        · exact .inl (.inr h)
        · exact .inr h
      · rintro ((rfl | h) | h)
        · exact .inr m
        · exact .inl h
        · exact .inr h
    · simp only [List.mem_cons]
      constructor
      · rintro (h | rfl | h)
        · exact .inl (.inr h)
        · exact .inl (.inl rfl)
        · exact .inr h
      · rintro ((rfl | h) | h)
        · exact .inr (.inl rfl)
        · exact .inl h
        · exact .inr (.inr h)
theorem dd_nodup : ∀ (ls L : List (List Nat)), L.Nodup → (ls.foldl tx L).Nodup
  | [], L, h => h
  | y :: r, L, h => dd_nodup r _ (by
    unfold tx
    split
    · exact h
    · rename_i m
      exact List.nodup_cons.mpr ⟨m, h⟩)
theorem dd_len : ∀ (ls L : List (List Nat)), (ls.foldl tx L).length ≤ ls.length + L.length
  | [], L => by simp
  | y :: r, L => by
    have h := dd_len r (tx L y)
    have : (tx L y).length ≤ L.length + 1 := by
      unfold tx
      split
      · omega
      · exact Nat.le_refl _
    show (r.foldl tx (tx L y)).length ≤ _
    rw [List.length_cons]
    omega
def dSortSet (a : DT) : DO := fun ρ R U => a ρ (fun x ρ1 => opt (itemsD x) fun ds => opt (strsD ds) fun ls => ls.length < 64 ∧ R (.lst ((srtL (dd ls)).map Dt.str)) ρ1) U
theorem d_sortSet {X : Cx} {Z : Fm} {W : WX} {a : Expr} {ma : DT} {p1 p2 p3 pos : Pos} (ha : DE X Z W a ma) (hc : X.calm = true := by rfl) (g1 : Gl X "sorted" := by rfl) (m1 : X.mg "sorted" = none := by rfl) (g2 : Gl X "set" := by rfl) (m2 : X.mg "set" = none := by rfl)
    (hs : starEach [a] X.env = (false, eval a X.env) :: starEach [] X.env := by rfl) : DOk X Z W (.Call (.Name "sorted" p1) [.Call (.Name "set" p2) [a] [] p3] [] pos) (dSortSet ma) :=
  PE.imp (pe_callB (cr_sortTx hc) g1 m1 rfl (pa_cons (pe_callTy (cr_setTx hc) g2 m2 rfl (pa_cons ha pa_nil hs) (he := hs)) pa_nil)) fun σ H Q ⟨F, ρ, R, U, I, hm, q, u⟩ =>
    ⟨F, ρ, _, U, I, hm, fun x ρ1 v F1 H1 I1 s1 r1 h1 => by
        obtain ⟨ds, e0, h1⟩ := opt_get h1
        obtain ⟨ls, e, few, h2⟩ := opt_get h1
        obtain ⟨ad, vs, rfl, sq, r⟩ := items_sq I1 r1 e0
        obtain rfl := strsD_of e
        obtain ⟨hv, hz⟩ := r.strs
        subst hv
        refine ⟨_, ls.map mkS, rfl, sq, by rw [List.length_map]; exact few, fun p np => ⟨p, (dd ls).map mkS, rfl, ?_, ?_, fun ys p' hp hs' np' => ?_⟩⟩
        · have := adds_mk ls []
          show upd H1 p _ p = _
          rw [upd_same]
          exact congrArg (fun L => some (TxO X.prog X.w p L)) this
        · have := dd_len ls []
          rw [List.length_map]
          unfold dd
          simp only [List.length_nil] at this
          omega
        · rw [sorted_srtL hp hs']
          have I2 : DI X.K Z F1 (upd H1 p (TxO X.prog X.w p ((ls.map mkS).foldl addS []))) σ ρ1 := I1.freshO np
          have rr : Reps X.K F1 (((srtL (dd ls)).map mkS).map V.str) ((srtL (dd ls)).map Dt.str) := srt_reps fun l hl => hz l (by
            have := (dd_mem l ls []).mp hl
            simpa using this)
          exact q _ ρ1 p' F1 _ (I2.freshO np') s1 (I2.newAt np' (.lst rr)) h2, u⟩
end DL

namespace DL
open PyProof.Rows hiding St
open PySem PySem.Spec L2

/-! ### f(e), e a new object -/
theorem DI.afterT {K : PySem.W.Frag} {Z : Fm} {F H F' H' : Hp} {σ : St} {ρ : En} {p : Addr} {o : MO} (I : DI K Z F H σ ρ) (N : NewAt K Z F H ρ p o) (A : Aft Z.T K F H [p] F' H') : DI K Z F' H' σ ρ := by
  obtain ⟨hp, atp, _⟩ := N.at_
  have keep : ∀ a u, a ≠ p → H a = some u → (∃ t ∈ Z.T, t.1 = a) ∨ H' a = some u := fun a u n e => by
    rcases A.keep a u e with y | y
    · exact absurd (List.mem_singleton.mp y) n
    · exact y
  have clear : ∀ a u, F a = none → H a = some u → F' a = none := fun a u f e => by
    cases q : F' a with
    | none => rfl
    | some u' =>
      rcases A.fnew a u' q with ⟨u2, z⟩ | z
      · rw [f] at z
        cases z
      · rw [e] at z
        cases z
  exact { f0 := I.f0.trans A.f0, fh := A.fh
          fnew := fun a o h => (A.fnew a o h).elim (fun ⟨o', h'⟩ => I.fnew a o' h') fun h' => .inr (I.free0 h')
          keep := fun a o h => (I.keep a o h).elim .inl fun z => (keep a o (fun e => by rw [e, N.h0] at h; cases h) z).imp_left fun ⟨t, ht, e⟩ => e ▸ I.tabB t ht
          bor := fun b hb => by
            obtain ⟨o, h⟩ := I.bor b hb
            rcases keep b o (fun e => N.nb (e ▸ hb)) h with ⟨t, ht, rfl⟩ | y
            · obtain ⟨ps, h1, _⟩ := A.tab t ht
              exact ⟨_, h1⟩
            · exact ⟨o, y⟩
          len := I.len
          sl := fun i s h => by
            obtain ⟨ov, e1, r⟩ := I.sl i s h
            subst_vars
            cases s with
            | no => exact ⟨ov, e1, trivial⟩
            | exc q C d fs =>
              obtain ⟨e2, z, x⟩ := r
              exact ⟨ov, e1, e2, z, x.mono A.f0⟩
            | dat d =>
              obtain ⟨v, e2, rv⟩ := r
              exact ⟨ov, e1, v, e2, rv.mono A.f0⟩
            | own b q o' =>
              obtain ⟨e2, fq, ho, hq, rq⟩ := r
              rcases keep q ho (N.ne i b q o' h) hq with ⟨t, ht, rfl⟩ | y
              · obtain ⟨ps, h1, _⟩ := I.tab t ht
                rw [h1] at hq
                exact absurd (Option.some.inj hq).symm ((NoTab.rep rq).1 ps)
              · exact ⟨ov, e1, e2, clear q ho fq hq, ho, y, rq.mono A.f0⟩
          ownB := I.ownB, dis := I.dis
          pin := fun a u h => by
            obtain ⟨h1, h2, h3, h4⟩ := I.pin a u h
            rcases keep a u (fun e => by rw [e, N.np] at h; cases h) h1 with ⟨t, ht, rfl⟩ | y
            · exact absurd (I.tabB t ht) h3
            · exact ⟨y, clear a u h2 h1, h3, h4⟩
          ownP := I.ownP, tab := A.tab, tabB := I.tabB, tabF := A.tabF }
def dCallT (s : SpD) (o : DO) : DT := fun ρ R U => o ρ (fun x ρ1 => ∀ p, s [.own false p x] (fun rv _ => match rv.toD with
  | some d => R d ρ1
  | none => False) (fun x _ => U x ρ1)) U
section
variable {X : Cx} {Z : Fm} {W : WX} {k : Nat} {f C : Addr} {fd : FuncData} {ps : List Str} {s : SpD} {x m : Str} {p pos apos : Pos} {e o a b c : Expr} {es : List Expr} {ma mb mo : DT} {mO : DO}
theorem d_callT (hr : Room k X.A) (hgd : X.A.guards = some []) (D : Fd Z.T X.prog X.w X.K X.mg X.base k f ps fd s) (hm : X.mg x = some (.ref f)) (hb : BindK X.K fd ps mkP) (hx : Pass X W) (he : DOk X Z W e mO) (hg : Gl X x := by rfl) (hdb : (x == ("__debug__" : Str)) = false := by decide)
    (hs : starEach [e] X.env = (false, eval e X.env) :: starEach [] X.env := by rfl) : DE X Z W (.Call (.Name x p) [e] [] pos) (dCallT s mO) := by
  refine ⟨fun pins s0 σ H Q I ⟨F, ρ, R, U, Id, hd, q, u⟩ => ?_⟩
  refine wpAny_Call_Name_kw (ld_glob I hg hm ?_ hdb)
  refine PySem.W.callWith_K (h₀ := X.base) I.ok.mod.kin D.kp (thn ((pa_cons he pa_nil hs).run pos pins s0 σ H (fun vs H1 => spOf Z.T X.K s vs H1 Q (fun cls d H' => W cls d σ H')) I ?_) fun us s1 ⟨vs, H1, I1, r, h1⟩ => ⟨I1.kIn, ?_⟩) hs rfl
  · refine ⟨F, ρ, _, U, Id, hd, fun x ρ1 p F1 H1 I1 s1 N h1 => ?_, u⟩
    refine ⟨F1, [.own false p x], I1.fh, .cons ⟨rfl, N.fr, N.at_⟩ .nil, by simp [owns], ⟨I1.tab, I1.tabF⟩, D.mono _ _ _ _ _ (fun rv outs hr => ?_) (fun y outs hu => ?_) (h1 p)⟩
    · intro v F' H' A O rv'
      have A' : Aft Z.T X.K F1 H1 [p] F' H' := A
      have I' := I1.afterT N A'
      cases rv with
      | d d' => exact q d' ρ1 v F' H' I' (s1.trans A.f0) rv' hr
      | o o' =>
        obtain ⟨p', rfl, f', h', at'⟩ := rv'
        have hr' : (match o'.toD with | some d => R d ρ1 | none => False) := hr
        have N' : NewAt X.K Z F' H' ρ1 p' o' := ⟨f', at', I1.free0 h', I1.freeB h', I1.freeP h', fun i b q2 o2 e2 => by
          obtain ⟨_, _, ho, hh, _⟩ := I1.slotO e2
          exact ne_of_none hh h'⟩
        split at hr'
        · rename_i d ed
          obtain ⟨ho, I3, s3, r⟩ := I'.freeze N' ed
          exact q d ρ1 _ _ H' I3 (s1.trans (A.f0.trans s3)) r hr'
        · exact hr'.elim
    · intro d F' H' A O xa
      have A' : Aft Z.T X.K F1 H1 [p] F' H' := A
      exact u y ρ1 F' H' d (I1.afterT N A') (s1.trans A.f0) xa hu
  · exact run_G (args := mkP us) D.ok hr hgd (fun s Ks hl => hb s us Ks hl) (hx σ) I1 r h1

/-! ### constants of the module -/
theorem d_glob {v : V} {u : Value} {d : Dt} (hm : X.mg x = some u) (r : RelV v u) (rp : ∀ F, Rep X.K F v d) (hg : Gl X x := by rfl) (hdb : (x == ("__debug__" : Str)) = false := by decide) : DE X Z W (.Name x pos) (dC d) := DE.const (pe_glob hg hm r hdb) rp
theorem d_globI {i : Int} {t : Tok} (hm : X.mg x = some (.int i t)) (hg : Gl X x := by rfl) (hdb : (x == ("__debug__" : Str)) = false := by decide) : DE X Z W (.Name x pos) (dC (.int i)) := d_glob (v := .int i) hm ⟨t, rfl⟩ (fun _ => .int i) hg hdb
theorem d_globS {z : Str} {t : Tok} {l : List Nat} (hm : X.mg x = some (.str z t)) (hl : z.cps.toList = l := by decide +kernel) (h : l.length ≤ 1000 := by decide) (hg : Gl X x := by rfl) (hdb : (x == ("__debug__" : Str)) = false := by decide) : DE X Z W (.Name x pos) (dC (.str l)) := by
  subst hl
  exact d_glob (v := .str z) hm ⟨t, rfl⟩ (fun _ => rep_str (kilo_line h)) hg hdb

/-! ### fields -/
/-- the classes whose field f is a plain one -/
def PlainF (K : PySem.W.Frag) (f : Str) (Cs : List Addr) : Prop := ∀ C ∈ Cs, Cls K C ∧ NoAttr K C f
def dFld (Cs : List Addr) (f : Str) (a : DT) : DT := fun ρ R U => a ρ (fun x ρ1 => match x with
  | .ins C fs => C ∈ Cs ∧ opt (fs.lookup f) fun d => R d ρ1
  | _ => False) U
theorem d_fld {f : Str} {Cs : List Addr} (hf : PlainF X.K f Cs) (ha : DE X Z W a ma) (hb : attributeBase a f X.env (eval a X.env) = eval a X.env := by rfl) : DE X Z W (.Attribute a f pos) (dFld Cs f ma) :=
  PE.imp (pe_fld ha hb) fun σ H Q ⟨F, ρ, R, U, I, hm, q, u⟩ => ⟨F, ρ, _, U, I, hm, fun x ρ1 v F1 H1 I1 s1 r1 h1 => by
    cases r1 with
    | ins hh r =>
      obtain ⟨hC, h1⟩ := h1
      obtain ⟨d, e, h2⟩ := opt_get h1
      obtain ⟨v, e2, rv⟩ := r.lookup e
      exact ⟨_, _, _, _, v, rfl, I1.fh _ _ hh, (hf _ hC).1, (hf _ hC).2, e2, q d ρ1 v F1 H1 I1 s1 rv h2⟩
    | _ => exact h1.elim, u⟩
/-- the field of an own instance -/
def dFldO (i : Nat) (Cs : List Addr) (f : Str) : DT := fun ρ R _ => match ρ[i]? with
  | some (.own _ _ (.ins C fs)) => C ∈ Cs ∧ opt (fs.lookup f) fun d => R d ρ
  | _ => False
/-- x.f = e, x an own instance -/
def dFldSet (i : Nat) (Cs : List Addr) (f : Str) (a : DT) : DSt := fun D ρ => a ρ (fun v ρ1 => match ρ1[i]? with
  | some (.own b p (.ins C fs)) => (C ∈ Cs ∧ fs.length < 1000) ∧ D.nx (ρ1.set i (.own b p (.ins C (putD f v fs))))
  | _ => False) D.ex
theorem ds_fld (i : Nat) {f : Str} {Cs : List Addr} {p1 pos' : Pos} (hf : PlainF X.K f Cs) (ha : DE X Z W a ma) (hN : X.N[i]? = some x := by rfl) (hv : Vis X.env.scope x := by first | exact Or.inl rfl | exact Or.inr (Or.inl rfl) | exact Or.inr (Or.inr rfl)) (hd : (x == ("__debug__" : Str)) = false := by decide)
    (hcd : (x == ("__classdict__" : Str)) = false := by decide) (hs : swapsWith a (some (.Attribute (.Name x p1) f pos')) pos.line X.env = pure false := by rfl) : DS X Z W (.Assign [.Attribute (.Name x p1) f pos'] a pos) (dFldSet i Cs f ma) :=
  PS.imp (ps_fld (pe_var hN hv hd hcd) ha hs) fun D' σ H ⟨F, ρ, D, I, hm, r⟩ => ⟨F, ρ, _, _, I, hm, fun v ρ1 w F1 H1 I1 s1 r1 h1 => by
    try dsimp only at h1
    split at h1
    · rename_i b p C fs e
      obtain ⟨⟨hC, hl⟩, h1⟩ := h1
      obtain ⟨e1, _, ho, hh, ro⟩ := I1.slotO e
      cases ro with
      | ins rf => exact ⟨_, e1, _, _, _, _, rfl, hh, (hf _ hC).1, (hf _ hC).2, by rw [rf.length]; exact hl, r.nx _ σ F1 _ (I1.write e (.ins (rf.put r1))) s1 h1⟩
    · exact h1.elim, r.ex σ⟩

/-! ### isinstance -/
/-- what the type of an own class is asked -/
structure OwnTy (K : PySem.W.Frag) (C : Addr) : Prop where
  cl : Cls K C
  ha : PySem.W.findIn K (.ref C) "__class__" = some (some (.builtin "object.__class__"))
  hn : PySem.W.specialIn K (.builtin "object.__class__") "__get__" = some (some (.builtin "getset_descriptor.__get__"))
  tk : PySem.W.takesIn K (.builtin "object.__class__") = some true
  hm : PySem.W.mroIn K C (.type "object") = some true
def tyD : Dt → Value
  | .non => .type "NoneType"
  | .bl _ => .type "bool"
  | .int _ => .type "int"
  | .str _ => .type "str"
  | .tup _ => .type "tuple"
  | .lst _ => .type "list"
  | .scr _ => .type "list"
  | .dct _ => .type "dict"
  | .ins C _ => .ref C
/-- g says what isinstance(x, the class u) answers -/
def IsA (K : PySem.W.Frag) (u : Value) (g : Dt → Option Bool) : Prop := ∀ d b, g d = some b → PySem.W.kitOne K (tyD d) u = some b ∧ ∀ C fs, d = .ins C fs → OwnTy K C
theorem ty_ok {K : PySem.W.Frag} {F H : Hp} {v : V} {d : Dt} (s : Same F H) (r : Rep K F v d) (o : ∀ C fs, d = .ins C fs → OwnTy K C) : TyX K H v (tyD d) := by
  cases r with
  | non => exact .base .non
  | bl b => exact .base (.bl b)
  | int i => exact .base (.int i)
  | str l h => exact .base (.str _)
  | tup h r =>
    rcases sameT s h with (h | ⟨o, h⟩) | ⟨o, its, n, h, c, _⟩
    · exact .base (.tup h)
    · exact .fTuple h
    · exact .kTuple h c
  | lst h r => exact .base (.lst (s _ _ h))
  | scr h r =>
    rcases s.seq h with (h | ⟨o, h⟩) | ⟨o, its, n, h, c, _⟩
    · exact .base (.lst h)
    · exact .base (.frz h)
    · exact .kList h c
  | dct h r => exact .base (.dK (s _ _ h))
  | ins h r =>
    have w := o _ _ rfl
    exact .base (.ins (s _ _ h) w.cl w.ha w.hn w.tk w.hm)
def dIsi (g : Dt → Option Bool) (a : DT) : DT := fun ρ R U => a ρ (fun x ρ1 => opt (g x) fun b => R (.bl b) ρ1) U
theorem d_isi {g : Dt → Option Bool} {c : V} {u : Value} {n : Expr} {p1 : Pos} (hA : IsA X.K u g) (hc : PE X n (tC c)) (hk : ClsV c u) (ha : DE X Z W a ma) (hg : Gl X "isinstance" := by rfl) (hm : X.mg "isinstance" = none := by rfl)
    (h1 : starEach [a, n] X.env = (false, eval a X.env) :: starEach [n] X.env := by rfl) (h2 : starEach [n] X.env = (false, eval n X.env) :: starEach [] X.env := by rfl) (hpl : (backTo pos (starEach [n] X.env)).any (·.1) = false := by rfl) : DE X Z W (.Call (.Name "isinstance" p1) [a, n] [] pos) (dIsi g ma) :=
  PE.imp (pe_callB call_isi hg hm rfl (pa_cons ha (pa_cons hc pa_nil h2) h1) (he := h1) (hpl := hpl)) fun σ H Q ⟨F, ρ, R, U, I, hm, q, u'⟩ => ⟨F, ρ, _, U, I, hm, fun x ρ1 v F1 H1 I1 s1 r1 h1 => by
    obtain ⟨b, e, h2⟩ := opt_get h1
    obtain ⟨k1, k2⟩ := hA x b e
    exact ⟨v, c, _, u, b, rfl, hk, ty_ok I1.fh r1 k2, k1, q (.bl b) ρ1 _ F1 H1 I1 s1 (.bl b) h2⟩, u'⟩
/-- a built-in class; Cs: own classes that are none of it -/
inductive Bt where
  | non | bl | int | str | tup | lst | dct
def Bt.nm : Bt → String
  | .non => "NoneType"
  | .bl => "bool"
  | .int => "int"
  | .str => "str"
  | .tup => "tuple"
  | .lst => "list"
  | .dct => "dict"
def isB (t : Bt) (Cs : List Addr) : Dt → Option Bool
  | .non => some (match t with | .non => true | _ => false)
  | .bl _ => some (match t with | .bl => true | .int => true | _ => false)
  | .int _ => some (match t with | .int => true | _ => false)
  | .str _ => some (match t with | .str => true | _ => false)
  | .tup _ => some (match t with | .tup => true | _ => false)
  | .lst _ => some (match t with | .lst => true | _ => false)
  | .scr _ => some (match t with | .lst => true | _ => false)
  | .dct _ => some (match t with | .dct => true | _ => false)
  | .ins C _ => if C ∈ Cs then some false else none
theorem isB_ok {K : PySem.W.Frag} (t : Bt) (Cs : List Addr) (h : ∀ C ∈ Cs, PySem.W.kitOne K (.ref C) (.type t.nm) = some false ∧ OwnTy K C) : IsA K (.type t.nm) (isB t Cs) := by
  have base : ∀ (n : String) (r : Bool), kitB n t.nm = some r → PySem.W.kitOne K (.type n) (.type t.nm) = some r := fun n r e => kit_ty e
  intro d b e
  cases d with
  | ins C fs =>
    have e' : (if C ∈ Cs then some false else none) = some b := e
    split at e'
    · rename_i m
      obtain rfl := Option.some.inj e'
      exact ⟨(h C m).1, fun C' fs' z => by injection z with z _; subst z; exact (h C m).2⟩
    · cases e'
  | non => obtain rfl := Option.some.inj e; exact ⟨base _ _ (by cases t <;> decide +kernel), fun _ _ z => nomatch z⟩
  | bl _ => obtain rfl := Option.some.inj e; exact ⟨base _ _ (by cases t <;> decide +kernel), fun _ _ z => nomatch z⟩
  | int _ => obtain rfl := Option.some.inj e; exact ⟨base _ _ (by cases t <;> decide +kernel), fun _ _ z => nomatch z⟩
  | str _ => obtain rfl := Option.some.inj e; exact ⟨base _ _ (by cases t <;> decide +kernel), fun _ _ z => nomatch z⟩
  | tup _ => obtain rfl := Option.some.inj e; exact ⟨base _ _ (by cases t <;> decide +kernel), fun _ _ z => nomatch z⟩
  | lst _ => obtain rfl := Option.some.inj e; exact ⟨base _ _ (by cases t <;> decide +kernel), fun _ _ z => nomatch z⟩
  | scr _ => obtain rfl := Option.some.inj e; exact ⟨base _ _ (by cases t <;> decide +kernel), fun _ _ z => nomatch z⟩
  | dct _ => obtain rfl := Option.some.inj e; exact ⟨base _ _ (by cases t <;> decide +kernel), fun _ _ z => nomatch z⟩
/-! ### repr -/
mutual
theorem plain_no : ∀ d : PyData, d.plain = true → d.hasDict = false
  | .none, _ => rfl
  | .bool _, _ => rfl
  | .int _, _ => rfl
  | .str _, _ => rfl
  | .list xs, h => by
    rw [PyData.plain] at h
    rw [PyData.hasDict]
    exact plain_nos xs h
  | .tuple xs, h => by
    rw [PyData.plain] at h
    rw [PyData.hasDict]
    exact plain_nos xs h
  | .dict _, h => by simp [PyData.plain] at h
theorem plain_nos : ∀ xs : List PyData, PyData.plainAll xs = true → PyData.hasDictAll xs = false
  | [], _ => rfl
  | x :: xs, h => by
    rw [PyData.plainAll, Bool.and_eq_true] at h
    rw [PyData.hasDictAll, plain_no x h.1, plain_nos xs h.2]
    rfl
end
def rRepr (K : PySem.W.Frag) : List V → Hp → VK → Prop := fun xs H Q => ∃ x d, xs = [x] ∧ Dp K H x d ∧ d.plain = true ∧ d.showable = true ∧ d.depth ≤ 8 ∧ d.shown.length ≤ sizeLine ∧ Q (.str d.shown) H
theorem cr_repr (hgd : X.A.guards = some []) (hu : X.A.units + 64 < cLine) : CallR X (.builtin "repr") (rRepr X.K) := by
  intro pins s0 σ H xs us Q I r ⟨x, d, e, hd, hp, hs, hk, hz, q⟩
  subst e
  obtain ⟨u, rfl, ru⟩ := vals1 r
  have h0 := hd
  cases hd with
  | non => obtain rfl : u = .none := ru; exact P.repr_of_none ⟨.str _, H, I.tok _, ⟨_, rfl⟩, q⟩
  | bl b => obtain rfl : u = .bool b := ru; exact P.repr_of_bool ⟨.str _, H, I.tok _, ⟨_, rfl⟩, by cases b <;> exact q⟩
  | int i =>
    obtain ⟨t, rfl⟩ := ru
    have hs' : decide (i.natAbs.log2 < 1920) = true := hs
    exact P.repr_of_int (of_decide_eq_true hs') ⟨.str _, H, I.tok _, ⟨_, rfl⟩, q⟩
  | str z =>
    obtain ⟨t, rfl⟩ := ru
    exact P.repr_of_str ⟨.str _, H, I.tok _, ⟨_, rfl⟩, q⟩ hz
  | lst sq al =>
    obtain ⟨as, rd⟩ := Dp.reads I _ _ u h0 ru
    cases ru
    exact repr_of_reads' rd hs (PyData.noDict_hsm (plain_no _ hp)) hgd (by omega) (fun _ _ e => e) (fun h' t tk keep => ⟨.str _, H, I.kept keep, ⟨t, rfl⟩, q⟩) hz
  | tup sq al =>
    obtain ⟨as, rd⟩ := Dp.reads I _ _ u h0 ru
    cases ru
    exact repr_of_reads' rd hs (PyData.noDict_hsm (plain_no _ hp)) hgd (by omega) (fun _ _ e => e) (fun h' t tk keep => ⟨.str _, H, I.kept keep, ⟨t, rfl⟩, q⟩) hz
end
/-! ### a, b = e, e' with new objects -/
section
variable {K : PySem.W.Frag} {Z : Fm} {F H F' H' : Hp} {σ : St} {ρ ρ' : En} {p : Addr} {o : MO}
theorem unpin_new {ho : HO} (N : NewAt K Z F H ρ p o) (rep : RepO K F ho o) (s : Same F F') (I : DI K { Z with P := upd Z.P p ho } F' H' σ ρ') : DI K Z F' H' σ ρ' ∧ NewAt K Z F' H' ρ' p o := by
  have I' : DI K Z F' H' σ ρ' := I.unpin fun a u e => by
    show upd Z.P p ho a = some u
    rw [upd_ne fun z => by rw [z, N.np] at e; cases e]
    exact e
  obtain ⟨h1, h2, h3, h4⟩ := I.pin p ho (show upd Z.P p ho p = some ho from upd_same)
  refine ⟨I', h2, ⟨ho, h1, rep.mono s⟩, h4, h3, N.np, fun i b q o' e z => ?_⟩
  have := I.ownP i b q o' e
  rw [z] at this
  have e2 : upd Z.P p ho p = none := this
  rw [upd_same] at e2
  cases e2
end
/-- a new object first, then data -/
def dParOD (i j : Nat) (a : DO) (b : DT) : DSt := fun D ρ => a ρ (fun o ρ1 => ∀ p, b ρ1 (fun y ρ2 => D.nx ((ρ2.set i (.own false p o)).set j (.dat y))) (fun _ _ => False)) D.ex
/-- two new objects -/
def dParOO (i j : Nat) (a b : DO) : DSt := fun D ρ => a ρ (fun o ρ1 => ∀ p, b ρ1 (fun o2 ρ2 => ∀ p2, D.nx ((ρ2.set i (.own false p o)).set j (.own false p2 o2))) (fun _ _ => False)) D.ex
/-- data first, then a new object -/
def dParDO (i j : Nat) (a : DT) (b : DO) : DSt := fun D ρ => a ρ (fun y ρ1 => b ρ1 (fun o ρ2 => ∀ p, D.nx ((ρ2.set i (.dat y)).set j (.own false p o))) D.ex) D.ex
section
variable {X : Cx} {Z : Fm} {W : WX} {i j l : Nat} {x y z : Str} {a b c : Expr} {ma mb mc : DT} {oa ob : DO} {pos px py pz pt pt2 : Pos} {kt k2 : Nat}
theorem new_set {K : PySem.W.Frag} {Z : Fm} {F H : Hp} {ρ : En} {p : Addr} {o : MO} {s : Sl} (N : NewAt K Z F H ρ p o) (n : ∀ b q o', s = .own b q o' → q ≠ p) : NewAt K Z F H (ρ.set i s) p o :=
  ⟨N.fr, N.at_, N.h0, N.nb, N.np, fun k b q o' e => by
    rcases get_set e with ⟨_, _, e'⟩ | ⟨_, e'⟩
    · exact n b q o' e'.symm
    · exact N.ne k b q o' e'⟩
theorem ds_parOD (hc : X.calm = true) (hN : X.N.Nodup) (ha : DOk X Z W a oa) (hb : ∀ Z, DE X Z W b mb) (hi : X.N[i]? = some x := by rfl) (hj : X.N[j]? = some y := by rfl) (hij : i ≠ j := by decide)
    (hx : X.env.scope.names.lookup x = some .local := by rfl) (hy : X.env.scope.names.lookup y = some .local := by rfl)
    (hw : swappedStores [.Tuple [.Name x px, .Name y py] kt pt] (.Tuple [a, b] k2 pt2) X.env = pure (some [x, y]) := by rfl)
    (hs : swapsWithSole [.Tuple [.Name x px, .Name y py] kt pt] (.Tuple [a, b] k2 pt2) pos.line X.env = pure false := by rfl) (he1 : starEach [a, b] X.env = (false, eval a X.env) :: starEach [b] X.env := by rfl) (he2 : starEach [b] X.env = (false, eval b X.env) :: starEach [] X.env := by rfl) :
    DS X Z W (.Assign [.Tuple [.Name x px, .Name y py] kt pt] (.Tuple [a, b] k2 pt2) pos) (dParOD i j oa mb) := by
  refine ⟨fun pins s σ H D I ⟨F, ρ, D', Id, hm, r⟩ => ?_⟩
  refine (ps_par hc hN hi hj hij hx hy (pa_cons ha (pa_cons (te := fun σ H Q => ∃ Z, tE X.K Z W mb σ H Q) ⟨fun pins s σ H Q I ⟨Z, h⟩ => (hb Z).run pins s σ H Q I h⟩ pa_nil he2) he1) hw hs).run pins s σ H D I ?_
  refine ⟨F, ρ, _, _, Id, hm, fun o ρ1 p F1 H1 I1 s1 N h1 => ?_, r.ex σ⟩
  obtain ⟨ho, hh, ro⟩ := N.at_
  refine ⟨_, F1, ρ1, _, _, I1.pinned N hh, h1 p, fun dy ρ2 w F2 H2 I2 s2 r2 h2 => ⟨_, w, rfl, ?_⟩, fun _ _ _ _ _ _ _ _ z => z.elim⟩
  obtain ⟨I3, N3⟩ := unpin_new N ro s2 I2
  exact r.nx _ _ F2 H2 ((I3.setOwn i N3).setDat j r2) (s1.trans s2) h2
theorem ds_parOO (hc : X.calm = true) (hN : X.N.Nodup) (ha : DOk X Z W a oa) (hb : ∀ Z, DOk X Z W b ob) (hi : X.N[i]? = some x := by rfl) (hj : X.N[j]? = some y := by rfl) (hij : i ≠ j := by decide)
    (hx : X.env.scope.names.lookup x = some .local := by rfl) (hy : X.env.scope.names.lookup y = some .local := by rfl)
    (hw : swappedStores [.Tuple [.Name x px, .Name y py] kt pt] (.Tuple [a, b] k2 pt2) X.env = pure (some [x, y]) := by rfl)
    (hs : swapsWithSole [.Tuple [.Name x px, .Name y py] kt pt] (.Tuple [a, b] k2 pt2) pos.line X.env = pure false := by rfl) (he1 : starEach [a, b] X.env = (false, eval a X.env) :: starEach [b] X.env := by rfl) (he2 : starEach [b] X.env = (false, eval b X.env) :: starEach [] X.env := by rfl) :
    DS X Z W (.Assign [.Tuple [.Name x px, .Name y py] kt pt] (.Tuple [a, b] k2 pt2) pos) (dParOO i j oa ob) := by
  refine ⟨fun pins s σ H D I ⟨F, ρ, D', Id, hm, r⟩ => ?_⟩
  refine (ps_par hc hN hi hj hij hx hy (pa_cons ha (pa_cons (te := fun σ H Q => ∃ Z, tO X.K Z W ob σ H Q) ⟨fun pins s σ H Q I ⟨Z, h⟩ => (hb Z).run pins s σ H Q I h⟩ pa_nil he2) he1) hw hs).run pins s σ H D I ?_
  refine ⟨F, ρ, _, _, Id, hm, fun o ρ1 p F1 H1 I1 s1 N h1 => ?_, r.ex σ⟩
  obtain ⟨ho, hh, ro⟩ := N.at_
  refine ⟨_, F1, ρ1, _, _, I1.pinned N hh, h1 p, fun o2 ρ2 p2 F2 H2 I2 s2 N2 h2 => ⟨_, _, rfl, ?_⟩, fun _ _ _ _ _ _ _ _ z => z.elim⟩
  obtain ⟨I3, N3⟩ := unpin_new N ro s2 I2
  have ne : p ≠ p2 := fun z => by
    have e2 : upd Z.P p ho p2 = none := N2.np
    rw [← z, upd_same] at e2
    cases e2
  have N4 : NewAt X.K Z F2 H2 (ρ2.set i (.own false p o)) p2 o2 := new_set ⟨N2.fr, N2.at_, N2.h0, N2.nb, by
    have e2 : upd Z.P p ho p2 = none := N2.np
    rw [upd_ne fun z => ne z.symm] at e2
    exact e2, N2.ne⟩ fun b q o' e => by
      injection e with _ e _
      exact e ▸ ne
  exact r.nx _ _ F2 H2 ((I3.setOwn i N3).setOwn j N4) (s1.trans s2) (h2 p2)
theorem ds_parDO (hc : X.calm = true) (hN : X.N.Nodup) (ha : DE X Z W a ma) (hb : DOk X Z W b ob) (hi : X.N[i]? = some x := by rfl) (hj : X.N[j]? = some y := by rfl) (hij : i ≠ j := by decide)
    (hx : X.env.scope.names.lookup x = some .local := by rfl) (hy : X.env.scope.names.lookup y = some .local := by rfl)
    (hw : swappedStores [.Tuple [.Name x px, .Name y py] kt pt] (.Tuple [a, b] k2 pt2) X.env = pure (some [x, y]) := by rfl)
    (hs : swapsWithSole [.Tuple [.Name x px, .Name y py] kt pt] (.Tuple [a, b] k2 pt2) pos.line X.env = pure false := by rfl) (he1 : starEach [a, b] X.env = (false, eval a X.env) :: starEach [b] X.env := by rfl) (he2 : starEach [b] X.env = (false, eval b X.env) :: starEach [] X.env := by rfl) :
    DS X Z W (.Assign [.Tuple [.Name x px, .Name y py] kt pt] (.Tuple [a, b] k2 pt2) pos) (dParDO i j ma ob) :=
  PS.imp (ps_par hc hN hi hj hij hx hy (pa_cons ha (pa_cons hb pa_nil he2) he1) hw hs) fun D' σ H ⟨F, ρ, D, I, hm, r⟩ =>
    ⟨F, ρ, _, _, I, hm, fun dx ρ1 v F1 H1 I1 s1 r1 h1 => ⟨F1, ρ1, _, _, I1, h1, fun o ρ2 p F2 H2 I2 s2 N h2 => ⟨v, _, rfl, r.nx _ _ F2 H2 ((I2.setDat i (r1.mono s2)).setOwn j (new_set N fun _ _ _ e => nomatch e)) (s1.trans s2) (h2 p)⟩, (r.ex σ).mono s1⟩, r.ex σ⟩
/-- a, b, c = data -/
def dPar3 (i j l : Nat) (a b c : DT) : DSt := fun D ρ => a ρ (fun x ρ1 => b ρ1 (fun y ρ2 => c ρ2 (fun z ρ3 => D.nx (((ρ3.set i (.dat x)).set j (.dat y)).set l (.dat z))) D.ex) D.ex) D.ex
theorem ds_par3 (hc : X.calm = true) (hN : X.N.Nodup) (ha : DE X Z W a ma) (hb : DE X Z W b mb) (hd : DE X Z W c mc) (hi : X.N[i]? = some x := by rfl) (hj : X.N[j]? = some y := by rfl) (hl : X.N[l]? = some z := by rfl) (hij : i ≠ j := by decide) (hil : i ≠ l := by decide) (hjl : j ≠ l := by decide)
    (hx : X.env.scope.names.lookup x = some .local := by rfl) (hy : X.env.scope.names.lookup y = some .local := by rfl) (hz : X.env.scope.names.lookup z = some .local := by rfl)
    (hw : swappedStores [.Tuple [.Name x px, .Name y py, .Name z pz] kt pt] (.Tuple [a, b, c] k2 pt2) X.env = pure (some [x, y, z]) := by rfl)
    (hs : swapsWithSole [.Tuple [.Name x px, .Name y py, .Name z pz] kt pt] (.Tuple [a, b, c] k2 pt2) pos.line X.env = pure false := by rfl) (he1 : starEach [a, b, c] X.env = (false, eval a X.env) :: starEach [b, c] X.env := by rfl) (he2 : starEach [b, c] X.env = (false, eval b X.env) :: starEach [c] X.env := by rfl)
    (he3 : starEach [c] X.env = (false, eval c X.env) :: starEach [] X.env := by rfl) : DS X Z W (.Assign [.Tuple [.Name x px, .Name y py, .Name z pz] kt pt] (.Tuple [a, b, c] k2 pt2) pos) (dPar3 i j l ma mb mc) :=
  PS.imp (L2.ps_par3 hc hN hi hj hl hij hil hjl hx hy hz (pa_cons ha (pa_cons hb (pa_cons hd pa_nil he3) he2) he1) hw hs) fun D' σ H ⟨F, ρ, D, I, hm, r⟩ =>
    ⟨F, ρ, _, _, I, hm, fun dx ρ1 v F1 H1 I1 s1 r1 h1 => ⟨F1, ρ1, _, _, I1, h1, fun dy ρ2 w F2 H2 I2 s2 r2 h2 => ⟨F2, ρ2, _, _, I2, h2, fun dz ρ3 u F3 H3 I3 s3 r3 h3 =>
      ⟨v, w, u, rfl, r.nx _ _ F3 H3 (((I3.setDat i (r1.mono (s2.trans s3))).setDat j (r2.mono s3)).setDat l r3) ((s1.trans s2).trans s3) h3⟩, ((r.ex σ).mono s1).mono s2⟩, (r.ex σ).mono s1⟩, r.ex σ⟩
end
end DL

namespace DL
open PyProof.Rows hiding St
open PySem PySem.Spec L2

/-! ### the law's end -/
/-! ### what the head tells: defs by their places in the written part -/
/-- a def: where it stands, its names, its statement -/
structure DefA where
  adr : PySem.W.Frag → Addr
  name : Str
  qual : Str
  st : Stmt
abbrev SeenF : Type := Option (Str × Str × Arguments × FuncBody × Scope × Addr × List (Str × Addr) × Addr)
def seenF (K : PySem.W.Frag) (a : Addr) : SeenF := match K.lookup a with
  | some ⟨_, _, .func f, _⟩ => some (f.name, f.qualname, f.params, f.body, f.scope, f.globals, f.closure, f.builtins)
  | _ => none
def fnGood (K : PySem.W.Frag) (a : Addr) (q : Str) : Bool := PySem.W.keepIn K (.ref a) && match K.lookup a with
  | some ⟨_, _, .func f, _⟩ => PySem.W.codeIn K f.code q && (match f.defaults, f.kwdefaults with
    | .none, _ => true
    | _, _ => false)
  | _ => false
abbrev argsS (st : Stmt) : Arguments := match st with
  | .FunctionDef _ a _ _ _ _ _ _ _ _ => a
  | _ => ⟨[], [], none, [], [], none, []⟩
abbrev bodyS (st : Stmt) : List Stmt := match st with
  | .FunctionDef _ _ b _ _ _ _ _ _ _ => b
  | _ => []
abbrev scopeS (st : Stmt) : Scope := match st with
  | .FunctionDef _ _ _ _ _ _ sc _ _ _ => sc
  | _ => ⟨.function, [], false, false, []⟩
def DefA.told (d : DefA) : SeenF := some (d.name, d.qual, argsS d.st, .stmts (bodyS d.st), scopeS d.st, mainGlobals, [], builtinsNs)
abbrev FnA (K : PySem.W.Frag) (d : DefA) (fd : FuncData) : Prop := FunD K d.name d.qual (argsS d.st) (bodyS d.st) (scopeS d.st) [] [] (d.adr K) fd
theorem DefA.fun {K : PySem.W.Frag} {d : DefA} (e : seenF K (d.adr K) = d.told) (g : fnGood K (d.adr K) d.qual = true) : ∃ fd, FnA K d fd := by
  unfold fnGood at g
  rw [Bool.and_eq_true] at g
  obtain ⟨g1, g2⟩ := g
  unfold seenF at e
  split at g2
  · rename_i oc od f osl lk
    rw [lk] at e
    obtain ⟨n1, n2, n3, n4, n5, n6, n7, n8, n9, n10, n11, n12, n13, n14, n15⟩ := f
    have e' : (some (n1, n2, n3, n4, n5, n6, n7, n15) : SeenF) = some (d.name, d.qual, argsS d.st, .stmts (bodyS d.st), scopeS d.st, mainGlobals, [], builtinsNs) := e
    injection e' with e'
    simp only [Prod.mk.injEq] at e'
    obtain ⟨rfl, q2, rfl, rfl, rfl, rfl, rfl, rfl⟩ := e'
    subst q2
    rw [Bool.and_eq_true] at g2
    obtain ⟨g3, g4⟩ := g2
    cases n8 with
    | none => exact ⟨_, ⟨_, od, .none, n9, n10, n11, n12, n13, n14, osl, rfl, lk, g3, .inl ⟨rfl, rfl⟩, .inl rfl⟩, g1⟩
    | _ => cases g4
  · cases g2
abbrev SeenA : Type := Bool × List SeenF
def obsA (fn : List DefA) (ex : PySem.W.Frag → Bool) (K : PySem.W.Frag) : SeenA := (ex K && fn.all fun d => fnGood K (d.adr K) d.qual, fn.map fun d => seenF K (d.adr K))
def valA (fn : List DefA) : SeenA := (true, fn.map DefA.told)
structure SaysA (fn : List DefA) (ex : PySem.W.Frag → Bool) (K : PySem.W.Frag) : Prop where
  more : ex K = true
  defs : ∀ d ∈ fn, ∃ fd, FnA K d fd
theorem saysA_of {fn : List DefA} {ex : PySem.W.Frag → Bool} {K : PySem.W.Frag} (e : obsA fn ex K = valA fn) : SaysA fn ex K := by
  have e1 : (ex K && fn.all fun d => fnGood K (d.adr K) d.qual) = true := congrArg Prod.fst e
  have e2 : fn.map (fun d => seenF K (d.adr K)) = fn.map DefA.told := congrArg Prod.snd e
  rw [Bool.and_eq_true] at e1
  refine ⟨e1.1, fun d hd => ?_⟩
  exact DefA.fun (List.map_inj_left.mp e2 d hd) (List.all_eq_true.mp e1.2 d hd)
end DL

namespace DL
open PyProof.Rows hiding St
open PySem PySem.Spec L2
section
variable {P : Program} {w : World} {K : PySem.W.Frag} {mg : Str → Option Value} {base : Heap} {N : List Str} {qual : Str} {scope : Scope} {f : Addr} {cd : Value} {A : Around} {outer : List Env} {s : Shared} {H : Hp} {E : XK}
theorem takes_cx : Takes (cxOf (L2.CX P w) P w K mg base N qual scope f cd A outer s H E) (fun cls d _ H' => E cls d H') := takes_of (E := E) (E₁ := fun e' s'' => L2.CX P w outer H s E e' s'') rfl rfl rfl rfl
theorem owns_cx : PassesOwn (model P w) (cxOf (L2.CX P w) P w K mg base N qual scope f cd A outer s H E).A (cxOf (L2.CX P w) P w K mg base N qual scope f cd A outer s H E).env (cxOf (L2.CX P w) P w K mg base N qual scope f cd A outer s H E).xe :=
  passes_of (X := cxOf (L2.CX P w) P w K mg base N qual scope f cd A outer s H E) (K := fun e s'' => L2.CX P w outer H s E e s'') (E₁ := fun e s'' => L2.CX P w outer H s E e s'') rfl
theorem pass_cx : Pass (cxOf (L2.CX P w) P w K mg base N qual scope f cd A outer s H E) (fun cls d _ H' => E cls d H') := pass_of takes_cx
end
end DL

namespace DL
open PyProof.Rows hiding St
open PySem PySem.Spec L2

/-! ### how given values reach a def's parameters -/
section
variable {K : PySem.W.Frag} {x qual : Str} {params : Arguments} {body : List Stmt} {scope : Scope} {kws : List (Str × V)} {f : Addr} {fd : FuncData} {ps : List Str}
theorem bindU {un : List Value → Args} (F : FunD K x qual params body scope [] kws f fd) (h : ∀ (kV doc pm : Value) (an : Option Addr) (cdv ct : Value) (us : List Value), us.length = ps.length → bindArgs (PySem.W.fnOf x qual params body scope .none kV doc pm an cdv ct) (un us) = pure (ps.zip us)) : BindK K fd ps un := by
  obtain ⟨oc, od, dV, kV, doc, pm, an, cdv, ct, osl, rfl, lk, hcd, hd, hk⟩ := F.ex
  intro s us Ks hl
  rcases hd with ⟨_, rfl⟩ | ⟨h1, _⟩
  · intro M A E Q hq
    first
      | exact wpAny_of_eq (h kV doc pm an cdv ct us hl) hq
      | (rw [h kV doc pm an cdv ct us hl]; exact wpAny_pure hq)
  · exact absurd rfl h1
theorem bindP (F : FunD K x qual params body scope [] kws f fd) (h : ∀ (kV doc pm : Value) (an : Option Addr) (cdv ct : Value) (us : List Value), us.length = ps.length → bindArgs (PySem.W.fnOf x qual params body scope .none kV doc pm an cdv ct) ⟨us, []⟩ = pure (ps.zip us)) : BindK K fd ps mkP := fun s us _ hl => FunD.bindsA F h s us hl
theorem bindM (F : FunD K x qual params body scope [] kws f fd) (h : ∀ (kV doc pm : Value) (an : Option Addr) (cdv ct : Value) (us : List Value), us.length = ps.length → bindArgs (PySem.W.fnOf x qual params body scope .none kV doc pm an cdv ct) ⟨us, []⟩ = pure (ps.zip us)) :
    BindK K fd ps (fun us => match us with | [] => ⟨[], []⟩ | v :: us => ⟨v :: (mkP us).pos, (mkP us).kw⟩) := fun s us _ hl => by
  cases us with
  | nil => exact FunD.bindsA F h s [] hl
  | cons v us => exact FunD.bindsA F h s (v :: us) hl
end
section
variable {X : Cx} {Z : Fm} {W : WX} {x : Str} {pos : Pos}
theorem d_gI {i : Int} (hm : ∃ t, X.mg x = some (.int i t)) (hg : Gl X x := by rfl) (hdb : (x == ("__debug__" : Str)) = false := by decide) : DE X Z W (.Name x pos) (dC (.int i)) := by
  obtain ⟨t, h⟩ := hm
  exact d_globI h hg hdb
theorem d_gS {z : Str} {l : List Nat} (hm : ∃ t, X.mg x = some (.str z t)) (hl : z.cps.toList = l := by decide +kernel) (h : l.length ≤ 1000 := by decide) (hg : Gl X x := by rfl) (hdb : (x == ("__debug__" : Str)) = false := by decide) : DE X Z W (.Name x pos) (dC (.str l)) := by
  obtain ⟨t, h2⟩ := hm
  exact d_globS h2 hl h hg hdb
end
/-! ### facts that the head tells, as tests -/
def propG (K : PySem.W.Frag) (p : Addr) : Addr := match PySem.W.recIn K p "property" with
  | some (.ref g :: _) => g
  | _ => 0
def oEqB (a b : Option Bool) : Bool := match a, b with
  | some x, some y => x == y
  | none, none => true
  | _, _ => false
theorem oEqB_ok {a b : Option Bool} (h : oEqB a b = true) : a = b := by
  cases a with
  | none => cases b with
    | none => rfl
    | some _ => cases h
  | some x => cases b with
    | none => cases h
    | some y => exact congrArg some (eq_of_beq h)
def propB (K : PySem.W.Frag) (C m : Str) : Bool := He.eqO (PySem.W.findIn K (.ref (He.ga K C)) m) (some (some (.ref (He.ma K (He.ga K C) m)))) && (He.eqO (PySem.W.specialIn K (.ref (He.ma K (He.ga K C) m)) "__get__") (some (some (.builtin "property.__get__"))) &&
  (oEqB (PySem.W.takesIn K (.ref (He.ma K (He.ga K C) m))) (some true) && match PySem.W.recIn K (He.ma K (He.ga K C) m) "property" with
    | some (.ref _ :: _) => true
    | _ => false))
theorem propB_ok {K : PySem.W.Frag} {C m : Str} (h : propB K C m = true) : PropOf K (He.ga K C) m (He.ma K (He.ga K C) m) (propG K (He.ma K (He.ga K C) m)) := by
  unfold propB at h
  simp only [Bool.and_eq_true] at h
  obtain ⟨h1, h2, h3, h4⟩ := h
  refine ⟨He.eqO_ok h1, He.eqO_ok h2, oEqB_ok h3, ?_⟩
  unfold propG
  split at h4
  · rename_i g rest e
    rw [e]
    exact ⟨rest, rfl⟩
  · cases h4
def plainFB (K : PySem.W.Frag) (f : Str) (Cs : List Str) : Bool := Cs.all fun C => He.Fa.ok K (.cls C) && He.Fa.ok K (.noat C f)
theorem plainF_ok {K : PySem.W.Frag} {f : Str} {Cs : List Str} (h : plainFB K f Cs = true) : PlainF K f (Cs.map (He.ga K)) := fun C hC => by
  obtain ⟨x, hx, rfl⟩ := List.mem_map.mp hC
  have := List.all_eq_true.mp h x hx
  rw [Bool.and_eq_true] at this
  exact ⟨He.cls_ok this.1, He.noat_ok this.2⟩
def ownTyB (K : PySem.W.Frag) (C : Addr) : Bool := He.eqO (PySem.W.findIn K (.ref C) "__class__") (some (some (.builtin "object.__class__"))) && (He.eqO (PySem.W.specialIn K (.builtin "object.__class__") "__get__") (some (some (.builtin "getset_descriptor.__get__"))) &&
  (oEqB (PySem.W.takesIn K (.builtin "object.__class__")) (some true) && oEqB (PySem.W.mroIn K C (.type "object")) (some true)))
theorem ownTy_ok {K : PySem.W.Frag} {C : Addr} (c : Cls K C) (h : ownTyB K C = true) : OwnTy K C := by
  unfold ownTyB at h
  simp only [Bool.and_eq_true] at h
  obtain ⟨h1, h2, h3, h4⟩ := h
  exact ⟨c, He.eqO_ok h1, He.eqO_ok h2, oEqB_ok h3, oEqB_ok h4⟩
def isiB (K : PySem.W.Frag) (t : Bt) (Cs : List Str) : Bool := Cs.all fun C => oEqB (PySem.W.kitOne K (.ref (He.ga K C)) (.type t.nm)) (some false) && (He.Fa.ok K (.cls C) && ownTyB K (He.ga K C))
theorem isiB_ok {K : PySem.W.Frag} {t : Bt} {Cs : List Str} (h : isiB K t Cs = true) : ∀ C ∈ Cs.map (He.ga K), PySem.W.kitOne K (.ref C) (.type t.nm) = some false ∧ OwnTy K C := fun C hC => by
  obtain ⟨x, hx, rfl⟩ := List.mem_map.mp hC
  have := List.all_eq_true.mp h x hx
  simp only [Bool.and_eq_true] at this
  exact ⟨oEqB_ok this.1, ownTy_ok (He.cls_ok this.2.1) this.2.2⟩
def isoO (K : PySem.W.Frag) (D : Str) (Cs : List (Str × Bool)) : Bool := Cs.all fun p => oEqB (PySem.W.kitOne K (.ref (He.ga K p.1)) (.ref (He.ga K D))) (some p.2) && (He.Fa.ok K (.cls p.1) && ownTyB K (He.ga K p.1))
theorem isoO_ok {K : PySem.W.Frag} {D : Str} {Cs : List (Str × Bool)} (h : isoO K D Cs = true) : ∀ p ∈ Cs.map (fun p => (He.ga K p.1, p.2)), PySem.W.kitOne K (.ref p.1) (.ref (He.ga K D)) = some p.2 ∧ OwnTy K p.1 := fun C hC => by
  obtain ⟨x, hx, rfl⟩ := List.mem_map.mp hC
  have := List.all_eq_true.mp h x hx
  simp only [Bool.and_eq_true] at this
  exact ⟨oEqB_ok this.1, ownTy_ok (He.cls_ok this.2.1) this.2.2⟩
def bts : List Bt := [.non, .bl, .int, .str, .tup, .lst, .dct]
def isoB (K : PySem.W.Frag) (D : Str) : Bool := bts.all fun t => oEqB (PySem.W.kitOne K (.type t.nm) (.ref (He.ga K D))) (some false)
theorem isoB_ok {K : PySem.W.Frag} {D : Str} (h : isoB K D = true) : ∀ t : Bt, PySem.W.kitOne K (.type t.nm) (.ref (He.ga K D)) = some false := fun t => oEqB_ok (List.all_eq_true.mp h t (by cases t <;> simp [bts]))
/-! ### promises of one form -/
def Sp1 {α β : Type} (A : α → List Sl) (C : α → Prop) (P : α → β → Prop) (R : α → β → Rv) (O : α → β → List MO) : SpD := fun args Q _ => ∃ x, args = A x ∧ C x ∧ ∀ y, P x y → Q (R x y) (O x y)
theorem Sp1.mono {α β : Type} {A : α → List Sl} {C : α → Prop} {P : α → β → Prop} {R : α → β → Rv} {O : α → β → List MO} : Mono (Sp1 A C P R O) := fun args Q Q' U U' hQ _ ⟨x, e, c, h⟩ => ⟨x, e, c, fun y p => hQ _ _ (h y p)⟩
theorem Sp1.len {α β : Type} {A : α → List Sl} {C : α → Prop} {P : α → β → Prop} {R : α → β → Rv} {O : α → β → List MO} {n : Nat} (h : ∀ x, (A x).length = n) : ∀ args Q U, Sp1 A C P R O args Q U → args.length = n := fun args Q U ⟨x, e, _⟩ => by rw [e]; exact h x
end DL

namespace DL
open PyProof.Rows hiding St
open PySem PySem.Spec L2

/-! ### a text backwards: a[::-1] -/
theorem rev_picked (l : List Nat) : ((Builtin.Str.strSliceIndices none none (-1) l.length).filterMap (l.toArray[·]?)) = l.reverse := by
  rw [picked_rev]
  apply List.ext_getElem?
  intro i
  have e : ((List.range l.length).map fun k => l.length - 1 - k).filterMap (l.toArray[·]?) = (List.range l.length).map fun k => l.getD (l.length - 1 - k) 0 := by
    rw [filterMap_get _ _ (fun i hi => by
      obtain ⟨k, hk, rfl⟩ := List.mem_map.mp hi
      have := List.mem_range.mp hk
      show l.length - 1 - k < l.toArray.size
      rw [List.size_toArray]
      omega), List.map_map]
    refine List.map_congr_left fun k hk => ?_
    simp [List.getD]
  rw [e]
  by_cases h : i < l.length
  · rw [List.getElem?_map, List.getElem?_range h, List.getElem?_reverse h]
    have h2 : l.length - 1 - i < l.length := by omega
    simp [List.getD, List.getElem?_eq_getElem h2]
  · rw [List.getElem?_eq_none (by simp; omega), List.getElem?_eq_none (by simp; omega)]
section
variable {X : Cx} {Z : Fm} {W : WX} {e a b c : Expr} {ma mb mc : DT} {te : TE} {pos p1 p2 p3 : Pos} {k : Nat}
theorem pe_back (he : PE X e te) : PE X (.Subscript e (.Slice none none (some (.UnaryOp .USub (.Constant (.int 1) k p1) p2)) p3) pos) (fun σ H Q => te σ H fun x H1 => ∃ l : List Nat, x = .str ⟨l.toArray⟩ ∧ l.length ≤ sizeLine ∧ Q (.str ⟨l.reverse.toArray⟩) H1) := by
  refine ⟨fun pins s σ H Q I h => Subscript_ (thn (he.run pins s σ H _ I h) fun v t ⟨x, H1, J, rx, l, ex, hz, q⟩ => ?_)⟩
  subst ex
  obtain ⟨tk, rfl⟩ := rx
  have part : PO X (some (.UnaryOp .USub (.Constant (.int 1) k p1) p2)) (tPart (tUn (rU fun i => .int (-i)) (tC (.int 1)))) := po_some (pe_un un_neg pe_int)
  refine wpAny_Slice ?_
  rw [evalPart_none]
  refine wpAny_pure (wpAny_pure (thn (part.run pins t σ H1 (fun o H2 => o = some (-1) ∧ H2 = H1) J ⟨1, rfl, -1, rfl, rfl, rfl⟩) fun vs t2 ⟨o, H2, J2, pp, eo, eh⟩ => ?_))
  subst eo
  subst eh
  obtain ⟨st, est, eo⟩ := IsPart.raw pp
  subst est
  cases st with
  | none => cases eo
  | some q0 =>
    obtain ⟨i, tt⟩ := q0
    obtain rfl : i = -1 := Option.some.inj eo
    let sl : Obj := { cls := .type "slice", data := .fields #[.none, .none, partValue (some (-1, tt))] }
    have J3 : Inv X pins σ H2 { t2 with heap := t2.heap.push sl } := J2.kept (t' := t2.toks) fun b u e => Heap.get?_push_of_some _ e
    refine tail_any (ops := [.str ⟨l.toArray⟩ tk, .ref t2.heap.objs.size]) (typeIs_str _ _ _) (PySem.F.slot_str_getitem.lookup) ?_ (by with_unfolding_all rfl)
    refine wpAny_getItem_str_slice (l := none) (u := none) (st := some (-1, tt)) ⟨sl, Heap.get?_push_size _ rfl, rfl, rfl⟩ rfl ?_
    have len : (l.reverse.toArray).size ≤ sizeLine := by rw [List.size_toArray, List.length_reverse]; exact hz
    have e : ((Builtin.Str.strSliceIndices none none (-1) (⟨l.toArray⟩ : Str).length).filterMap ((⟨l.toArray⟩ : Str).cps[·]?)) = l.reverse := by
      rw [str_len]
      exact rev_picked l
    show Made.post (if (((-1 : Int) == 1) && _) = true then _ else Made.str ⟨((Builtin.Str.strSliceIndices none none (-1) (⟨l.toArray⟩ : Str).length).filterMap ((⟨l.toArray⟩ : Str).cps[·]?)).toArray⟩) (EP X pins σ Q) _
    rw [e, if_neg (by simp)]
    exact ⟨len, .str _, H2, J3.tok _, ⟨_, rfl⟩, q⟩
def oBack : O1 := fun x k => match x with
  | .str l => k (.str l.reverse)
  | _ => False
theorem d_back (ha : DE X Z W a ma) : DE X Z W (.Subscript a (.Slice none none (some (.UnaryOp .USub (.Constant (.int 1) k p1) p2)) p3) pos) (dUn oBack ma) :=
  PE.imp (pe_back ha) fun σ H Q ⟨F, ρ, R, U, I, hm, q, u⟩ => ⟨F, ρ, _, U, I, hm, fun x ρ1 v F1 H1 I1 s1 r1 h1 => by
    cases r1 with
    | str l hl => exact ⟨l, rfl, hl, q _ ρ1 _ F1 H1 I1 s1 (.str _ (by rw [List.length_reverse]; exact hl)) h1⟩
    | _ => exact h1.elim, u⟩
/-! ### [texts].index(text) -/
end
end DL
namespace DL
open PyProof.Rows hiding St
open PySem PySem.Spec L2
/-! ### len(set(texts)) -/
section
variable {X : Cx}
def rLenTx (P : Program) (w : World) : List V → Hp → VK → Prop := fun xs H Q => ∃ (a : Addr) (L : List Str), xs = [.ref a] ∧ H a = some (TxO P w a L) ∧ Q (.int L.length) H
theorem cr_lenTx : CallR X (.builtin "len") (rLenTx X.prog X.w) := by
  intro pins s σ H xs us Q I r ⟨a, L, e, ha, q⟩
  subst e
  obtain ⟨u, rfl, ru⟩ := vals1 r
  obtain rfl : u = Value.ref a := ru
  have T : TxS X.prog X.w s.heap a L := (I.hok a _ ha).1
  obtain ⟨ob, es, ep, tb, at_, ex, d, g, pm, sm, ft, rs, ld⟩ := T
  have n : es.size = L.length := by
    have := pm.length_eq
    rwa [List.length_map, Array.length_toList] at this
  refine call_len_set at_ ex d ft (by unfold scanBound at sm; omega) ?_
  refine ⟨.int L.length, H, I.tok _, ⟨s.toks + 1, by rw [n]⟩, q⟩
variable {Z : Fm} {W : WX} {a : Expr} {ma : DT} {p1 p2 p3 pos : Pos}
end
end DL

namespace DL
open PyProof.Rows hiding St
open PySem PySem.Spec L2
/-! ### a tuple of the module; a dict of the module with text keys -/
section
variable {X : Cx} {Z : Fm} {W : WX} {x : Str} {pos : Pos}
end

/-! ### [elt for tg in iter if .. for tg1 in iter1 if ..] -/
section
variable {X : Cx} {Z : Fm} {W : WX} {elt tg iter tg1 iter1 : Expr} {ifs ifs1 : List Expr} {scope : Scope} {own : List (Str × Nat)} {pos : Pos} {mi mi1 : DI'} {ts ts1 : List Nat} {g g1 : DG} {tt tt1 : DB} {me : DT}
end

/-! ### the head's hook, with tables -/
abbrev TabN : Type := Str × List Str
abbrev SeenB : Type := SeenA × List (Option (List (Option (Str × Int))))
def obsB (fn : List DefA) (ex : PySem.W.Frag → Bool) (ts : List TabN) (K : PySem.W.Frag) : SeenB := (obsA fn ex K, ts.map fun t => He.dicW K (He.ga K t.1))
def valB (fn : List DefA) (ts : List TabN) (w : World) : SeenB := (valA fn, ts.map fun t => some (He.keysIn w.params t.2))
structure SaysB (fn : List DefA) (ex : PySem.W.Frag → Bool) (ts : List TabN) (w : World) (K : PySem.W.Frag) : Prop where
  a : SaysA fn ex K
  tabs : ∀ t ∈ ts, ∃ es n, KDict K w (He.ga K t.1) es n
theorem saysB_of {fn : List DefA} {ex : PySem.W.Frag → Bool} {ts : List TabN} {w : World} {K : PySem.W.Frag} (e : obsB fn ex ts K = valB fn ts w) : SaysB fn ex ts w K := by
  have e1 : obsA fn ex K = valA fn := congrArg Prod.fst e
  have e2 : ts.map (fun t => He.dicW K (He.ga K t.1)) = ts.map fun t => some (He.keysIn w.params t.2) := congrArg Prod.snd e
  exact ⟨saysA_of e1, fun t ht => He.dicW_ok (List.map_inj_left.mp e2 t ht)⟩
end DL

namespace DL
open PyProof.Rows hiding St
open PySem PySem.Spec L2
/-! ### a text into names: a, b, c = text -/
section
variable {prog : Program} {w : World} {A : Around} {E : Value → Shared → Prop}
end
end DL

namespace DL
open PyProof.Rows hiding St
open PySem PySem.Spec L2
/-! ### text.index(sign), the sign is there -/
section
variable {X : Cx} {Z : Fm} {W : WX} {o a b : Expr} {mo ma mb : DT} {pos : Pos}
/-! ### divmod -/
/-! ### x[b] as a target among others -/
/-! ### a, b = a list of data -/
/-! ### own.extend(list) -/
end
/-! ### own __contains__, __len__ -/
section
variable {prog : Program} {w : World} {A : Around} {E : Value → Shared → Prop} {s : Shared} {K : PySem.W.Frag} {x C f : Addr} {ox : Obj} {od : Option Obj} {name : Str}
end
section
variable {X : Cx} {T : List (Addr × Str)} {k : Nat} {f C : Addr} {fd : FuncData} {ps : List Str} {sp : SpD}
/-- the class's own def of a special name -/
structure Own (K : PySem.W.Frag) (C f : Addr) (name : Str) : Prop where
  at_ : PySem.W.findIn K (.ref C) name = some (some (.ref f))
  fn : PySem.W.isFn K (.ref f) = true
def ownB (K : PySem.W.Frag) (x name : Str) : Bool := He.eqO (PySem.W.findIn K (.ref (He.ga K x)) name) (some (some (.ref (He.ma K (He.ga K x) name)))) && PySem.W.isFn K (.ref (He.ma K (He.ga K x) name))
/-! ### readings at the frames of some tables -/
end
section
variable {X : Cx} {Z : Fm} {W : WX} {a b : Expr} {ma mb : DT} {pos : Pos}
end
/-! ### products of great numbers -/
end DL

namespace DL
open PyProof.Rows hiding St
open PySem PySem.Spec L2
/-! ### own dicts with text keys -/
def keyD : Dt → Option Key
  | .str l => some (.inr ⟨l.toArray⟩)
  | .int i => some (.inl i)
  | _ => none
def getK (kvs : List (Key × Dt)) (k : Key) : Option Dt := (kvs.find? fun kv => decide (kv.1 = k)).map (·.2)
def putKD (kvs : List (Key × Dt)) (k : Key) (v : Dt) : List (Key × Dt) :=
  if (kvs.any fun kv => decide (kv.1 = k)) = true then kvs.map fun kv => if kv.1 = k then (kv.1, v) else kv else kvs ++ [(k, v)]
section
variable {K : PySem.W.Frag} {F : Hp}
theorem RepK.get {k : Key} {d : Dt} : ∀ {vs : List (Key × V)} {ds : List (Key × Dt)}, RepK K F vs ds → getK ds k = some d → ∃ v, valV vs k = some v ∧ Rep K F v d
  | _, _, .nil, e => by cases e
  | _, _, .cons (k := k') (v := v) (d := d') (vs := vs) (ds := ds) h t, e => by
    unfold getK at e
    rw [List.find?_cons] at e
    by_cases q : k' = k
    · rw [show decide (((k', d') : Key × Dt).1 = k) = true from decide_eq_true q] at e
      obtain rfl := Option.some.inj e
      exact ⟨v, valV_pos q, h⟩
    · rw [show decide (((k', d') : Key × Dt).1 = k) = false from decide_eq_false q] at e
      obtain ⟨v', e', r⟩ := RepK.get t (show getK ds k = some d from e)
      exact ⟨v', by rw [valV_neg q]; exact e', r⟩
theorem RepK.any {k : Key} : ∀ {vs : List (Key × V)} {ds : List (Key × Dt)}, RepK K F vs ds → (vs.any fun kv => decide (kv.1 = k)) = ds.any fun kv => decide (kv.1 = k)
  | _, _, .nil => rfl
  | _, _, .cons h t => by rw [List.any_cons, List.any_cons, RepK.any t]
theorem RepK.repl {k : Key} {v : V} {d : Dt} (h : Rep K F v d) : ∀ {vs : List (Key × V)} {ds : List (Key × Dt)}, RepK K F vs ds → RepK K F (vs.map fun kv => if kv.1 = k then (kv.1, v) else kv) (ds.map fun kv => if kv.1 = k then (kv.1, d) else kv)
  | _, _, .nil => .nil
  | _, _, .cons (k := k') r t => by
    rw [List.map_cons, List.map_cons]
    by_cases q : k' = k
    · rw [if_pos q, if_pos q]; exact .cons h (RepK.repl h t)
    · rw [if_neg q, if_neg q]; exact .cons r (RepK.repl h t)
theorem RepK.snoc {k : Key} {v : V} {d : Dt} (h : Rep K F v d) : ∀ {vs : List (Key × V)} {ds : List (Key × Dt)}, RepK K F vs ds → RepK K F (vs ++ [(k, v)]) (ds ++ [(k, d)])
  | _, _, .nil => .cons h .nil
  | _, _, .cons r t => .cons r (RepK.snoc h t)
theorem RepK.put {k : Key} {v : V} {d : Dt} {vs : List (Key × V)} {ds : List (Key × Dt)} (r : RepK K F vs ds) (h : Rep K F v d) : RepK K F (putK vs k v) (putKD ds k d) := by
  unfold putK putKD
  rw [RepK.any r]
  split
  · exact r.repl h
  · exact r.snoc h
end
section
variable {X : Cx} {Z : Fm} {W : WX} {a b o : Expr} {ma mb mo : DT} {pos : Pos}
def dDict0 : DO := fun ρ R _ => R (.dK []) ρ
theorem d_dict0 : DOk X Z W (.Dict [] [] pos) dDict0 :=
  PE.imp pe_dnewK fun σ H Q ⟨F, ρ, R, U, I, hm, q, u⟩ => fun p np => q _ ρ p F _ (I.freshO (ho := .dK []) np) (Same.refl F) (I.newAt np (.dK .nil)) hm
/-- d[k], d frozen -/
def dGet (a b : DT) : DT := fun ρ R U => a ρ (fun x ρ1 => b ρ1 (fun y ρ2 => match x with
  | .dct kvs => opt (keyD y) fun k => opt (getK kvs k) fun d => R d ρ2
  | _ => False) U) U
/-- x[b] = a, x an own dict -/
def dDPut (i : Nat) (b a : DT) : DSt := fun D ρ => a ρ (fun v ρ1 => match ρ1[i]? with
  | some (.own _ _ (.dK _)) => b ρ1 (fun y ρ2 => match ρ2[i]? with
    | some (.own c p (.dK kvs)) => opt (keyD y) fun k => kvs.length < 1000 ∧ D.nx (ρ2.set i (.own c p (.dK (putKD kvs k v))))
    | _ => False) (fun _ _ => False)
  | _ => False) D.ex
/-! ### zip of two tuples, or of two lists -/
end
/-! ### a, b, .. = e, f, ..: the tuple between is not tracked -/
def dPar3DDO (i j l : Nat) (a b : DT) (c : DO) : DSt := fun D ρ => a ρ (fun x ρ1 => b ρ1 (fun y ρ2 => c ρ2 (fun o ρ3 => ∀ p, D.nx (((ρ3.set i (.dat x)).set j (.dat y)).set l (.own false p o))) D.ex) D.ex) D.ex
/-! ### // by a divisor of less than 9000 bits -/
def CDivQ (i j : Int) : Prop := 0 < j ∧ Builtin.divisionGoesByPylong i j = false
theorem divq {i j : Int} (h0 : 0 < j) (h : j.natAbs.log2 < 8000) : CDivQ i j := by
  refine ⟨h0, ?_⟩
  unfold Builtin.divisionGoesByPylong
  have : ¬ ((if j == 0 then 0 else j.natAbs.log2 / 30 + 1) > 300) := by
    split <;> omega
  simp only [decide_eq_false this, Bool.false_and]
def oDivQ : O2 := fun x y k => match x, y with
  | .int i, .int j => CDivQ i j ∧ k (.int (i / j))
  | _, _ => False
theorem op_fdivQ {X : Cx} : OpR X (binaryOp .FloorDiv) (rI CDivQ fun i j => .int (i / j)) := opI fun i j _ _ _ _ _ hc q => by
  have h1 : (0 : Int) < j := hc.1
  exact floordiv_int (by omega) (by rw [Int.fdiv_eq_ediv_of_nonneg i (by omega)]; exact q) (.inl hc.2)
theorem v_divQ {K : PySem.W.Frag} : V2 K (rI CDivQ fun i j => .int (i / j)) oDivQ := fun Z F H σ ρ x y dx dy k Q I rx ry h q => by
  cases rx with
  | int i =>
    cases ry with
    | int j => exact ⟨i, j, rfl, rfl, h.1, rt_here I (.int _) (q _ h.2)⟩
    | _ => exact h.elim
  | _ => cases ry <;> exact h.elim
end DL

namespace DL
open PyProof.Rows hiding St
open PySem PySem.Spec L2
/-! ### sum of a list or a tuple of ints -/
section
variable {prog : Program} {w : World} {A : Around} {E : Value → Shared → Prop} {s : Shared} {t : Addr} {Q : Value → Shared → Prop}
end
def oSumA : O1 := fun x k => opt (itemsD x) fun ds => opt (intsD ds) fun bs => k (.int bs.sum)
end DL

namespace DL
open PyProof.Rows hiding St
open PySem PySem.Spec L2
/-! ### key in d, list(d): d a frozen dict -/
def oInD (neg : Bool) : O2 := fun x y k => match y with
  | .dct kvs => opt (keyD x) fun kk => k (.bl (xor neg (getK kvs kk).isSome))
  | _ => False
theorem RepK.isSome {K : PySem.W.Frag} {F : Hp} {k : Key} : ∀ {vs : List (Key × V)} {ds : List (Key × Dt)}, RepK K F vs ds → (valV vs k).isSome = (getK ds k).isSome
  | _, _, .nil => rfl
  | _, _, .cons (k := k') (v := v) (d := d') (vs := vs) (ds := ds) h t => by
    unfold getK
    rw [List.find?_cons]
    by_cases q : k' = k
    · rw [show decide (((k', d') : Key × Dt).1 = k) = true from decide_eq_true q, valV_pos q]
      rfl
    · rw [show decide (((k', d') : Key × Dt).1 = k) = false from decide_eq_false q, valV_neg q]
      exact RepK.isSome t
end DL
namespace DL
open PyProof.Rows hiding St
open PySem PySem.Spec L2
/-! ### len(set(text)) -/
section
variable {P : Program} {w : World} {A : Around} {E : Value → Shared → Prop} {s : Shared}
theorem set_of_str {z : Str} {t : Tok} {Q : Value → Shared → Prop} (cold : A.handled = none) (few : z.cps.size + 1 < scanBound)
    (fin : ∀ (h' : Heap) (k : Nat), TxS P w h' s.heap.objs.size ((sgs z).foldl addS []) → (∀ b u, s.heap.get? b = some u → h'.get? b = some u) → Q (.ref s.heap.objs.size) { s with heap := h', toks := k }) :
    wpAny (model P w) A (call (.type "set") [.str z t]) Q E s := by
  have size : (sgs z).length = z.cps.size := by unfold sgs; rw [List.length_map, Array.length_toList]
  let S := s.heap.objs.size
  let s0 : Shared := { s with heap := s.heap.push (setObj0 w) }
  have at0 : s0.heap.get? S = some (setObj0 w) := Heap.get?_push_size _ rfl
  have size0 : s0.heap.objs.size = S + 1 := Heap.size_push ..
  refine type_call_asked (N := fun o t => o = .ref S ∧ t = s0) F.called_set (F.typeCall_set_1 _) F.entry_set_init (code_set_led1 _ ⟨rfl, rfl⟩) fun o t eq => ?_
  obtain ⟨rfl, rfl⟩ := eq
  refine ⟨⟨_, at0, rfl⟩, fun Q' q A' E' => check_set_init_1 ⟨_, at0, rfl⟩ q, ?_⟩
  · have n1 := F.sub_str_set
    have n2 := F.sub_str_frozenset
    have n3 : (Value.type "str" == Value.type "dict") = false := by decide
    have at1 : s0.heap.get? S = some { cls := .type "set", dict := none, data := .set #[] 0 (.fresh 0 0 (!w.params.followText "set-order")) } := at0
    unfold Builtin.«set.__init__» noKeywords Builtin.Frozenset.updateFrom
    generalize hh : pyIter = iter
    wp_walk
    subst hh
    refine wpAny_pyIter_str (s := s0) fun o St W st => wpAny_bind (wpAny_runValue ?_)
    let s2 : Shared := { s0 with heap := s0.heap.push o }
    have cold3 : A.in1.in1.in1.handled = none := cold
    have stay : ∀ b u, s0.heap.get? b = some u → s2.heap.get? b = some u := fun b u e => Heap.get?_push_of_some _ e
    refine tx_update (s := s2) (L := []) (i := 0) (n := z.cps.size) (todo := sgs z) (S := S) (W _ cold3).toS ?_ (by omega) (fun j v pv => ?_) (by rw [size]; simpa using few) st (tx_none (stay _ _ at0)) fun s' mv T => ?_
    · rw [size0]
      simp only [List.mem_cons, List.mem_singleton, List.not_mem_nil, or_false, not_or]
      exact Nat.ne_of_lt (Nat.lt_succ_self S)
    · obtain ⟨c, u, e1, e2⟩ := pv
      rw [Nat.zero_add] at e1
      refine ⟨⟨#[c]⟩, u, ?_, e2⟩
      unfold sgs
      rw [List.getElem?_map, Array.getElem?_toList, e1]
      rfl
    · have es : s' = { s with heap := s'.heap, toks := s'.toks } := by
        have a1 : s'.gens = s.gens := mv.gens
        have a2 : s'.drawn = s.drawn := mv.drawn
        have a3 : s'.os = s.os := mv.os
        cases s'
        cases s
        cases a1
        cases a2
        cases a3
        rfl
      refine wpAny_pure (wpAny_pure ⟨rfl, ?_⟩)
      rw [es]
      refine fin s'.heap s'.toks T fun b u e => mv.heap b u ?_ (stay b u (Heap.get?_push_of_some _ e))
      have lt : b < S := Heap.lt_size e
      rw [size0]
      simp only [List.mem_cons, List.mem_singleton, List.not_mem_nil, or_false, not_or]
      exact ⟨Nat.ne_of_lt lt, Nat.ne_of_lt (Nat.lt_succ_of_lt lt)⟩
end
section
variable {X : Cx}
def rSetStr (P : Program) (w : World) : List V → Hp → VK → Prop := fun xs H Q => ∃ (z : Str), xs = [.str z] ∧ z.length < 64 ∧ ∀ p, H p = none → Q (.ref p) (upd H p (TxO P w p ((sgs z).foldl addS [])))
theorem cr_setStr (hc : X.calm = true) : CallR X (.type "set") (rSetStr X.prog X.w) := by
  intro pins s σ H xs us Q I r ⟨z, e, few, q⟩
  subst e
  obtain ⟨u, rfl, ru⟩ := vals1 r
  obtain ⟨t, rfl⟩ : ∃ t, u = Value.str z t := ru
  have lim : z.cps.size + 1 < scanBound := by unfold scanBound; have : z.cps.size < 64 := few; omega
  have fin : ∀ (h' : Heap) (k : Nat), TxS X.prog X.w h' s.heap.objs.size ((sgs z).foldl addS []) → (∀ b u, s.heap.get? b = some u → h'.get? b = some u) → EP X pins σ Q (.ref s.heap.objs.size) { s with heap := h', toks := k } := fun h' k T keep => by
    refine ⟨.ref s.heap.objs.size, _, I.laid keep (Nat.le_refl _) (show ObjOk X.prog X.w (upd H _ (TxO X.prog X.w _ ((sgs z).foldl addS []))) h' _ (TxO X.prog X.w _ ((sgs z).foldl addS [])) from ⟨T, ?_, fun h1 h2 p k => TxS.there p k⟩), rfl, q _ (I.hok.fresh (Nat.le_refl _))⟩
    obtain ⟨ob, _, _, _, e, _⟩ := T
    exact ⟨ob, e⟩
  exact set_of_str (I.ok.hd hc) lim fin
variable {Z : Fm} {W : WX} {a : Expr} {ma : DT} {p1 p2 p3 pos : Pos}
def dLenSetS (a : DT) : DT := fun ρ R U => a ρ (fun x ρ1 => match x with
  | .str l => l.length < 64 ∧ R (.int (dd (l.map fun c => [c])).length) ρ1
  | _ => False) U
theorem d_lenSetS (ha : DE X Z W a ma) (hc : X.calm = true := by rfl) (g1 : Gl X "len" := by rfl) (m1 : X.mg "len" = none := by rfl) (g2 : Gl X "set" := by rfl) (m2 : X.mg "set" = none := by rfl)
    (hs : starEach [a] X.env = (false, eval a X.env) :: starEach [] X.env := by rfl) : DE X Z W (.Call (.Name "len" p1) [.Call (.Name "set" p2) [a] [] p3] [] pos) (dLenSetS ma) :=
  PE.imp (pe_callB cr_lenTx g1 m1 rfl (pa_cons (pe_callTy (cr_setStr hc) g2 m2 rfl (pa_cons ha pa_nil hs) (he := hs)) pa_nil)) fun σ H Q ⟨F, ρ, R, U, I, hm, q, u⟩ =>
    ⟨F, ρ, _, U, I, hm, fun x ρ1 v F1 H1 I1 s1 r1 h1 => by
      cases r1 with
      | str l hl =>
        obtain ⟨few, h2⟩ := h1
        refine ⟨_, rfl, by rw [str_len]; exact few, fun p np => ⟨p, (dd (l.map fun c => [c])).map mkS, rfl, ?_, ?_⟩⟩
        · have := adds_mk (l.map fun c => [c]) []
          show upd H1 p _ p = _
          rw [upd_same]
          refine congrArg (fun L => some (TxO X.prog X.w p L)) (Eq.trans ?_ this)
          congr 1
          unfold sgs
          rw [List.map_map]
          rfl
        · rw [List.length_map]
          exact q _ ρ1 _ F1 _ (I1.freshO np) s1 (.int _) h2
      | _ => exact h1.elim, u⟩
end
end DL

namespace DL
open PyProof.Rows hiding St
open PySem PySem.Spec L2
/-! ### the law's end with tables of code objects -/
theorem law_runT {P : Program} {w : World} {K : PySem.W.Frag} {mg mb : Str → Option Value} {k : Nat} {fa a : Addr} {cs : List (Addr × Addr)} {tq : Addr → Str} {fd : FuncData} {x : Str} {s : SpD} {s₁ : Shared} {vs : List Value} {ns : List Int}
    (KX : K.In s₁.heap) (hns : s₁.heap.Ns mainGlobals mg) (hb : s₁.heap.Ns builtinsNs mb) (hbb : ∀ x : Str, x ≠ "__name__" → mb x = bootBuiltins x) (hlim : s₁.heap.NoLimit) (hg : s₁.gens = #[])
    (hT : ∀ p ∈ cs, s₁.heap.get? p.2 = some { cls := .none, data := .fields #[] }) (nT : ∀ p ∈ cs, K.lookup p.2 = none) (C : ∀ p ∈ cs, PySem.W.CodeHd s₁.heap p.1 p.2)
    (hbm : ∃ (bm : Addr) (ob : Obj), mg "__builtins__" = some (.ref bm) ∧ bm ≠ builtinsNs ∧ s₁.heap.get? bm = some ob ∧ ob.cls = .type "module" ∧ ob.dict = some builtinsNs ∧ ob.data = .plain)
    (ha : s₁.heap.get? a = some { cls := .type "list", data := .seq vs.toArray }) (hi : IntsAre vs ns) (hl : ns.length ≤ sizeLine) (hr : Room k callerA)
    (D : ∀ base : Heap, K.In base → base.Ns mainGlobals mg → (∀ p ∈ cs, LamX.TabB base mg p.1 p.2) → Fd (cs.map fun p => (p.2, tq p.2)) P w K mg base k fa [x] fd s) (hbind : ∀ (s : Shared) (u : Value), BindsTo s fd ⟨[u], []⟩ [(x, u)])
    (math : s [.dat (.scr (ns.map Dt.int))] (fun rv _ => rv = .d (.bl true)) fun _ _ => False) :
    codeAny (model P w) callerA (.call (.ref fa) ⟨[.ref a], []⟩) (fun r s' => r = .ok (.ret (.bool true)) ∧ OldK s₁.heap s'.heap ∧ s'.os = s₁.os ∧ AllBare s'.gens) s₁ := by
  have rv := vals_ints hi
  have lenV := hi.length
  have isT : ∀ b : Addr, b ∈ cs.map (·.2) → s₁.heap.get? b = some { cls := .none, data := .fields #[] } := fun b hb => by
    obtain ⟨p, hp, e⟩ := List.mem_map.mp hb
    rw [← e]
    exact hT p hp
  have aT : a ∉ cs.map (·.2) := fun z => by
    have q := isT a z
    rw [ha] at q
    have z' : Data.seq vs.toArray _ = Data.fields #[] := congrArg Obj.data (Option.some.inj q)
    cases z'
  have hsp : ∀ H : Hp, (∀ p ∈ cs, H p.2 = some (.tbl #[])) → SqL K H a (ns.map V.int) → Mono s → spOf (cs.map fun p => (p.2, tq p.2)) K s [.ref a] H (fun v _ => v = .bl true) fun _ _ _ => False := fun H hH hS mono => by
    have eF : (fun b => if b = a then H a else none : Hp) a = H a := if_pos rfl
    have sq : SqL K (fun b => if b = a then H a else none) a (ns.map V.int) := by
      rcases hS with (h | ⟨o, h⟩) | h
      · exact .inl (.inl (eF.trans h))
      · exact .inl (.inr ⟨o, eF.trans h⟩)
      · exact .inr h
    refine ⟨fun b => if b = a then H a else none, [.dat (.scr (ns.map Dt.int))], fun b o e => ?_, .cons (show Rep K _ (.ref a) (.scr (ns.map Dt.int)) from .scr sq Reps.of_ints) .nil, List.nodup_nil, ⟨fun t ht => ?_, fun t ht => ?_⟩, mono _ _ _ _ _ (fun rv outs e v F' H' _ _ r => ?_) (fun _ _ z => z.elim) math⟩
    · by_cases q : b = a
      · subst q
        exact eF.symm.trans e
      · have e' : (none : Option HO) = some o := (if_neg q).symm.trans e
        cases e'
    · obtain ⟨p, hp, rfl⟩ := List.mem_map.mp ht
      exact LamX.TabS.nil (hH p hp)
    · obtain ⟨p, hp, rfl⟩ := List.mem_map.mp ht
      exact if_neg (show ¬ p.2 = a from fun z => aT (by rw [← z]; exact List.mem_map.mpr ⟨p, hp, rfl⟩))
    · subst e
      have r' : Rep K F' v (.bl true) := r
      cases r'
      rfl
  have memT : ∀ p ∈ cs, p.2 ∈ cs.map (·.2) := fun p hp => List.mem_map.mpr ⟨p, hp, rfl⟩
  -- from an abstract heap in which nothing but the script and the tables may be tracked
  have core : ∀ H : Hp, (∀ p ∈ cs, H p.2 = some (.tbl #[])) → (∀ b, H b = none ∨ b ∈ cs.map (·.2) ∨ ∃ o xs, H b = some (.frz o (.lst xs))) → SqL K H a (ns.map V.int) → HOk P w H s₁.heap → (∀ b, H b ≠ none → b = a ∨ b ∈ cs.map (·.2)) → (H a ≠ none → K.lookup a = none) →
      codeAny (model P w) callerA (.call (.ref fa) ⟨[.ref a], []⟩) (fun r s' => r = .ok (.ret (.bool true)) ∧ OldK s₁.heap s'.heap ∧ s'.os = s₁.os ∧ AllBare s'.gens) s₁ := by
    intro H hH hO hS hok hA hK
    have base_of : ∀ {b : Addr} {o : Obj}, s₁.heap.get? b = some o → H b = none → (hidT s₁.heap H).get? b = some o := fun e n => hidT_get e n
    have noD : ∀ {b : Addr} {o : Obj}, s₁.heap.get? b = some o → (∀ vs n, o.data ≠ .seq vs n) → o.data ≠ .fields #[] → H b = none := fun {b o} e h1 h2 => by
      cases q : H b with
      | none => rfl
      | some u =>
        rcases hA b (by rw [q]; simp) with e' | e'
        · rw [e', ha] at e
          cases e
          exact (h1 _ _ rfl).elim
        · rw [isT b e'] at e
          cases e
          exact (h2 rfl).elim
    have noA : ∀ {b : Addr} {o : Obj} {es : Array DictEntry} {ep : Nat}, s₁.heap.get? b = some o → o.data = .dict es ep → H b = none := fun {b o es ep} e d => by
      refine noD e (fun vs n z => ?_) fun z => ?_
      · rw [d] at z
        cases z
      · rw [d] at z
        cases z
    have nsK : ∀ {b : Addr} {m : Str → Option Value}, s₁.heap.Ns b m → (hidT s₁.heap H).Ns b m := fun {b m} ⟨o, es, ep, e, d, r⟩ => ⟨o, es, ep, base_of e (noA e d), d, r⟩
    have hKb : K.In (hidT s₁.heap H) := fun b o e => base_of (KX b o e) (by
      cases q : H b with
      | none => rfl
      | some u =>
        rcases hA b (by rw [q]; simp) with e' | e'
        · rw [e'] at e q
          rw [hK (by rw [q]; simp)] at e
          cases e
        · obtain ⟨p, hp, ep⟩ := List.mem_map.mp e'
          rw [← ep, nT p hp] at e
          cases e)
    have hM : L2.Mod K mg (hidT s₁.heap H) := ⟨hKb, nsK hns, ⟨mb, nsK hb, hbb⟩, let ⟨mc, h1, h2⟩ := hlim; ⟨mc, nsK h1, h2⟩⟩
    have TB : ∀ p ∈ cs, LamX.TabB (hidT s₁.heap H) mg p.1 p.2 := fun p hp => by
      have hTp := hT p hp
      refine ⟨?_, ?_, fun z => ?_⟩
      · obtain ⟨o, us, file, tf, flags, tg, inF, text, tt, e1, r1, r2, r3, r4, r5, r6, r7, r8, hne⟩ := C p hp
        refine ⟨o, us, file, tf, flags, tg, inF, text, tt, base_of e1 (noD e1 (fun vs n z => ?_) fun z => ?_), r1, r2, r3, r4, r5, r6, r7, r8, hne⟩
        · rw [r2] at z
          cases z
        · rw [r2] at z
          cases z
          simp at r3
      · obtain ⟨bm, ob, b1, b2, b3, b4, b5, b6⟩ := hbm
        have nG : bm ≠ mainGlobals := fun q => by
          obtain ⟨o, es, ep, e, hd, _⟩ := hns
          rw [q, e] at b3
          cases b3
          rw [hd] at b6
          cases b6
        have nP : bm ≠ p.2 := fun q => by
          rw [q, hTp] at b3
          cases b3
          cases b6
        refine ⟨bm, ob, b1, b2, nG, nP, base_of b3 (noD b3 (fun vs n z => ?_) fun z => ?_), b4, b5, b6⟩
        · rw [b6] at z
          cases z
        · rw [b6] at z
          cases z
      · obtain ⟨o, es, ep, e, hd, _⟩ := hns
        rw [z, hTp] at e
        cases e
        cases hd
    have e0 : Env0 P w K mg (hidT s₁.heap H) callerA [] s₁ H := ⟨rfl, hM, fun b o e => of_hidT e, Nat.le_of_eq (hidT_size _ _), trivial, fun b hb => absurd (show b ∈ ([] : List Addr) from hb) (by simp), hok, .of_eq hg⟩
    refine codeAny_mono ((D _ hKb (nsK hns) TB).ok.run callerA [] s₁ H ⟨[.ref a], []⟩ [.ref a] [.ref a] _ _ hr rfl e0 (hbind s₁ (.ref a)) (.cons rfl .nil) (hsp H hH hS (D _ hKb (nsK hns) TB).mono)) fun r s' h => ?_
    cases r with
    | error e =>
      obtain ⟨_, _, _, _, _, _, _, _, _, _, _, _, z⟩ := h
      exact False.elim z
    | ok fl =>
      cases fl with
      | next => exact False.elim h
      | brk => exact False.elim h
      | cont => exact False.elim h
      | ret u =>
        obtain ⟨v, H', os, bare, un, hok', r', q⟩ := h
        have q' : v = .bl true := q
        subst q'
        obtain rfl : u = Value.bool true := r'
        have key : ∀ b o, b ∉ cs.map (·.2) → s₁.heap.get? b = some o → s'.heap.get? b = some o := fun b o nb e => by
          cases q : H b with
          | none => exact un.keep b o e q (by intro z; exact absurd (show b ∈ ([] : List Addr) from z) (by simp)) (by simp)
          | some u =>
            rcases hO b with z | z | ⟨ob, xs, z⟩
            · rw [q] at z; cases z
            · exact absurd z nb
            · have z2 := un.frzs b ob _ z
              obtain ⟨e1, _⟩ := hok b _ z
              obtain ⟨e2, _⟩ := hok' b _ z2
              rw [e] at e1; cases e1
              exact e2
        have grown : ∀ p ∈ cs, ∃ more : Array Value, s'.heap.get? p.2 = some { cls := .none, data := .fields more } := fun p hp => by
          obtain ⟨more, z⟩ := un.tbls p.2 #[] (hH p hp)
          exact ⟨_, hok' p.2 _ z⟩
        refine ⟨rfl, ⟨fun b o e => ?_, fun b o e => ?_⟩, os, bare⟩
        · by_cases hb : b ∈ cs.map (·.2)
          · obtain ⟨p, hp, ep⟩ := List.mem_map.mp hb
            obtain ⟨more, hm⟩ := grown p hp
            rw [← ep] at e ⊢
            rw [hT p hp] at e
            cases e
            exact .inr (.inl ⟨((C p hp).tab (hT p hp)).isCodeTable, rfl, #[], more, rfl, by rw [Array.empty_append]; exact hm⟩)
          · exact .inl (key b o hb e)
        · by_cases hb : b ∈ cs.map (·.2)
          · obtain ⟨p, hp, ep⟩ := List.mem_map.mp hb
            obtain ⟨more, hm⟩ := grown p hp
            rw [← ep]
            exact ⟨_, hm⟩
          · exact ⟨o, key b o hb e⟩
  cases hk : K.lookup a with
  | some o =>
    have e := KX a o hk
    rw [ha] at e
    cases e
    refine core (fun b => if b ∈ cs.map (·.2) then some (.tbl #[]) else none) (fun p hp => if_pos (memT p hp)) (fun b => ?_) (.inr ⟨_, vs.toArray, _, hk, rfl, rfl, rfl, by rw [List.size_toArray, lenV]; exact hl, by simpa using rv⟩) (fun b u z => ?_) (fun b z => ?_) fun z => absurd (show (if a ∈ cs.map (·.2) then some (HO.tbl #[]) else none) = none from if_neg aT) z
    · by_cases hb : b ∈ cs.map (·.2)
      · exact .inr (.inl hb)
      · exact .inl (if_neg hb)
    · by_cases hb : b ∈ cs.map (·.2)
      · have z' := (if_pos hb).symm.trans z
        cases z'
        exact isT b hb
      · have z' := (if_neg hb).symm.trans z
        cases z'
    · by_cases hb : b ∈ cs.map (·.2)
      · exact .inr hb
      · exact absurd (if_neg hb) z
  | none =>
    refine core (fun b => if b = a then some (.frz { cls := .type "list", data := .seq vs.toArray } (.lst (ns.map V.int))) else if b ∈ cs.map (·.2) then some (.tbl #[]) else none) (fun p hp => (if_neg (show ¬ p.2 = a from fun z => aT (by rw [← z]; exact memT p hp))).trans (if_pos (memT p hp))) (fun b => ?_)
      (.inl (.inr ⟨{ cls := .type "list", data := .seq vs.toArray }, if_pos rfl⟩)) (fun b u z => ?_) (fun b z => ?_) fun _ => hk
    · by_cases hb : b = a
      · exact .inr (.inr ⟨_, _, if_pos hb⟩)
      · by_cases hb2 : b ∈ cs.map (·.2)
        · exact .inr (.inl hb2)
        · exact .inl ((if_neg hb).trans (if_neg hb2))
    · by_cases hb : b = a
      · have z' := (if_pos hb).symm.trans z
        cases z'
        rw [hb]
        exact ⟨ha, by rw [List.length_map]; exact hl, vs, _, rv, ha⟩
      · have z1 := (if_neg hb).symm.trans z
        by_cases hb2 : b ∈ cs.map (·.2)
        · have z' := (if_pos hb2).symm.trans z1
          cases z'
          exact isT b hb2
        · have z' := (if_neg hb2).symm.trans z1
          cases z'
    · by_cases hb : b = a
      · exact .inl hb
      · by_cases hb2 : b ∈ cs.map (·.2)
        · exact .inr hb2
        · exact absurd ((if_neg hb).trans (if_neg hb2)) z
theorem law_endT {l : PySem.W.OpenLaw} {n k : Nat} {q : Program} {loose : List Str} {XP : (Str → Option Value) → Heap → Prop} {YP : World → Heap → Prop} {d : DefRec} {x : Str} (most : l.most = some n) (line : n ≤ sizeLine) (bare : d.params.defaults = []) (room : Room k callerA)
    (F : ∀ (w : World) (mg : Str → Option Value) (fa : Addr) (h : Heap), YP w h → h.Ns mainGlobals mg → mg d.name = some (.ref fa) → ∃ (K : PySem.W.Frag) (fd : FuncData) (s : SpD) (cs : List (Addr × Addr)) (tq : Addr → Str), K.In h ∧
      (∀ p ∈ cs, h.get? p.2 = some { cls := .none, data := .fields #[] }) ∧ (∀ p ∈ cs, K.lookup p.2 = none) ∧ (∀ p ∈ cs, PySem.W.CodeHd h p.1 p.2) ∧ (∀ (t : Shared) (u : Value), BindsTo t fd ⟨[u], []⟩ [(x, u)]) ∧
      (∀ ns : List Int, ns.length ≤ n → (∀ k ∈ ns, Builtin.Int.intBits k ≤ 1048576) → s [.dat (.scr (ns.map Dt.int))] (fun rv _ => rv = .d (.bl true)) fun _ _ => False) ∧
      ∀ base : Heap, K.In base → base.Ns mainGlobals mg → (∀ p ∈ cs, LamX.TabB base mg p.1 p.2) → Fd (cs.map fun p => (p.2, tq p.2)) l.prog w K mg base k fa [x] fd s) :
    PySem.W.WalkO q loose XP YP l.row.toRowW d [] (fun f vs => PySem.call f vs) :=
  Att.attach_callB most bare fun w s₀ s₁ mg mb fa o pm cd doc a vs ns G Y ho hd hcd hmg hobj hints hlen hbits hg => by
    obtain ⟨K, fd, s, cs, tq, KX, hT, nT, C, bind, math, D⟩ := F w mg fa _ Y G.T.g hmg
    exact law_runT KX G.T.g G.T.b G.T.builtins G.T.nolimit hg hT nT C G.T.bmain hobj hints (Nat.le_trans hlen line) room D bind (math ns hlen hbits)
end DL

namespace DL
open PyProof.Rows hiding St
open PySem PySem.Spec L2
/-! ### a lambda is made -/
/-- what the heap is behind the making: as before, or the table has one code object more -/
def LamHeap (P : Addr) (q : Str) (H H1 : Hp) : Prop := H1 = H ∨ ∃ (ps more : Array Value) (c : Addr), H P = some (.tbl ps) ∧ H c = none ∧ H1 = upd (upd H P (.tbl (ps ++ more))) c (LamX.CodeO c q)
/-- the code object of a place stands in the table -/
def InTab (P : Addr) (pos : Pos) (c : Addr) (H : Hp) : Prop := ∃ ps : Array Value, H P = some (.tbl ps) ∧ codeAmong pos ps.toList = some (.ref c)
section
variable {X : Cx} {pins : List (Addr × Obj)} {σ : St} {H : Hp} {s : Shared} {T : List (Addr × Str)} {c P : Addr} {params : Arguments} {body : Expr} {scope : Scope} {pos : Pos}
abbrev lamQ (X : Cx) : Str := X.env.qual ++ "<lambda>"
abbrev lamO (X : Cx) (params : Arguments) (body : Expr) (scope : Scope) (pm : Value) (c : Addr) (ct : Value) : Obj := PySem.W.kla_obj "<lambda>" (lamQ X) params body scope (cloFrom X.env.cells scope.names []) pm c ct
theorem lam_mk {E : Value → Shared → Prop} {Q : Value → Shared → Prop} (I : Inv X pins σ H s) (TB : LamX.TabB X.base X.mg c P) (code : X.env.code = .ref c) (mem : (P, lamQ X) ∈ T) (uniq : ∀ t ∈ T, t.1 = P → t.2 = lamQ X) (tabs : LamX.Tabs T H)
    (dflt : defaultsOf params X.env = ([], [])) (has : ∀ y ∈ scope.names, y.2 = .free → ∃ a, X.env.cells.lookup y.1 = some a)
    (go : ∀ (f cd : Addr) (pm ct : Value) (H1 : Hp) (s1 : Shared), Inv X pins σ H1 s1 → LamHeap P (lamQ X) H H1 → LamX.Tabs T H1 → InTab P pos cd H1 → s1.heap.get? f = some (lamO X params body scope pm cd ct) → FpOk X pins H1 f → Q (.ref f) s1) :
    wpAny (model X.prog X.w) X.A (eval (.Lambda params body scope pos) X.env) Q E s := by
  obtain ⟨ps, atP, trip, known⟩ := tabs _ mem
  have bt : s.heap.BuiltinsAt X.mg P := TB.bm.keeps I.bk
  have obP : s.heap.get? P = some { cls := .none, data := .fields ps } := I.hok P _ atP
  have glob := I.mod.glob.keeps I.bk
  have hd := TB.code.keeps I.bk
  refine PySem.W.kla_eval dflt ?_
  cases found : codeAmong pos ps.toList with
  | some cv =>
    obtain ⟨cd, rfl, isC⟩ := known pos cv found
    refine PySem.W.kla_makeFunctionHit (mg := X.mg) (c := c) (P := P) (ps := ps) (closure_ok has) I.ok.glob glob code hd obP trip found bt fun ct h1 tk old size => ?_
    have I1 := I.kept (t' := tk) fun b o e => Heap.get?_push_of_some (lamO X params body scope ((X.mg "__name__").getD .none) cd ct) (old b o e)
    exact go _ cd _ ct H _ I1 (.inl rfl) tabs ⟨ps, atP, found⟩ (Heap.get?_push_size _ rfl) (I.fpOk size (I.hok.fresh size))
  | none =>
    refine PySem.W.kla_makeFunction (mg := X.mg) (c := c) (P := P) (ps := ps) (closure_ok has) I.ok.glob glob code hd obP trip found TB.gP bt fun cd ct h1 tk old ge lt rec tab1 => ?_
    obtain ⟨cd', oc, vs, t, ec, hoc, dat, nam⟩ := rec
    obtain rfl : cd = cd' := by injection ec
    have size : s.heap.objs.size ≤ h1.objs.size := Nat.le_trans ge (Nat.le_of_lt lt)
    have nc : H cd = none := I.hok.fresh ge
    have nPc : P ≠ cd := ne_of_none atP nc
    let fo := lamO X params body scope ((X.mg "__name__").getD .none) cd ct
    have I1 := LamX.inv_table (q := lamQ X) (t' := tk) (h' := h1.push fo) (more := #[rawInt pos.line, rawInt pos.col, .ref cd]) I atP (fun b o ne e => Heap.get?_push_of_some fo (old b o ne e)) (Heap.get?_push_of_some fo tab1) ge ⟨oc, vs, t, Heap.get?_push_of_some fo hoc, dat, nam⟩
    have keep : LamX.ExtN H (upd (upd H P (.tbl (ps ++ #[rawInt pos.line, rawInt pos.col, .ref cd]))) cd (LamX.CodeO cd (lamQ X))) := fun b o e n => by
      have b1 : b ≠ cd := ne_of_none e nc
      have b2 : b ≠ P := fun z => n ps (by rw [z, atP] at e; exact (Option.some.inj e).symm)
      rw [upd_ne b1, upd_ne b2, e]
    have lst : (ps ++ #[rawInt pos.line, rawInt pos.col, .ref cd]).toList = ps.toList ++ [rawInt pos.line, rawInt pos.col, .ref cd] := by simp
    have here : codeAmong pos (ps ++ #[rawInt pos.line, rawInt pos.col, .ref cd]).toList = some (.ref cd) := by
      rw [lst]
      have aux : ∀ l : List Value, TriplesOk l → codeAmong pos l = none → codeAmong pos (l ++ [rawInt pos.line, rawInt pos.col, .ref cd]) = some (.ref cd) := by
        intro l tr n
        fun_induction TriplesOk l with
        | case1 => simp [rawInt, codeAmong]
        | case2 a t1 b u1 x rest ih =>
          simp only [codeAmong, List.cons_append] at n ⊢
          split at n
          · cases n
          · rename_i q
            rw [if_neg q]
            exact ih tr n
        | case3 l h1 h2 => exact tr.elim
      exact aux _ trip found
    have new1 : upd (upd H P (.tbl (ps ++ #[rawInt pos.line, rawInt pos.col, .ref cd]))) cd (LamX.CodeO cd (lamQ X)) P = some (.tbl (ps ++ #[rawInt pos.line, rawInt pos.col, .ref cd])) := by rw [upd_ne nPc, upd_same]
    have hn : upd (upd H P (.tbl (ps ++ #[rawInt pos.line, rawInt pos.col, .ref cd]))) cd (LamX.CodeO cd (lamQ X)) h1.objs.size = none := by
      rw [upd_ne (Nat.ne_of_gt lt), upd_ne (Nat.ne_of_gt (Nat.lt_of_lt_of_le (Heap.lt_size obP) size))]
      exact I.hok.fresh size
    refine go h1.objs.size cd _ ct _ _ I1 (.inr ⟨ps, _, cd, atP, nc, rfl⟩) (fun tt ht => ?_) ⟨_, new1, here⟩ (Heap.get?_push_size _ rfl) (I.fpOk size hn)
    by_cases eP : tt.1 = P
    · rw [uniq tt ht eP, eP]
      refine ⟨_, new1, by rw [lst]; exact PySem.TriplesOk_snoc _ _ _ _ trip, fun p1 cv q => ?_⟩
      rw [lst] at q
      rcases LamX.among_app _ trip q with z | z
      · obtain ⟨c0, e1, e2⟩ := known p1 cv z
        exact ⟨c0, e1, keep _ _ e2 LamX.codeO_ne⟩
      · exact ⟨cd, z, upd_same⟩
    · obtain ⟨qs, a1, a2, a3⟩ := tabs tt ht
      have n1 : tt.1 ≠ cd := ne_of_none a1 nc
      refine ⟨qs, by rw [upd_ne n1, upd_ne eP]; exact a1, a2, fun p1 cv q => ?_⟩
      obtain ⟨c0, e1, e2⟩ := a3 p1 cv q
      exact ⟨c0, e1, keep _ _ e2 LamX.codeO_ne⟩
/-- the data behind it -/
theorem DI.lam {K : PySem.W.Frag} {Z : Fm} {F H H1 : Hp} {σ : St} {ρ : En} {P : Addr} {q : Str} (I : DI K Z F H σ ρ) (mem : (P, q) ∈ Z.T) (h : LamHeap P q H H1) (t : LamX.Tabs Z.T H1) : DI K Z F H1 σ ρ := by
  rcases h with rfl | ⟨ps, more, c, atP, nc, rfl⟩
  · exact I
  · have fP : F P = none := I.tabF _ mem
    have bP : P ∈ Z.B := I.tabB _ mem
    have go : ∀ {b : Addr} {o : HO}, H b = some o → b ≠ P → upd (upd H P (.tbl (ps ++ more))) c (LamX.CodeO c q) b = some o := fun {b o} e n => by rw [upd_ne (ne_of_none e nc), upd_ne n, e]
    have nP : ∀ {b : Addr} {o : HO}, H b = some o → NoTab o → b ≠ P := fun {b o} e n z => by
      rw [z, atP] at e
      exact n.1 ps (Option.some.inj e).symm
    refine { f0 := I.f0, fh := fun b o e => go (I.fh b o e) fun z => (by rw [z, fP] at e; cases e), fnew := I.fnew, keep := fun a o e => ?_, bor := fun b hb => ?_, len := I.len, sl := fun i x e => ?_, ownB := I.ownB, dis := I.dis, pin := fun a u e => ?_, ownP := I.ownP, tab := t, tabB := I.tabB, tabF := I.tabF }
    · by_cases z : a = P
      · rw [z]; exact .inl bP
      · exact (I.keep a o e).imp id fun e' => go e' z
    · obtain ⟨o, e⟩ := I.bor b hb
      by_cases z : b = P
      · rw [z]
        exact ⟨.tbl (ps ++ more), by rw [upd_ne (ne_of_none atP nc), upd_same]⟩
      · exact ⟨o, go e z⟩
    · obtain ⟨ov, e1, r⟩ := I.sl i x e
      refine ⟨ov, e1, ?_⟩
      cases x with
      | no => trivial
      | exc q C d fs => exact r
      | dat d => exact r
      | own b p o =>
        obtain ⟨r1, r2, ho, r3, r4⟩ := r
        exact ⟨r1, r2, ho, go r3 (nP r3 (NoTab.rep r4)), r4⟩
    · obtain ⟨e1, e2, e3, e4⟩ := I.pin a u e
      exact ⟨go e1 fun z => e3 (by rw [z]; exact bP), e2, e3, e4⟩
/-! ### a lambda with one parameter: its names, its entry -/
structure LamP (sc scope : Scope) (y : Str) : Prop where
  kind : scope.kind = .function
  co : scope.isCoroutine = false
  gen : scope.isGenerator = false
  par : scope.names.lookup y = some .local
  nocell : ∀ z ∈ scope.names, z.2 ≠ .cell
  own : ∀ z ∈ scope.names, z.2 = .local → z.1 = y
  free : ∀ z ∈ scope.names, z.2 = .free → sc.names.lookup z.1 = some .cell ∨ sc.names.lookup z.1 = some .free
theorem LamP.has {y : Str} (L : LamP X.env.scope scope y) (ok : X.Ok) : ∀ z ∈ scope.names, z.2 = .free → ∃ a, X.env.cells.lookup z.1 = some a := fun z hz e => ok.has _ (L.free z hz e)
end
end DL

namespace DL
open PyProof.Rows hiding St
open PySem PySem.Spec L2
section
variable {X : Cx} {pins : List (Addr × Obj)} {σ : St} {H : Hp} {s : Shared} {T : List (Addr × Str)} {c P : Addr} {params : Arguments} {body : Expr} {scope : Scope} {pos : Pos}
end
/-! ### sorting by keys that a lambda makes -/
section
variable {X : Cx} {pins : List (Addr × Obj)} {σ : St} {H : Hp} {s : Shared} {A : Around} {E : Value → Shared → Prop} {vs : List Value}
theorem FpOk.of {H H' : Hp} {b : Addr} (f : FpOk X pins H b) (n : H' b = none) : FpOk X pins H' b := ⟨n, f.2⟩
end
section
variable {X : Cx} {pins : List (Addr × Obj)} {σ : St} {H : Hp} {s : Shared}
end
section
variable {X : Cx} {Z : Fm} {W : WX} {e : Expr} {me mb : DT} {k i : Nat} {c P : Addr} {y : Str} {params : Arguments} {body : Expr} {scope : Scope} {p lpos kpos pos : Pos}
end
end DL

namespace DL
open PyProof.Rows hiding St
open PySem PySem.Spec L2
/-! ### the head's hook, with tables of code objects -/
def minus (K : PySem.W.Frag) (l : List Addr) : PySem.W.Frag := K.filter fun p => !l.elem p.1
theorem minus_in (l : List Addr) (a : Addr) : ∀ K : PySem.W.Frag, (minus K l).lookup a = if l.elem a = true then none else K.lookup a
  | [] => by
    unfold minus
    split <;> rfl
  | (b, o) :: r => by
    have ih := minus_in l a r
    unfold minus at ih ⊢
    rw [List.filter_cons]
    by_cases q : (!l.elem b) = true
    · rw [if_pos (by exact q), List.lookup_cons, List.lookup_cons]
      by_cases e : (a == b) = true
      · rw [e]
        obtain rfl := beq_iff_eq.mp e
        rw [Bool.not_eq_true'] at q
        rw [if_neg (by rw [q]; exact Bool.noConfusion)]
      · rw [Bool.not_eq_true] at e
        rw [e]
        exact ih
    · rw [if_neg (by exact q), ih, List.lookup_cons]
      by_cases e : (a == b) = true
      · obtain rfl := beq_iff_eq.mp e
        rw [Bool.not_eq_true, Bool.not_eq_false'] at q
        rw [if_pos q, if_pos q]
      · rw [Bool.not_eq_true] at e
        rw [e]
theorem minus_sub {K : PySem.W.Frag} {l : List Addr} {h : Heap} (x : K.In h) : (minus K l).In h := fun a o e => by
  rw [minus_in] at e
  split at e
  · cases e
  · exact x a o e
def codeAd (K : PySem.W.Frag) (a : Addr) : Addr := match K.lookup a with
  | some ⟨_, _, .func f, _⟩ => (match f.code with
    | .ref c => c
    | _ => 0)
  | _ => 0
def tabAd (K : PySem.W.Frag) (a : Addr) : Addr := match K.lookup (codeAd K a) with
  | some ⟨_, _, .fields vs, _⟩ => (match (vs[11]? : Option Value) with
    | some (.ref P) => P
    | _ => 0)
  | _ => 0
theorem code_of {K : PySem.W.Frag} {d : DefA} {fd : FuncData} (F : FnA K d fd) : fd.code = .ref (codeAd K (d.adr K)) := by
  obtain ⟨oc, od, dV, kV, doc, pm, an, cdv, ct, osl, rfl, lk, hcd, _, _⟩ := F.ex
  unfold codeAd
  rw [lk]
  cases cdv with
  | ref c => rfl
  | _ => cases hcd
def lamName (d : DefA) : Str := (d.qual ++ ".<locals>.") ++ "<lambda>"
def emptyTab (g : Addr → Option Obj) (P : Addr) : Bool := match g P with
  | some ⟨.none, none, .fields vs, sl⟩ => vs.isEmpty && sl.isEmpty
  | _ => false
theorem emptyTab_ok {g : Addr → Option Obj} {P : Addr} (h : emptyTab g P = true) : g P = some { cls := .none, data := .fields #[] } := by
  unfold emptyTab at h
  split at h
  · rename_i vs sl e
    rw [Bool.and_eq_true] at h
    rw [e, Array.isEmpty_iff.mp h.1, Array.isEmpty_iff.mp h.2]
  · cases h
def tabsOf (K : PySem.W.Frag) (ls : List DefA) : List Addr := ls.map fun d => tabAd K (d.adr K)
def apart : List Addr → Bool
  | [] => true
  | a :: r => !r.elem a && apart r
theorem apart_nd : ∀ {l : List Addr}, apart l = true → l.Nodup
  | [], _ => List.nodup_nil
  | a :: r, h => by
    unfold apart at h
    rw [Bool.and_eq_true, Bool.not_eq_true'] at h
    refine List.nodup_cons.mpr ⟨fun q => ?_, apart_nd h.2⟩
    rw [List.elem_eq_contains, List.contains_iff_mem.mpr q] at h
    exact nomatch h.1
abbrev SeenT : Type := SeenB × Bool
def tabsB (g : Addr → Option Obj) (K : PySem.W.Frag) (ls : List DefA) (ts : List Addr) : Bool :=
  (ls.all fun d => PySem.W.codeHdIn K (codeAd K (d.adr K)) (tabAd K (d.adr K)) && emptyTab g (tabAd K (d.adr K)) && (K.lookup (tabAd K (d.adr K))).isNone && (tabAd K (d.adr K) != mainGlobals)) && apart (tabsOf K ls)
def obsT (fn : List DefA) (ex : PySem.W.Frag → Bool) (ts : List TabN) (ls : List DefA) (g : Addr → Option Obj) (K0 : PySem.W.Frag) : SeenT :=
  let K := minus K0 (tabsOf K0 ls)
  (obsB fn ex ts K, tabsB g K ls (tabsOf K0 ls))
def valT (fn : List DefA) (ts : List TabN) (w : World) : SeenT := (valB fn ts w, true)
structure SaysT (fn : List DefA) (ex : PySem.W.Frag → Bool) (ts : List TabN) (ls : List DefA) (w : World) (K : PySem.W.Frag) (h : Heap) : Prop where
  b : SaysB fn ex ts w K
  hd : ∀ d ∈ ls, PySem.W.CodeHd h (codeAd K (d.adr K)) (tabAd K (d.adr K))
  at_ : ∀ d ∈ ls, h.get? (tabAd K (d.adr K)) = some { cls := .none, data := .fields #[] }
  out : ∀ d ∈ ls, K.lookup (tabAd K (d.adr K)) = none
  nd : (tabsOf K ls).Nodup
theorem saysT_of {fn : List DefA} {ex : PySem.W.Frag → Bool} {ts : List TabN} {ls : List DefA} {w : World} {h : Heap} {K0 : PySem.W.Frag} (x : K0.In h) (e : obsT fn ex ts ls h.get? K0 = valT fn ts w) : ∃ K : PySem.W.Frag, K.In h ∧ SaysT fn ex ts ls w K h := by
  have e1 : obsB fn ex ts (minus K0 (tabsOf K0 ls)) = valB fn ts w := congrArg Prod.fst e
  have e2 : tabsB h.get? (minus K0 (tabsOf K0 ls)) ls (tabsOf K0 ls) = true := congrArg Prod.snd e
  have In := minus_sub (l := tabsOf K0 ls) x
  refine ⟨minus K0 (tabsOf K0 ls), In, ?_⟩
  generalize minus K0 (tabsOf K0 ls) = K at e1 e2 In
  unfold tabsB at e2
  rw [Bool.and_eq_true, List.all_eq_true] at e2
  have f : ∀ d ∈ ls, (PySem.W.codeHdIn K (codeAd K (d.adr K)) (tabAd K (d.adr K)) = true ∧ emptyTab h.get? (tabAd K (d.adr K)) = true) ∧ (K.lookup (tabAd K (d.adr K))).isNone = true := fun d hd => by
    have := e2.1 d hd
    rw [Bool.and_eq_true, Bool.and_eq_true, Bool.and_eq_true] at this
    exact this.1
  exact ⟨saysB_of e1, fun d hd => PySem.W.codeHd_of_K In (f d hd).1.1, fun d hd => emptyTab_ok (f d hd).1.2, fun d hd => Option.isNone_iff_eq_none.mp (f d hd).2, apart_nd e2.2⟩
/-! ### the tables as the derivations want them -/
def csOf (K : PySem.W.Frag) (ls : List DefA) : List (Addr × Addr) := ls.map fun d => (codeAd K (d.adr K), tabAd K (d.adr K))
def tqOf (K : PySem.W.Frag) (ls : List DefA) (P : Addr) : Str := match ls.find? fun d => tabAd K (d.adr K) == P with
  | some d => lamName d
  | none => ""
abbrev tbOf (K : PySem.W.Frag) (ls : List DefA) : List (Addr × Str) := (csOf K ls).map fun p => (p.2, tqOf K ls p.2)
structure LamT (T : List (Addr × Str)) (K : PySem.W.Frag) (base : Heap) (mg : Str → Option Value) (d : DefA) : Prop where
  mem : (tabAd K (d.adr K), lamName d) ∈ T
  uniq : ∀ t ∈ T, t.1 = tabAd K (d.adr K) → t.2 = lamName d
  tb : LamX.TabB base mg (codeAd K (d.adr K)) (tabAd K (d.adr K))
theorem tq_at {K : PySem.W.Frag} : ∀ {ls : List DefA} {d : DefA}, d ∈ ls → (tabsOf K ls).Nodup → tqOf K ls (tabAd K (d.adr K)) = lamName d
  | x :: ls, d, hd, nd => by
    unfold tqOf
    rw [List.find?_cons]
    have nd' : (tabAd K (x.adr K) :: tabsOf K ls).Nodup := nd
    rw [List.nodup_cons] at nd'
    rcases List.mem_cons.mp hd with rfl | hd
    · rw [beq_self_eq_true]
    · have ne : (tabAd K (x.adr K) == tabAd K (d.adr K)) = false := beq_eq_false_iff_ne.mpr fun e => nd'.1 (by rw [e]; exact List.mem_map.mpr ⟨d, hd, rfl⟩)
      rw [ne]
      exact tq_at hd nd'.2
theorem lamT_of {K : PySem.W.Frag} {ls : List DefA} {base : Heap} {mg : Str → Option Value} (nd : (tabsOf K ls).Nodup) (tb : ∀ p ∈ csOf K ls, LamX.TabB base mg p.1 p.2) {d : DefA} (hd : d ∈ ls) : LamT (tbOf K ls) K base mg d := by
  have hc : (codeAd K (d.adr K), tabAd K (d.adr K)) ∈ csOf K ls := List.mem_map.mpr ⟨d, hd, rfl⟩
  refine ⟨?_, fun t ht e => ?_, tb _ hc⟩
  · rw [← tq_at hd nd]
    exact List.mem_map.mpr ⟨_, hc, rfl⟩
  · obtain ⟨p, _, rfl⟩ := List.mem_map.mp ht
    have e' : p.2 = tabAd K (d.adr K) := e
    show tqOf K ls p.2 = _
    rw [e']
    exact tq_at hd nd
section
variable {fn : List DefA} {ex : PySem.W.Frag → Bool} {ts : List TabN} {ls : List DefA} {w : World} {K : PySem.W.Frag} {h : Heap}
theorem SaysT.ats (c : SaysT fn ex ts ls w K h) : ∀ p ∈ csOf K ls, h.get? p.2 = some { cls := .none, data := .fields #[] } := fun p hp => by
  obtain ⟨d, hd, rfl⟩ := List.mem_map.mp hp
  exact c.at_ d hd
theorem SaysT.outs (c : SaysT fn ex ts ls w K h) : ∀ p ∈ csOf K ls, K.lookup p.2 = none := fun p hp => by
  obtain ⟨d, hd, rfl⟩ := List.mem_map.mp hp
  exact c.out d hd
theorem SaysT.hds (c : SaysT fn ex ts ls w K h) : ∀ p ∈ csOf K ls, PySem.W.CodeHd h p.1 p.2 := fun p hp => by
  obtain ⟨d, hd, rfl⟩ := List.mem_map.mp hp
  exact c.hd d hd
end
/-- a def that makes a lambda: its code object is known -/
theorem fn_DL {P : Program} {w : World} {K : PySem.W.Frag} {mg : Str → Option Value} {base : Heap} {T : List (Addr × Str)} {x qual : Str} {params : Arguments} {body : List Stmt} {scope : Scope} {dvs : List V} {kws : List (Str × V)} {f : Addr} {fd : FuncData} {N ps : List Str} {k : Nat} {s : SpD} {m : DSt} {cd : Value} (ec : fd.code = cd) (F : FunD K x qual params body scope dvs kws f fd) (S : FnScope N ps scope) (mono : Mono s) (hlen : ∀ args Q U, s args Q U → args.length = ps.length)
    (hbody : ∀ (A : Around) (outer : List Env) (s : Shared) (H : Hp) (E : XK) (Z : Fm0), Room k (A.deeper (envOfC qual scope s.heap.objs.size f cd)) → (A.deeper (envOfC qual scope s.heap.objs.size f cd)).guards = some [] →
      DSs (cxOf (L2.CX P w) P w K mg base N qual scope f cd A outer s H E) (Fm.of Z T) (fun cls d _ H' => E cls d H') body m)
    (math : ∀ args Q U, s args Q U → m (ends args Q U) (entry N.length args)) : Fd T P w K mg base (k + 1) f ps fd s := by
  refine fn_DC F S mono hlen (fun cdv e A outer s H E Z hr hgd => ?_) math
  obtain rfl : cdv = cd := e.symm.trans ec
  exact hbody A outer s H E Z hr hgd
end DL

namespace DL
open PyProof.Rows hiding St
open PySem PySem.Spec L2
/-! ### list(range(a, b, c)) -/
section
variable {X : Cx} {Z : Fm} {W : WX} {a b c : Expr} {ma mb mc : DT} {pos pos2 p p2 : Pos}
end
end DL

namespace DL
open PyProof.Rows hiding St
open PySem PySem.Spec L2
/-! ### len(set(texts)), of a list or a tuple -/
section
variable {X : Cx} {Z : Fm} {W : WX} {a : Expr} {ma : DT} {p1 p2 p3 pos : Pos}
end
end DL

namespace DL
open PyProof.Rows hiding St
open PySem PySem.Spec L2
/-! ### divmod by a great divisor -/
/-! ### a[::-1] of a list or a tuple -/
section
variable {prog : Program} {w : World} {A : Around} {E : Value → Shared → Prop} {s : Shared}
theorem applied_back {sl : Addr} {vs : Value} {n : Nat} {Q : Int × Int × Nat → Shared → Prop} (hs : s.heap.IsSliceOf sl .none .none vs) (ps : IsPart vs (some (-1)))
    (h : Q (((n : Int) - 1), -1, n) s) : wpAny (model prog w) A (Builtin.Slice.sliceApplied (.ref sl) (pure (n : Int))) Q E s := by
  obtain ⟨os, hos, hcs, hds⟩ := id hs
  unfold Builtin.Slice.sliceApplied Builtin.Slice.sliceFields
  refine wpAny_bind (wpAny_bind (wpAny_field hos hds (x := .none) rfl (wpAny_bind (wpAny_field hos hds (x := .none) rfl (wpAny_bind (wpAny_field hos hds (x := vs) rfl (wpAny_pure ?_)))))))
  refine wpAny_bind (HT.slicePart_ ps ?_)
  show wpAny _ _ (if ((-1 : Int) == 0) = true then _ else _) _ _ s
  rw [if_neg (by decide)]
  refine wpAny_bind (HT.slicePart_ .none (wpAny_bind (HT.slicePart_ .none (wpAny_bind (wpAny_pure ?_)))))
  show wpAny _ _ (match Builtin.Slice.sliceAdjust none none (-1) (n : Int) with | (lo, hi) => pure (lo, (-1 : Int), Builtin.Slice.slicePlaces lo hi (-1))) _ _ s
  have e : Builtin.Slice.sliceAdjust none none (-1) (n : Int) = ((n : Int) - 1, -1) := by
    unfold Builtin.Slice.sliceAdjust
    simp
  rw [e]
  show wpAny _ _ (pure ((n : Int) - 1, (-1 : Int), Builtin.Slice.slicePlaces ((n : Int) - 1) (-1) (-1))) _ _ s
  have e2 : Builtin.Slice.slicePlaces ((n : Int) - 1) (-1) (-1) = n := by
    unfold Builtin.Slice.slicePlaces
    rw [if_neg (by decide)]
    split
    · rw [show (- -1 : Int) = 1 by decide, Int.ediv_one]
      omega
    · omega
  rw [e2]
  exact wpAny_pure h
theorem fm_congr {α β : Type} {f g : α → Option β} : ∀ {l : List α}, (∀ x ∈ l, f x = g x) → l.filterMap f = l.filterMap g
  | [], _ => rfl
  | a :: l, h => by
    rw [List.filterMap_cons, List.filterMap_cons, h a List.mem_cons_self, fm_congr fun x hx => h x (List.mem_cons_of_mem _ hx)]
theorem pick_back (xs : Array Value) : ((List.range xs.size).filterMap fun (k : Nat) => xs[(((xs.size : Int) - 1) + (k : Int) * (-1)).toNat]?).toArray = xs.toList.reverse.toArray := by
  have e : (List.range xs.size).filterMap (fun (k : Nat) => xs[(((xs.size : Int) - 1) + (k : Int) * (-1)).toNat]?) = ((List.range xs.size).map fun k => xs.size - 1 - k).filterMap (xs[·]?) := by
    rw [List.filterMap_map]
    refine fm_congr fun k hk => ?_
    have := List.mem_range.mp hk
    have e : (((xs.size : Int) - 1) + (k : Int) * (-1)).toNat = xs.size - 1 - k := by omega
    rw [e]
    rfl
  rw [e, PySem.W.krv_range, List.filterMap_reverse, PySem.W.krv_all]
theorem getItem_tuple_back {t sl : Addr} {items : Array Value} {vs : Value} {Q : Value → Shared → Prop} (ht : IsTup s.heap t items) (hs : s.heap.IsSliceOf sl .none .none vs) (ps : IsPart vs (some (-1)))
    (h : Q (.ref s.heap.objs.size) { s with heap := s.heap.push { cls := .type "tuple", data := .seq items.toList.reverse.toArray } })
    (hsz : items.size ≤ sizeLine) : wpAny (model prog w) A (getItem (.ref t) (.ref sl)) Q E s := by
  have htake : sizeOk (.seq items.toList.reverse.toArray) := by
    show items.toList.reverse.toArray.size ≤ sizeLine
    rw [List.size_toArray, List.length_reverse, Array.length_toList]
    exact hsz
  obtain ⟨os, hos, hcs, hds⟩ := id hs
  have hTs : s.TypeIs (.ref sl) "slice" := ⟨os, hos, hcs⟩
  unfold getItem
  try with_reducible refine wpAny_holding ?_
  first | refine wpAny_bind (wpAny_pure ?_) | skip
  refine wpAny_bind (wpAny_sequenceKey ht.typeIs (by decide) ?_)
  refine wpAny_bind (wpAny_callSpecial?_slot (name := Str.ofString "__getitem__") ht.typeIs PyProof.Rows.slot_tuple_getitem
    (wpAny_call_entry PyProof.Rows.slot_tuple_getitem ht.typeIs entry_tuple_getitem ?_ (args_tuple_getitem _ _)))
  show wpAny _ _ (Builtin.Tuple.tupleItemsOf (.ref t) >>= _) _ _ s
  refine wpAny_bind (tupleItemsOf_ ht ?_)
  refine wpAny_bind (wpAny_typeOf hTs ?_)
  rw [if_pos (by decide)]
  refine wpAny_bind (applied_back hs ps ?_)
  have hno : ¬ ((((items.size : Int) - 1) == 0 && (-1 : Int) == 1 && items.size == items.size) = true) := by
    simp
  show wpAny _ _ (if (((items.size : Int) - 1) == 0 && (-1 : Int) == 1 && items.size == items.size) = true then _ else _) _ _ s
  rw [if_neg hno, pick_back]
  first
    | exact wpAny_bind (m := Builtin.Tuple.tupleExact _) (wpAny_newObj_type (wpAny_pure ⟨_, rfl, wpAny_pure h⟩) htake)
    | exact wpAny_bind (m := Builtin.Tuple.tupleExact _) (wpAny_newObj_type (wpAny_bind (wpAny_pure (wpAny_pure ⟨_, rfl, wpAny_pure h⟩))) htake)
    | exact wpAny_bind (wpAny_bind (m := Builtin.Tuple.tupleExact _) (wpAny_newObj_type (wpAny_pure (wpAny_pure ⟨_, rfl, wpAny_pure h⟩)) htake))
    | exact wpAny_bind (wpAny_bind (m := Builtin.Tuple.tupleExact _) (wpAny_newObj_type (wpAny_pure ⟨_, rfl, wpAny_pure h⟩) htake))
end
section
variable {X : Cx}
def tRevI (K : PySem.W.Frag) (te : TE) : TE := fun σ H Q => te σ H fun x H1 => ∃ a xs, x = .ref a ∧ ((SqL K H1 a xs ∧ ∀ p, H1 p = none → Q (.ref p) (upd H1 p (.lst xs.reverse))) ∨ (SqT K H1 a xs ∧ ∀ p, H1 p = none → Q (.ref p) (upd H1 p (.tup xs.reverse))))
theorem pe_revI {e : Expr} {te : TE} {k : Nat} {p1 p2 p3 pos : Pos} (he : PE X e te) : PE X (.Subscript e (.Slice none none (some (.UnaryOp .USub (.Constant (.int 1) k p1) p2)) p3) pos) (tRevI X.K te) := by
  refine ⟨fun pins s σ H Q I h => ?_⟩
  refine Subscript_ (thn (he.run pins s σ H _ I h) fun v s1 ⟨x, H1, I1, r1, q1⟩ => ?_)
  obtain ⟨a, xs, ex, hx⟩ := q1
  subst ex
  cases r1
  have hst : PO X (some (.UnaryOp .USub (.Constant (.int 1) k p1) p2)) (tPart (tUn (rU fun i => .int (-i)) (tC (.int 1)))) := po_some (pe_un un_neg pe_int)
  refine wpAny_Slice ?_
  rw [evalPart_none]
  refine wpAny_pure (wpAny_pure (thn (hst.run pins s1 σ H1 (fun o H4 => o = some (-1) ∧ H4 = H1) I1 ⟨1, rfl, -1, rfl, rfl, rfl⟩) fun vs s4 ⟨o, H4, I4, ps, eo, e4⟩ => ?_))
  subst eo e4
  have I5 : Inv X pins σ H4 { s4 with heap := s4.heap.push { cls := .type "slice", data := .fields #[.none, .none, vs] } } := I4.kept (t' := s4.toks) fun b ob q => Heap.get?_push_of_some _ q
  show wpAny (model X.prog X.w) X.A (subscriptTail e (.Slice none none (some (.UnaryOp .USub (.Constant (.int 1) k p1) p2)) p3) (.ref a) (.ref s4.heap.objs.size)) (EP X pins σ Q) X.xe { s4 with heap := s4.heap.push { cls := .type "slice", data := .fields #[.none, .none, vs] } }
  rcases hx with ⟨hx, q⟩ | ⟨hx, q⟩
  · obtain ⟨its, r, ht, hz⟩ := I5.list hx
    have hlen := r.length
    refine tail_any (ops := [.ref a, .ref s4.heap.objs.size]) ht.isList.typeIs (PySem.slot_list_getitem.lookup) ?_ (by with_unfolding_all rfl)
    refine wpAny_getItem_list_slice ht.isList (Heap.IsSliceOf.new _ .none .none vs) .none .none ps (by decide) ?_ (by rw [List.size_toArray]; omega)
    rw [PySem.W.krv_pick]
    refine ⟨.ref _, _, I5.laid (t' := s4.toks) (o := .lst xs.reverse) (fun b ob q => Heap.get?_push_of_some _ q) (Nat.le_refl _) ?_, rfl, q _ (I5.hok.fresh (Nat.le_refl _))⟩
    exact ⟨by rw [List.length_reverse]; exact hz, _, 0, r.reverse, Heap.get?_push_size _ rfl⟩
  · obtain ⟨its, r, ht, hz⟩ := I5.tuple hx
    have hlen := r.length
    refine tail_any (ops := [.ref a, .ref s4.heap.objs.size]) ht.typeIs (PyProof.Rows.slot_tuple_getitem.lookup) ?_ (by with_unfolding_all rfl)
    refine getItem_tuple_back ht (Heap.IsSliceOf.new _ .none .none vs) ps ?_ (by rw [List.size_toArray]; omega)
    refine ⟨.ref _, _, I5.laid (t' := s4.toks) (o := .tup xs.reverse) (fun b ob q => Heap.get?_push_of_some _ q) (Nat.le_refl _) ?_, rfl, q _ (I5.hok.fresh (Nat.le_refl _))⟩
    exact ⟨by rw [List.length_reverse]; exact hz, _, r.reverse, IsTup.new _ _⟩
theorem Reps.snoc {K : PySem.W.Frag} {F : Hp} : ∀ {vs : List V} {ds : List Dt} {v : V} {d : Dt}, Reps K F vs ds → Rep K F v d → Reps K F (vs ++ [v]) (ds ++ [d])
  | _, _, _, _, .nil, h => .cons h .nil
  | _, _, _, _, .cons g t, h => .cons g (Reps.snoc t h)
theorem Reps.back {K : PySem.W.Frag} {F : Hp} : ∀ {vs : List V} {ds : List Dt}, Reps K F vs ds → Reps K F vs.reverse ds.reverse
  | _, _, .nil => .nil
  | _, _, .cons g t => by
    rw [List.reverse_cons, List.reverse_cons]
    exact (Reps.back t).snoc g
variable {Z : Fm} {W : WX} {a b o : Expr} {ma mb mo : DT} {p1 p2 p3 pos : Pos} {k : Nat}
def oBackI : O1 := fun x k => match x with
  | .lst l => k (.lst l.reverse)
  | .tup l => k (.tup l.reverse)
  | _ => False
theorem d_backI (ha : DE X Z W a ma) : DE X Z W (.Subscript a (.Slice none none (some (.UnaryOp .USub (.Constant (.int 1) k p1) p2)) p3) pos) (dUn oBackI ma) :=
  PE.imp (pe_revI ha) fun σ H Q ⟨F, ρ, R, U, I, hm, q, u⟩ => ⟨F, ρ, _, U, I, hm, fun x ρ1 v F1 H1 I1 s1 r1 h1 => by
    cases r1 with
    | lst hh r => exact ⟨_, _, rfl, .inl ⟨SqL.of (I1.fh _ _ hh), rt_lst I1 r.back fun v' F' H' I' s' r' => q _ ρ1 v' F' H' I' (s1.trans s') r' h1⟩⟩
    | tup hh r => exact ⟨_, _, rfl, .inr ⟨sameT I1.fh hh, rt_tup I1 r.back fun v' F' H' I' s' r' => q _ ρ1 v' F' H' I' (s1.trans s') r' h1⟩⟩
    | _ => exact h1.elim, u⟩
end
end DL

namespace DL
open PyProof.Rows hiding St
open PySem PySem.Spec L2
/-! ### what the names reach, by rounds over the new addresses alone; the seen ones are the bits of a number -/
def newB : List Addr → Nat → List Addr → (Nat → List Addr → List Addr) → List Addr
  | [], m, out, k => k m out
  | a :: r, m, out, k => match Nat.beq (Nat.land 1 (Nat.shiftRight m a)) 0 with
    | true => HandSHeadRun.frNat (Nat.lor m (Nat.shiftLeft 1 a)) fun m' => newB r m' (a :: out) k
    | false => newB r m out k
def goB (g : Addr → Option Obj) : Nat → List Addr → Nat → List Addr → List Addr
  | 0, _, _, acc => acc
  | n + 1, f, m, acc => newB (f.flatMap fun a => match g a with
    | some o => He.refsD o
    | none => []) m [] fun m' f' => goB g n f' m' (f' ++ acc)
def asB (g : Addr → Option Obj) (n : Nat) : List Addr := goB g n [mainGlobals] (Nat.shiftLeft 1 mainGlobals) [mainGlobals]
def hookU (n : Nat) (fn : List DefA) (ex : PySem.W.Frag → Bool) (ts : List TabN) (ls : List DefA) : PySem.W.Hook where
  α := SeenT
  obs := fun s => obsT fn ex ts ls s.heap.get? (He.frG s.heap.get? (asB s.heap.get? n))
  val := fun w => valT fn ts w
  says := fun w h => ∃ K : PySem.W.Frag, K.In h ∧ SaysT fn ex ts ls w K h
  of := fun _ _ e => saysT_of He.frG_in e
  keeps := fun _ _ _ ⟨K, hK, c⟩ k => ⟨K, PySem.W.Frag.In.keeps hK k, c.b, fun d hd => (c.hd d hd).keeps k, fun d hd => k _ _ (c.at_ d hd), c.out, c.nd⟩
def lookU (n : Nat) (fn : List DefA) (ex : PySem.W.Frag → Bool) (ts : List TabN) (ls : List DefA) (s : PySem.W.SharedT) : SeenT := obsT fn ex ts ls (HandSHeadRun.getT s) (He.frG (HandSHeadRun.getT s) (asB (HandSHeadRun.getT s) n))
theorem lookU_eq {n : Nat} {fn : List DefA} {ex : PySem.W.Frag → Bool} {ts : List TabN} {ls : List DefA} (s : PySem.W.SharedT) : lookU n fn ex ts ls s = (hookU n fn ex ts ls).obs s.abs := by
  have e : HandSHeadRun.getT s = s.abs.heap.get? := funext (HandSHeadRun.getT_eq s)
  unfold lookU
  rw [e]
  rfl
end DL

namespace DL
open PyProof.Rows hiding St
open PySem PySem.Spec L2
/-! ### dict comprehensions -/
section
variable {X : Cx} {Z : Fm} {W : WX} {kx vx tg iter : Expr} {ifs : List Expr} {scope : Scope} {own : List (Str × Nat)} {pos : Pos} {mi : DI'} {ts : List Nat} {g : DG} {tt : DB} {mk me : DT}
end
end DL

namespace DL
open PyProof.Rows hiding St
open PySem PySem.Spec L2
/-! ### a[lo::step] of a list -/
theorem Vals.pick {xs : List V} {us : List Value} (r : Vals xs us) : ∀ ks : List Nat, Vals (ks.filterMap (xs[·]?)) (ks.filterMap (us[·]?))
  | [] => .nil
  | k :: ks => by
    rw [List.filterMap_cons, List.filterMap_cons]
    cases e : xs[k]? with
    | none =>
      have : us[k]? = none := by
        rw [List.getElem?_eq_none_iff] at e ⊢
        rw [← r.length]; exact e
      rw [this]
      exact Vals.pick r ks
    | some x =>
      obtain ⟨u, hu, ru⟩ := r.get e
      rw [hu]
      exact .cons ru (Vals.pick r ks)
theorem Reps.pick {K : PySem.W.Frag} {F : Hp} {vs : List V} {ds : List Dt} (r : Reps K F vs ds) : ∀ ks : List Nat, Reps K F (ks.filterMap (vs[·]?)) (ks.filterMap (ds[·]?))
  | [] => .nil
  | k :: ks => by
    rw [List.filterMap_cons, List.filterMap_cons]
    have g : ∀ {vs : List V} {ds : List Dt}, Reps K F vs ds → ∀ k : Nat, (vs[k]? = none ∧ ds[k]? = none) ∨ ∃ v d, vs[k]? = some v ∧ ds[k]? = some d ∧ Rep K F v d := fun {vs ds} r => by
      induction ds generalizing vs with
      | nil => cases r; exact fun k => .inl ⟨rfl, rfl⟩
      | cons d ds ih =>
        cases r with
        | cons h t => exact fun k => match k with
          | 0 => .inr ⟨_, _, rfl, rfl, h⟩
          | k + 1 => by simpa using ih t k
    rcases g r k with ⟨e1, e2⟩ | ⟨v, d, e1, e2, h⟩
    · rw [e1, e2]
      exact Reps.pick r ks
    · rw [e1, e2]
      exact .cons h (Reps.pick r ks)
section
variable {X : Cx}
variable {Z : Fm} {W : WX} {a : Expr} {ma : DT} {p2 pos : Pos}
/-! ### min, max of a list of three numbers -/
end
end DL

namespace DL
open PyProof.Rows hiding St
open PySem PySem.Spec L2
/-! ### sorted: ints, a tuple of texts -/
end DL

namespace DL
open PyProof.Rows hiding St
open PySem PySem.Spec L2
/-! ### an own object looked at as data, for an answer that holds no address -/
def Flat : Dt → Prop
  | .non => True
  | .bl _ => True
  | .int _ => True
  | .str _ => True
  | _ => False
theorem Rep.flat {K : PySem.W.Frag} {F G : Hp} {v : V} {d : Dt} (r : Rep K F v d) (h : Flat d) : Rep K G v d := by
  cases r with
  | non => exact .non
  | bl b => exact .bl b
  | int i => exact .int i
  | str l hl => exact .str l hl
  | _ => exact h.elim
section
variable {K : PySem.W.Frag} {Z : Fm} {F F1 H H1 : Hp} {σ : St} {ρ : En} {p : Addr} {ho : HO}
/-- the state of a look: the object at p frozen, nothing else is told -/
theorem DI.look (I : DI K Z F H σ ρ) (hh : H p = some ho) : DI K ⟨upd F p ho, H, [], fun _ => none, []⟩ (upd F p ho) H σ (List.replicate σ.length .no) where
  f0 := Same.refl _
  fh := fun b x e => by
    by_cases q : b = p
    · subst q
      rw [upd_same] at e
      rw [hh]
      exact e
    · rw [upd_ne q] at e
      exact I.fh b x e
  fnew := fun a o e => .inl ⟨o, e⟩
  keep := fun a o e => .inr e
  bor := fun b hb => nomatch hb
  len := by rw [List.length_replicate]
  sl := fun i s e => by
    have hi : i < σ.length := by
      have := (List.getElem?_eq_some_iff.mp e).1
      rwa [List.length_replicate] at this
    rw [List.getElem?_replicate, if_pos hi] at e
    obtain rfl := Option.some.inj e
    exact ⟨σ[i], List.getElem?_eq_getElem hi, trivial⟩
  ownB := fun i b q o e => by
    rw [List.getElem?_replicate] at e
    split at e <;> cases e
  dis := fun i j b c q o q' o' e => by
    rw [List.getElem?_replicate] at e
    split at e <;> cases e
  pin := fun a u e => nomatch e
  ownP := fun i b q o e => rfl
  tab := fun t ht => nomatch ht
  tabB := fun t ht => nomatch ht
  tabF := fun t ht => nomatch ht
def cutH (F : Hp) (p : Addr) : Hp := fun a => if a = p then none else F a
/-- and back -/
theorem DI.looked (I : DI K Z F H σ ρ) (fp : F p = none) (hh : H p = some ho) (J : DI K ⟨upd F p ho, H, [], fun _ => none, []⟩ F1 H1 σ (List.replicate σ.length .no)) : DI K Z (cutH F1 p) H1 σ ρ ∧ Same F (cutH F1 p) := by
  have ne : ∀ {a : Addr} {o : HO}, cutH F1 p a = some o → a ≠ p ∧ F1 a = some o := fun {a o} e => by
    unfold cutH at e
    split at e
    · cases e
    · rename_i q
      exact ⟨q, e⟩
  have sF : Same F (cutH F1 p) := fun a o e => by
    have q : a ≠ p := fun z => by rw [z, fp] at e; cases e
    unfold cutH
    rw [if_neg q]
    exact J.f0 a o (by show upd F p ho a = some o; rw [upd_ne q]; exact e)
  have kp : ∀ a o, H a = some o → H1 a = some o := fun a o e => (J.keep a o e).resolve_left (fun z => nomatch z)
  refine ⟨?_, sF⟩
  exact {
    f0 := I.f0.trans sF
    fh := fun a o e => J.fh a o (ne e).2
    fnew := fun a o e => by
      obtain ⟨q, e1⟩ := ne e
      rcases J.fnew a o e1 with ⟨o', z⟩ | z
      · have z' : upd F p ho a = some o' := z
        rw [upd_ne q] at z'
        exact I.fnew a o' z'
      · exact .inr (I.free0 z)
    keep := fun a o e => (I.keep a o e).imp id (kp a o)
    bor := fun b hb => by
      obtain ⟨o, e⟩ := I.bor b hb
      exact ⟨o, kp b o e⟩
    len := I.len
    sl := fun i s e => by
      obtain ⟨ov, e1, r⟩ := I.sl i s e
      refine ⟨ov, e1, r.up sF fun q hq ⟨b, oo, eo⟩ fq hh' => ⟨?_, kp _ _ hh'⟩⟩
      cases w : cutH F1 p q with
      | none => rfl
      | some u =>
        obtain ⟨qp, w1⟩ := ne w
        rcases J.fnew q u w1 with ⟨o', z⟩ | z
        · have z' : upd F p ho q = some o' := z
          rw [upd_ne qp, fq] at z'
          cases z'
        · have z' : H q = none := z
          rw [z'] at hh'
          cases hh'
    ownB := I.ownB
    dis := I.dis
    pin := fun a u e => by
      obtain ⟨h1, h2, h3, h4⟩ := I.pin a u e
      refine ⟨kp a u h1, ?_, h3, h4⟩
      cases w : cutH F1 p a with
      | none => rfl
      | some u' =>
        obtain ⟨qp, w1⟩ := ne w
        rcases J.fnew a u' w1 with ⟨o', z⟩ | z
        · have z' : upd F p ho a = some o' := z
          rw [upd_ne qp, h2] at z'
          cases z'
        · have z' : H a = none := z
          rw [z'] at h1
          cases h1
    ownP := I.ownP
    tab := I.tab.ext kp
    tabB := I.tabB
    tabF := fun t ht => by
      have h2 := I.tabF t ht
      cases w : cutH F1 p t.1 with
      | none => rfl
      | some u' =>
        obtain ⟨qp, w1⟩ := ne w
        rcases J.fnew t.1 u' w1 with ⟨o', z⟩ | z
        · have z' : upd F p ho t.1 = some o' := z
          rw [upd_ne qp, h2] at z'
          cases z'
        · obtain ⟨ps, h1, _⟩ := I.tab t ht
          have z' : H t.1 = none := z
          rw [z'] at h1
          cases h1 }
end
section
variable {X : Cx} {Z : Fm} {W : WX} {e a b c o : Expr} {ma mb mc mo : DT} {pos : Pos}
variable {x : Str} {p1 p2 : Pos}
end
end DL

namespace DL
open PyProof.Rows hiding St
open PySem PySem.Spec L2
/-! ### text.split(sep) -/
section
variable {X : Cx} {Z : Fm} {W : WX} {e a b c o : Expr} {ma mb mc mo : DT} {pos : Pos}
/-! ### try: body, where nothing is raised -/
/-! ### a key in a dict of the module -/
variable {x : Str} {p1 : Pos}
end
end DL

namespace DL
open PyProof.Rows hiding St
open PySem PySem.Spec L2
/-! ### sorted(v): v is gathered into ints first -/
/-! ### sorted(d.values()), ints -/
/-! ### list(range(n)) -/
/-! ### three new objects at once -/
end DL

namespace DL
open PyProof.Rows hiding St
open PySem PySem.Spec L2
/-! ### zip of a list and a tuple -/
end DL

namespace DL
open PyProof.Rows hiding St
open PySem PySem.Spec L2
/-! ### str(x), x of a class with an own __str__ -/
section
variable {X : Cx} {T : List (Addr × Str)} {k : Nat} {f C : Addr} {fd : FuncData} {ps : List Str} {sp : SpD}
end
/-! ### {"a": 1, ..} of written texts and numbers -/
def dDictC (ks : List (List Nat × Int)) : DO := fun ρ R _ => R (.dK (ks.map fun p => ((.inr (mkS p.1) : Key), Dt.int p.2))) ρ
def kvC (p : List Nat × Int) : Key × V := (.inr (mkS p.1), .int p.2)
theorem mergeK_nd : ∀ (ks : List (List Nat × Int)) (acc : List (Key × V)), (ks.map (·.1)).Nodup → (∀ p ∈ ks, ∀ kv ∈ acc, kv.1 ≠ .inr (mkS p.1)) → mergeK acc (ks.map kvC) = acc ++ ks.map kvC
  | [], acc, _, _ => (List.append_nil acc).symm
  | p :: ks, acc, nd, h => by
    rw [List.map_cons, List.nodup_cons] at nd
    show mergeK (putK acc (.inr (mkS p.1)) (.int p.2)) (ks.map kvC) = _
    have e : putK acc (.inr (mkS p.1)) (V.int p.2) = acc ++ [kvC p] := by
      unfold putK
      rw [if_neg]
      · rfl
      · rw [List.any_eq_true]
        rintro ⟨kv, m, q⟩
        exact h p List.mem_cons_self kv m (of_decide_eq_true q)
    rw [e, mergeK_nd ks _ nd.2 fun q hq kv hkv => ?_, List.append_assoc]
    · rfl
    · rcases List.mem_append.mp hkv with hkv | hkv
      · exact h q (List.mem_cons_of_mem _ hq) kv hkv
      · rw [List.mem_singleton.mp hkv]
        intro z
        have z : (Sum.inr (mkS p.1) : Key) = .inr (mkS q.1) := z
        have z2 : mkS p.1 = mkS q.1 := by injection z
        have : p.1 = q.1 := by
          have := congrArg (fun x : Str => x.cps.toList) z2
          exact this
        exact nd.1 (by rw [this]; exact List.mem_map_of_mem hq)
theorem repk_C {K : PySem.W.Frag} {F : Hp} : ∀ (ks : List (List Nat × Int)), RepK K F (ks.map kvC) (ks.map fun p => ((.inr (mkS p.1) : Key), Dt.int p.2))
  | [] => .nil
  | p :: ks => .cons (.int p.2) (repk_C ks)
theorem pairs_C : ∀ (ks : List (List Nat × Int)) {σ : St} {H : Hp} {Q : List (V × V) → Hp → Prop}, Q (ks.map fun p => (.str (mkS p.1), .int p.2)) H → tPairs (ks.map fun p => (tC (.str (mkS p.1)), tC (.int p.2))) σ H Q
  | [], _, _, _, h => h
  | p :: ks, σ, H, Q, h => pairs_C ks (Q := fun ps H' => Q ((.str (mkS p.1), .int p.2) :: ps) H') h
theorem d_dictC {X : Cx} {Z : Fm} {W : WX} {pos : Pos} {keys : List (Option Expr)} {values : List Expr} (ks : List (List Nat × Int)) (h : PPs X pos keys values (ks.map fun p => (tC (.str (mkS p.1)), tC (.int p.2)))) (hall : keys.all (·.isSome) = true := by rfl) (hl : keys.length = values.length := by rfl) (h0 : keys ≠ [] := by exact List.cons_ne_nil _ _)
    (h15 : keys.length ≤ 15 := by decide) (hk : ks.length ≤ 15 := by decide) (nd : (ks.map (·.1)).Nodup := by decide) : DOk X Z W (.Dict keys values pos) (dDictC ks) :=
  PE.imp (pe_disp h hall hl h0 h15) fun σ H Q ⟨F, ρ, R, U, I, hm, q, u⟩ => fun p np => pairs_C ks ⟨upd_same, ks.map kvC, by rw [List.map_map]; rfl, by rw [List.length_map]; exact hk, by
    rw [mergeK_nd ks [] nd (fun _ _ kv hkv => nomatch hkv), List.nil_append]
    have e : upd (upd H p (.dK [])) p (.dK (ks.map kvC)) = upd H p (.dK (ks.map kvC)) := by
      funext a
      by_cases z : a = p
      · subst z; rw [upd_same, upd_same]
      · rw [upd_ne z, upd_ne z, upd_ne z]
    rw [e]
    exact q _ ρ p F _ (I.freshO (ho := .dK (ks.map kvC)) np) (Same.refl F) (I.newAt np (.dK (repk_C ks))) hm⟩
/-! ### s.upper() -/
def dMt0 (f : O1) (o : DT) : DT := fun ρ R U => o ρ (fun x ρ1 => match x with
  | .str l => f (.str l) (fun z => R z ρ1)
  | _ => False) U
def oUpper : O1 := fun x k => match x with
  | .str l => (l.all (· < 128) = true ∧ l.length ≤ 100000) ∧ k (.str (l.map up1))
  | _ => False
theorem d_upper {X : Cx} {Z : Fm} {W : WX} {o : Expr} {mo : DT} {apos pos : Pos} (ho : DE X Z W o mo) (hbase : attributeBase o "upper" X.env (eval o X.env) = eval o X.env := by rfl) (hline : (apos.endLine == pos.line) = true := by rfl) :
    DE X Z W (.Call (.Attribute o "upper" apos) [] [] pos) (dMt0 oUpper mo) :=
  PE.imp (pe_upper ho hbase hline) fun σ H Q ⟨F, ρ, R, U, I, hm, q, u⟩ => ⟨F, ρ, _, U, I, hm, fun x ρ1 v F1 H1 I1 s1 r1 h1 => by
    cases r1 with
    | str l hl =>
      obtain ⟨⟨ha, hz⟩, h2⟩ := h1
      refine ⟨⟨_, rfl⟩, _, rfl, rfl, by rw [str_len]; omega, ?_⟩
      rw [show Txt.upper (⟨l.toArray⟩ : Str) = ⟨(l.map up1).toArray⟩ from SX.upper_S ha]
      exact q _ ρ1 _ F1 H1 I1 s1 (.str _ (by rw [List.length_map]; exact hl)) h2
    | _ => exact h1.elim, u⟩
end DL

namespace DL
open PyProof.Rows hiding St
open PySem PySem.Spec L2
/-! ### a, b = data, a new object, by way of a tuple (where a name is seen from an inner scope) -/
section
variable {X : Cx} {Z : Fm} {W : WX}
end
end DL

namespace PySem.SeqAt
open AutoSeq1 (wpAny_loadPart')
open MeetsSeq MeetsSeq2 MeetsSeq3 SeqRoads2
/-! ### a dict is no text -/
section
variable {A : Around} {s : Shared}
end
end PySem.SeqAt
namespace DL
open PyProof.Rows hiding St
open PySem PySem.Spec L2
/-! ### a text among the items of a tuple of any data -/
section
variable {X : Cx}
end
end DL

namespace PySem.SeqAt
open AutoSeq1 (wpAny_loadPart')
open MeetsSeq MeetsSeq2 MeetsSeq3 SeqRoads2
/-! ### a built-in value declines an own object -/
section
variable {prog : Program} {w : World} {A : Around} {E : Value → Shared → Prop} {s : Shared} {x C dx l : Addr} {Q : Fin → Shared → Prop}
end
end PySem.SeqAt
namespace DL
open PyProof.Rows hiding St
open PySem PySem.Spec L2
/-! ### own __eq__ -/
section
variable {prog : Program} {w : World} {A : Around} {E : Value → Shared → Prop} {s : Shared} {K : PySem.W.Frag} {x C f : Addr} {ox : Obj} {od : Option Obj}
end
/-- C's own __eq__ is at f, its != is object's; Cs: the own classes that its objects are compared with -/
structure OwnEq (K : PySem.W.Frag) (C f : Addr) (Cs : List Addr) : Prop where
  eq : Own K C f "__eq__"
  ne : PySem.W.findIn K (.ref C) "__ne__" = some (some (.builtin "object.__ne__"))
  ob : PySem.W.mroIn K C (.type "object") = some true
  no : ∀ t : Bt, PySem.W.mroIn K C (.type t.nm) = some false
  ty : ∀ C' ∈ Cs, PySem.W.notFirst K C (.ref C') = true ∧ OwnTy K C'
section
variable {X : Cx} {T : List (Addr × Str)} {k : Nat} {f C : Addr} {fd : FuncData} {ps : List Str} {sp : SpD} {Cs : List Addr}
end

/-! ### == and != of data with own __eq__ -/
/-- what of each own class is at hand -/
def EqFn (X : Cx) (T : List (Addr × Str)) (Cs : List Addr) (p : Addr × SpD) : Prop := Mono p.2 ∧ ∃ k f fd ps, Room (k + 1) X.A ∧ OwnEq X.K p.1 f Cs ∧ Fd T X.prog X.w X.K X.mg X.base k f ps fd p.2 ∧ BindK X.K fd ps mkP
inductive EqFns (X : Cx) (T : List (Addr × Str)) (Cs : List Addr) : List (Addr × SpD) → Prop
  | nil : EqFns X T Cs []
  | cons {p : Addr × SpD} {L : List (Addr × SpD)} (h : EqFn X T Cs p) (t : EqFns X T Cs L) : EqFns X T Cs (p :: L)
theorem EqFns.all {X : Cx} {T : List (Addr × Str)} {Cs : List Addr} {L : List (Addr × SpD)} (h : EqFns X T Cs L) : ∀ p ∈ L, EqFn X T Cs p := by
  induction h with
  | nil => exact fun _ h => nomatch h
  | cons h t ih => exact fun p hp => (List.mem_cons.mp hp).elim (fun e => e ▸ h) (ih p)
section
variable {X : Cx} {T : List (Addr × Str)} {Cs : List Addr} {L : List (Addr × SpD)}
end
end DL

namespace DL
open PyProof.Rows hiding St
open PySem PySem.Spec L2
/-! ### bool(x), x of a class with an own __bool__ -/
section
variable {X : Cx} {T : List (Addr × Str)} {k : Nat} {f C : Addr} {fd : FuncData} {ps : List Str} {sp : SpD}
end
/-! ### what the maths of a def may lean on -/
end DL

namespace DL
open PyProof.Rows hiding St
open PySem PySem.Spec L2
/-! ### C.m(..), m a classmethod of the class at C, that does not look at its first parameter -/
section
variable {X : Cx} {Z : Fm} {W : WX} {pos : Pos} {e : Expr} {es : List Expr} {kws : List Keyword} {ma mb : DA} {ks : List Str}
end
section
variable {X : Cx} {Z : Fm} {W : WX} {s : SpD} {ma : DA} {k : Nat} {C p g : Addr} {mc : Value} {fd : FuncData} {ps : List Str} {es : List Expr} {kws : List Keyword} {pos px apos : Pos} {x m : Str} {un : List Value → Args}
end
/-! ### the head's hooks, with the table of the statics (readsIn looks there) -/
end DL

namespace DL
open PyProof.Rows hiding St
open PySem PySem.Spec L2
/-! ### the slot of an exception -/
section
variable {K : PySem.W.Frag} {Z : Fm} {F H : Hp} {σ : St} {ρ : En}
theorem DI.setExc (I : DI K Z F H σ ρ) (i : Nat) {q : Addr × Obj} {C : Addr} {d : Option Addr} {fs : List (Str × Dt)} (z : ExAt q C d) (x : XdAt K F d fs) : DI K Z F H (σ.set i (some (.ref q.1))) (ρ.set i (.exc q C d fs)) :=
  have J := I.setNo i (ov := some (.ref q.1))
  { f0 := J.f0, fh := J.fh, fnew := J.fnew, keep := J.keep, bor := J.bor
    len := by rw [List.length_set, List.length_set]; exact I.len
    sl := fun j s e => by
      rcases get_set e with ⟨rfl, hl, rfl⟩ | ⟨ne, e⟩
      · exact ⟨some (.ref q.1), by rw [List.getElem?_set, if_pos rfl, if_pos (by rw [I.len]; exact hl)], rfl, z, x⟩
      · exact J.sl j s (by rw [List.getElem?_set, if_neg ne]; exact e)
    ownB := fun j c p o y => by
      rcases get_set y with ⟨_, _, y⟩ | ⟨_, y⟩
      · cases y
      · exact I.ownB j c p o y
    dis := fun j k b c p o p' o' y y' n => by
      rcases get_set y with ⟨_, _, y⟩ | ⟨_, y⟩
      · cases y
      · rcases get_set y' with ⟨_, _, y'⟩ | ⟨_, y'⟩
        · cases y'
        · exact I.dis j k _ _ _ _ _ _ y y' n
    pin := J.pin
    ownP := fun j c p o y => by
      rcases get_set y with ⟨_, _, y⟩ | ⟨_, y⟩
      · cases y
      · exact I.ownP j c p o y
    tab := J.tab, tabB := J.tabB, tabF := J.tabF }
theorem DI.slotX (I : DI K Z F H σ ρ) {i : Nat} {q : Addr × Obj} {C : Addr} {d : Option Addr} {fs : List (Str × Dt)} (e : ρ[i]? = some (.exc q C d fs)) : σ[i]? = some (some (.ref q.1)) ∧ ExAt q C d ∧ XdAt K F d fs := by
  obtain ⟨ov, e1, e2, z, x⟩ := I.sl i _ e
  exact ⟨e2 ▸ e1, z, x⟩
/-- the slots without what is one's own -/
def sealE (ρ : En) : En := ρ.map fun s => match s with
  | .own _ _ _ => .no
  | s => s
theorem sealE_get {i : Nat} {s : Sl} (h : (sealE ρ)[i]? = some s) : ρ[i]? = some s ∨ s = .no := by
  unfold sealE at h
  rw [List.getElem?_map] at h
  cases e : ρ[i]? with
  | none => rw [e] at h; cases h
  | some t =>
    rw [e] at h
    have h := Option.some.inj h
    cases t with
    | own b p o => exact .inr h.symm
    | no => exact .inr h.symm
    | dat d => exact .inl (h ▸ rfl)
    | exc q C d fs => exact .inl (h ▸ rfl)
theorem sealE_own {i : Nat} {b : Bool} {p : Addr} {o : MO} (h : (sealE ρ)[i]? = some (.own b p o)) : False := by
  unfold sealE at h
  rw [List.getElem?_map] at h
  cases e : ρ[i]? with
  | none => rw [e] at h; cases h
  | some t =>
    rw [e] at h
    have h := Option.some.inj h
    cases t <;> cases h
/-- the state taken up anew, where nothing of one's own is seen -/
abbrev Fm.anew (Z : Fm) (F H : Hp) : Fm := ⟨F, H, Z.T.map (·.1), fun _ => none, Z.T⟩
theorem DI.anew (I : DI K Z F H σ ρ) : DI K (Z.anew F H) F H σ (sealE ρ) :=
  { f0 := Same.refl F, fh := I.fh, fnew := fun a o e => .inl ⟨o, e⟩, keep := fun a o e => .inr e
    bor := fun b hb => by
      obtain ⟨t, ht, rfl⟩ := List.mem_map.mp hb
      obtain ⟨ps, h1, _⟩ := I.tab t ht
      exact ⟨_, h1⟩
    len := by
      unfold sealE
      rw [List.length_map]
      exact I.len
    sl := fun i s e => by
      rcases sealE_get e with e' | rfl
      · exact I.sl i s e'
      · have hi : i < σ.length := by
          rw [I.len]
          have := (List.getElem?_eq_some_iff.mp e).1
          unfold sealE at this
          rwa [List.length_map] at this
        exact ⟨_, List.getElem?_eq_getElem hi, trivial⟩
    ownB := fun i b p o e => (sealE_own e).elim
    dis := fun i j b c p o p' o' e _ _ => (sealE_own e).elim
    pin := fun a u e => nomatch e
    ownP := fun i b p o e => (sealE_own e).elim
    tab := I.tab, tabB := fun t ht => List.mem_map.mpr ⟨t, ht, rfl⟩, tabF := I.tabF }
theorem DI.aft {F' H' : Hp} {ρ' : En} {σ' : St} (J : DI K (Z.anew F H) F' H' σ' ρ') : Aft Z.T K F H [] F' H' :=
  ⟨J.f0, J.fh, J.fnew, fun a o e => (J.keep a o e).elim (fun z => .inr (.inl (let ⟨t, ht, e⟩ := List.mem_map.mp z; ⟨t, ht, e⟩))) fun z => .inr (.inr z), J.tab, J.tabF⟩
/-- behind what touched nothing of one's own -/
theorem DI.past {F' H' : Hp} (I : DI K Z F H σ ρ) (A : Aft Z.T K F H [] F' H') : DI K Z F' H' σ ρ := by
  have J := I.after (as := []) (args := []) (outs := []) rfl A .nil
  exact J
end
/-! ### isinstance of an exception -/

def xcB (K : PySem.W.Frag) (C : Addr) : Bool := xfB K C && (He.eqO (PySem.W.findIn K (.ref C) "__class__") (some (some (.builtin "object.__class__"))) && (He.eqO (PySem.W.specialIn K (.builtin "object.__class__") "__get__") (some (some (.builtin "getset_descriptor.__get__"))) &&
  (oEqB (PySem.W.takesIn K (.builtin "object.__class__")) (some true) && oEqB (PySem.W.mroIn K C (.type "object")) (some true))))
theorem xcB_ok {K : PySem.W.Frag} {C : Addr} (h : xcB K C = true) : L2.ExcC K C := by
  unfold xcB at h
  simp only [Bool.and_eq_true] at h
  obtain ⟨h0, h1, h2, h3, h4⟩ := h
  have X := xfB_ok h0
  exact ⟨X.ga, X.gg, X.exC, X.hdC, He.eqO_ok h1, He.eqO_ok h2, oEqB_ok h3, oEqB_ok h4⟩
theorem inst_at {X : Cx} {F H : Hp} {pins : List (Addr × Obj)} {σ : St} {s : Shared} {q : Addr × Obj} {C : Addr} {d : Option Addr} {fs : List (Str × Dt)} (I : Inv X pins σ H s) (hq : q ∈ X.pn) (z : ExAt q C d) (sf : Same F H) (x : XdAt X.K F d fs) :
    ∃ od, PySem.W.InstAt s.heap q.1 q.2 C od ∧ match d, od with
      | some a, some o => s.heap.get? a = some o ∧ ∃ us, H a = some (.xd us) ∧ RepF X.K F us fs
      | none, none => fs = []
      | _, _ => False := by
  obtain ⟨h1, _⟩ := I.pin q (List.mem_append_left _ hq)
  obtain ⟨⟨z1, z2⟩, vs, hv⟩ := z
  have hno : PySem.W.notCls q.2 = true := by
    unfold PySem.W.notCls
    rw [hv]
  cases d with
  | none => exact ⟨none, ⟨h1, z1, hno, by rw [z2]; trivial⟩, x⟩
  | some a =>
    obtain ⟨us, ha, r⟩ := x
    obtain ⟨mA, ⟨o, es, ep, ho, hr⟩, hl⟩ := (show ObjOk X.prog X.w H s.heap a (.xd us) from I.hok a _ (sf _ _ ha))
    exact ⟨some o, ⟨h1, z1, hno, by rw [z2]; exact ho⟩, ho, us, sf _ _ ha, r⟩
/-- isinstance(x, c), x the exception in hand; g says what of its class -/
def dIsE (q0 : Addr × Obj) (i : Nat) (g : List (Addr × Bool)) : DT := fun ρ R _ => match ρ[i]? with
  | some (.exc q C _ _) => q = q0 ∧ ∃ b, (C, b) ∈ g ∧ R (.bl b) ρ
  | _ => False
section
variable {X : Cx} {Z : Fm} {W : WX} {q0 : Addr × Obj} {i : Nat} {x : Str} {p p1 pos : Pos}
theorem d_isE (i : Nat) {g : List (Addr × Bool)} {c : V} {u : Value} {n : Expr} (hq : q0 ∈ X.pn) (hA : ∀ z ∈ g, L2.ExcC X.K z.1 ∧ PySem.W.kitOne X.K (.ref z.1) u = some z.2) (hc : PE X n (tC c)) (hk : ClsV c u) (hN : X.N[i]? = some x := by rfl) (hv : Vis X.env.scope x := by first | exact Or.inl rfl | exact Or.inr (Or.inl rfl) | exact Or.inr (Or.inr rfl))
    (hd : (x == ("__debug__" : Str)) = false := by decide) (hcd : (x == ("__classdict__" : Str)) = false := by decide) (hg : Gl X "isinstance" := by rfl) (hm : X.mg "isinstance" = none := by rfl)
    (h1 : starEach [.Name x p, n] X.env = (false, eval (.Name x p) X.env) :: starEach [n] X.env := by rfl) (h2 : starEach [n] X.env = (false, eval n X.env) :: starEach [] X.env := by rfl) (hpl : (backTo pos (starEach [n] X.env)).any (·.1) = false := by rfl) :
    DE X Z W (.Call (.Name "isinstance" p1) [.Name x p, n] [] pos) (dIsE q0 i g) := by
  refine PE.imp (pe_callB (id := "isinstance") (r := fun xs H Q => ∃ (F : Hp) (C : Addr) (d : Option Addr) (fs : List (Str × Dt)) (b : Bool), xs = [.ref q0.1, c] ∧ ExAt q0 C d ∧ XdAt X.K F d fs ∧ Same F H ∧ (C, b) ∈ g ∧ Q (.bl b) H) ?_ hg hm rfl (pa_cons (pe_var hN hv hd hcd) (pa_cons hc pa_nil h2) h1) (he := h1) (hpl := hpl)) ?_
  · intro pins s σ H xs us Q I r ⟨F, C, d, fs, b, e, z, xa, sf, eg, k⟩
    subst e
    obtain ⟨u1, u2, rfl, r1, r2⟩ := vals2 r
    obtain rfl : u1 = Value.ref q0.1 := r1
    obtain rfl := hk.eq r2
    obtain ⟨T, e⟩ := hA _ eg
    obtain ⟨od, J, _⟩ := inst_at I hq z sf xa
    obtain ⟨cd, hcd, _⟩ := PySem.W.any_some T.hd
    exact PySem.W.kia_one (PySem.W.kitx_exc (by rw [hcd]; rfl) T.hg T.hk T.hs T.ha T.hn T.ht T.hm) I.kIn J e (fun z => nomatch z) fun tk => ⟨.bl b, H, I.kept (t' := tk) fun _ _ z => z, rfl, k⟩
  · intro σ H Q ⟨F, ρ, R, U, I, hm, k, _⟩
    unfold dIsE at hm
    split at hm
    · rename_i q C d fs e
      obtain ⟨rfl, hm⟩ := hm
      obtain ⟨b, eg, h⟩ := hm
      obtain ⟨e1, z, xa⟩ := I.slotX e
      exact ⟨_, e1, F, C, d, fs, b, rfl, z, xa, I.fh, eg, k (.bl b) ρ _ F H I (Same.refl F) (.bl b) h⟩
    · exact hm.elim
/-! ### an attribute of an exception -/
def dXf (q0 : Addr × Obj) (i : Nat) (Cs : List Addr) (f : Str) : DT := fun ρ R _ => match ρ[i]? with
  | some (.exc q C _ fs) => (q = q0 ∧ C ∈ Cs) ∧ opt (fs.lookup f) fun d => R d ρ
  | _ => False
theorem d_xf (i : Nat) {Cs : List Addr} {f : Str} (hq : q0 ∈ X.pn) (hA : ∀ C ∈ Cs, XfC X.K C ∧ PySem.W.findIn X.K (.ref C) f = some none) (hN : X.N[i]? = some x := by rfl) (hv : Vis X.env.scope x := by first | exact Or.inl rfl | exact Or.inr (Or.inl rfl) | exact Or.inr (Or.inr rfl))
    (hd : (x == ("__debug__" : Str)) = false := by decide) (hcd : (x == ("__classdict__" : Str)) = false := by decide) (hb : attributeBase (.Name x p) f X.env (eval (.Name x p) X.env) = eval (.Name x p) X.env := by rfl) : DE X Z W (.Attribute (.Name x p) f pos) (dXf q0 i Cs f) := by
  refine ⟨fun pins s σ H Q I ⟨F, ρ, R, U, ID, hm, k, _⟩ => ?_⟩
  unfold dXf at hm
  split at hm
  · rename_i q C d fs e
    obtain ⟨⟨rfl, hC⟩, hm⟩ := hm
    obtain ⟨dv, el, h⟩ := opt_get hm
    obtain ⟨e1, z, xa⟩ := ID.slotX e
    obtain ⟨T, no⟩ := hA C hC
    refine attr_of hb (thn ((pe_var (X := X) (pos := p) hN hv hd hcd).run pins s σ H (fun v H1 => v = .ref q.1 ∧ H1 = H) I ⟨_, e1, rfl, rfl⟩) fun u s1 ⟨v, H1, I1, rv, ev, eH⟩ => ?_)
    subst ev
    subst eH
    obtain rfl : u = Value.ref q.1 := rv
    obtain ⟨od, J, hod⟩ := inst_at I1 hq z ID.fh xa
    cases d with
    | none =>
      cases od with
      | none => rw [hod] at el; cases el
      | some _ => exact hod.elim
    | some a =>
      cases od with
      | none => exact hod.elim
      | some o =>
        obtain ⟨ho, us, hus, rf⟩ := hod
        obtain ⟨w, e3, rw'⟩ := rf.lookup el
        obtain ⟨mA, hns, hl⟩ := (show ObjOk X.prog X.w H1 s1.heap a (.xd us) from I1.hok a _ hus)
        obtain ⟨o', ho', look⟩ := lookIn_ns hns
        obtain rfl : o = o' := Option.some.inj (ho.symm.trans ho')
        obtain ⟨u, eu, ru⟩ := RelO.some_of (v := w) (o := mA f) (by rw [← e3]; exact hl f)
        exact PySem.HandSPX.exc_get I1.kIn J T.ga T.gg T.exC (PySem.W.findObj_own T.hdC no rfl (by rw [look, eu])) (handed_of ru) ⟨w, H1, I1.tok _, ru, k dv ρ w F H1 ID (Same.refl F) rw' h⟩
  · exact hm.elim
end
end DL

namespace DL
open PyProof.Rows hiding St
open PySem PySem.Spec L2
/-! ### a def that gets the exception in hand: its promise, for the exception's object -/
theorem _root_.L2H.RoomH.units {k : Nat} {A : Around} (r : L2H.RoomH k A) : A.units + 64 < cLine := by
  have := r.un
  omega
structure FnX (P : Program) (w : World) (K : PySem.W.Frag) (mg : Str → Option Value) (base : Heap) (k : Nat) (f : Addr) (fd : FuncData) (ps : List Str) (sp : Addr × Obj → Sp) : Prop where
  len : ∀ q vs H Q E, sp q vs H Q E → vs.length = ps.length
  run : ∀ (q : Addr × Obj) (A : Around) (outer : List Env) (s : Shared) (H : Hp) (args : Args) (us : List Value) (vs : List V) (Q : VK) (E : XK), L2H.RoomH k A → A.guards = some [] → L2H.PinOk outer H s q → Env0 P w K mg base A outer s H → BindsTo s fd args (ps.zip us) → Vals vs us →
    sp q vs H Q E → codeAny (model P w) A (.call (.ref f) args) (CR (L2.CX P w) outer P w H s Q E) s
theorem FnX.up {P : Program} {w : World} {K : PySem.W.Frag} {mg : Str → Option Value} {base : Heap} {j k : Nat} {f : Addr} {fd : FuncData} {ps : List Str} {sp : Addr × Obj → Sp} (F : FnX P w K mg base j f fd ps sp) (h : j ≤ k) : FnX P w K mg base k f fd ps sp :=
  ⟨F.len, fun q A outer s H args us vs Q E hr => F.run q A outer s H args us vs Q E (hr.mono h)⟩
abbrev cxX (P : Program) (w : World) (K : PySem.W.Frag) (mg : Str → Option Value) (base : Heap) (N : List Str) (qual : Str) (scope : Scope) (f : Addr) (cd : Value) (A : Around) (outer : List Env) (s : Shared) (H : Hp) (E : XK) (q : Addr × Obj) : Cx := L2H.cxH (L2.CX P w) P w K mg base N qual scope f cd A outer s H E q
section
variable {P : Program} {w : World} {K : PySem.W.Frag} {mg : Str → Option Value} {base : Heap} {N : List Str} {qual : Str} {scope : Scope} {f : Addr} {cd : Value} {A : Around} {outer : List Env} {s : Shared} {H : Hp} {E : XK} {q : Addr × Obj}
theorem takes_cxX : Takes (cxX P w K mg base N qual scope f cd A outer s H E q) (fun cls d _ H' => E cls d H') := takes_of (E := E) (E₁ := fun e' s'' => L2.CX P w outer H s E e' s'') rfl rfl rfl rfl
theorem pass_cxX : Pass (cxX P w K mg base N qual scope f cd A outer s H E q) (fun cls d _ H' => E cls d H') := pass_of takes_cxX
theorem pn_cxX : q ∈ (cxX P w K mg base N qual scope f cd A outer s H E q).pn := List.mem_singleton.mpr rfl
end
theorem fn_ofX {P : Program} {w : World} {K : PySem.W.Frag} {mg : Str → Option Value} {base : Heap} {k : Nat} {f : Addr} {name qual : Str} {params : Arguments} {body : List Stmt} {scope : Scope} {dV kV doc pm cdv ct oc : Value} {an od : Option Addr}
    {osl : Array (Option Value)} {N ps : List Str} {sp : Addr × Obj → Sp} (lk : K.lookup f = some ⟨oc, od, .func (PySem.W.fnOf name qual params body scope dV kV doc pm an cdv ct), osl⟩) (hcd : PySem.W.codeIn K cdv qual = true) (S : FnScope N ps scope)
    (len : ∀ q vs H Q E, sp q vs H Q E → vs.length = ps.length)
    (hbody : ∀ (q : Addr × Obj) (A : Around) (outer : List Env) (s : Shared) (H : Hp) (vs : List V) (Q : VK) (E : XK), L2H.RoomH k (A.deeper (envOfC qual scope s.heap.objs.size f cdv)) → (A.deeper (envOfC qual scope s.heap.objs.size f cdv)).guards = some [] → sp q vs H Q E →
      ∃ t, PSs (cxX P w K mg base N qual scope f cdv A outer s H E q) body t ∧ t { nx := fun _ H' => Q .non H', rt := Q } (L2.start N vs) H) :
    FnX P w K mg base (k + 1) f (PySem.W.fnOf name qual params body scope dV kV doc pm an cdv ct) ps sp := by
  refine ⟨len, fun q A outer s H args us vs Q E room guard pinned e0 binds rv want => ?_⟩
  have vlen := len _ _ _ _ _ want
  have KH : K.In s.heap := e0.mod.kin.keeps fun b o e => (e0.bs b o e).1
  have noLim : s.heap.NoLimit := e0.mod.nolimit.keeps fun b o e => (e0.bs b o e).1
  have kinds : ∀ y ∈ ps.zip us, scope.names.lookup y.1 = some .local ∨ (scope.names.lookup y.1 = some .cell ∧ ((cellsFrom (s.heap.objs.size + 1) scope.names []).lookup y.1).isSome = true) := fun ⟨n, v⟩ hy => (S.par n (List.of_mem_zip hy).1).imp id fun z => ⟨z, PySem.W.cellsFrom_some _ _ _ (.inl z)⟩
  refine codeAny_call_function room.depth (KH _ _ lk) rfl S.co S.gen rfl (PySem.W.codeRec_of KH hcd) (binds _ _ _ _ (wpAny_newFunctionEnv_cells S.kind kinds fun env he s1 x => ?_))
  subst he
  refine ⟨noLim.keeps x.toInCall.keep, codeAny_func ?_⟩
  obtain ⟨t, ht, got⟩ := hbody q A outer s H vs Q E (room.deeper _) guard want
  have I : Inv (cxX P w K mg base N qual scope f cdv A outer s H E q) [] (L2.start N vs) H s1 := L2H.inv_startH S pinned e0 vlen rv x
  refine wpAny_mono (ht.run [] s1 (L2.start N vs) H _ I got) (fun fl s' hs => ?_) fun e s' hs => hs
  cases fl with
  | ret u =>
    obtain ⟨v, σ', H', J, rv', z⟩ := hs
    exact ⟨v, H', J.os, J.bare, J.base, J.hok, rv', z⟩
  | next =>
    obtain ⟨σ', H', J, z⟩ := hs
    exact ⟨.non, H', J.os, J.bare, J.base, J.hok, rfl, z⟩
  | brk => exact hs.elim fun _ h => h.elim fun _ h => h.2.elim
  | cont => exact hs.elim fun _ h => h.elim fun _ h => h.2.elim
section
variable {X : Cx} {k : Nat} {f : Addr} {fd : FuncData} {ps : List Str} {sp : Addr × Obj → Sp} {E : XK} {q : Addr × Obj}
theorem run_X {pins : List (Addr × Obj)} {σ : St} {H : Hp} {s : Shared} {Q : VK} {args : Args} {us : List Value} {vs : List V} (F : FnX X.prog X.w X.K X.mg X.base k f fd ps sp) (hr : L2H.RoomH k X.A) (hgd : X.A.guards = some []) (hq : q ∈ X.pn)
    (hb : ∀ s : Shared, X.K.In s.heap → us.length = ps.length → BindsTo s fd args (ps.zip us)) (hx : PassesAt (L2.CX X.prog X.w) X σ E)
    (I : Inv X pins σ H s) (r : Vals vs us) (h : sp q vs H Q E) : wpAny (model X.prog X.w) X.A (PySem.call (.ref f) args.pos args.kw) (EP X pins σ Q) X.xe s := by
  have ulen : us.length = ps.length := by rw [← r.length]; exact F.len _ _ _ _ _ h
  obtain ⟨g1, g2, g3, g4, g5⟩ := I.pin q (List.mem_append_left _ hq)
  have pinned : L2H.PinOk X.stack H s q := ⟨g1, g2, fun m => (List.mem_cons.mp (I.stkSub q.1 m)).elim g3 g4, g5⟩
  refine wpAny_call (codeAny_mono (F.run q X.A X.stack s H args us vs Q E hr hgd pinned I.env0 (hb s I.kIn ulen) r h) fun r s' z => ?_)
  cases r with
  | error e => exact hx pins H s e s' I z
  | ok fl => cases fl <;> first | exact I.after z | exact False.elim z
end
/-! ### over data -/
structure FdX (T : List (Addr × Str)) (P : Program) (w : World) (K : PySem.W.Frag) (mg : Str → Option Value) (base : Heap) (k : Nat) (f : Addr) (ps : List Str) (fd : FuncData) (s : Addr × Obj → SpD) : Prop where
  ok : FnX P w K mg base k f fd ps (fun q => spOf T K (s q))
  mono : ∀ q, Mono (s q)
  kp : PySem.W.keepIn K (.ref f) = true
section
variable {P : Program} {w : World} {K : PySem.W.Frag} {mg : Str → Option Value} {base : Heap} {T : List (Addr × Str)}
theorem FdX.le {j k : Nat} {f : Addr} {fd : FuncData} {ps : List Str} {s : Addr × Obj → SpD} (D : FdX T P w K mg base j f ps fd s) (h : j ≤ k) : FdX T P w K mg base k f ps fd s := ⟨D.ok.up h, D.mono, D.kp⟩
theorem fn_DX {x qual : Str} {params : Arguments} {body : List Stmt} {scope : Scope} {dvs : List V} {kws : List (Str × V)} {f : Addr} {fd : FuncData} {N ps : List Str} {k : Nat} {s : Addr × Obj → SpD} {m : Addr × Obj → DSt} (F : FunD K x qual params body scope dvs kws f fd) (S : FnScope N ps scope) (mono : ∀ q, Mono (s q)) (hlen : ∀ q args Q U, s q args Q U → args.length = ps.length)
    (hbody : ∀ (q : Addr × Obj) (cdv : Value) (A : Around) (outer : List Env) (s : Shared) (H : Hp) (E : XK) (Z : Fm0), L2H.RoomH k (A.deeper (envOfC qual scope s.heap.objs.size f cdv)) → (A.deeper (envOfC qual scope s.heap.objs.size f cdv)).guards = some [] →
      DSs (cxX P w K mg base N qual scope f cdv A outer s H E q) (Fm.of Z T) (fun cls d _ H' => E cls d H') body (m q))
    (math : ∀ q args Q U, s q args Q U → m q (ends args Q U) (entry N.length args)) : FdX T P w K mg base (k + 1) f ps fd s := by
  have plen : ps.length ≤ N.length := by
    have := congrArg List.length S.pre
    rw [List.length_take] at this
    omega
  refine ⟨?_, mono, F.kp⟩
  obtain ⟨oc, od, dV, kV, doc, pm, an, cdv, ct, osl, rfl, lk, hcd, _, _⟩ := F.ex
  refine fn_ofX lk hcd S (fun q vs H Q E ⟨Fz, args, sf, r, nd, tb, h⟩ => by rw [r.length]; exact hlen _ _ _ _ h) (fun q A outer s' H vs Q E hr hgd h => ?_)
  obtain ⟨Fz, args, sf, r, nd, tb, h⟩ := h
  have hl : vs.length ≤ N.length := by
    rw [r.length, hlen _ _ _ _ h]
    exact plen
  refine ⟨_, hbody q cdv A outer s' H E ⟨Fz, H, owns args ++ T.map (·.1)⟩ hr hgd, Fz, entry N.length args, _, di_entry sf r nd tb hl, math _ _ _ _ h, ?_⟩
  have aft : ∀ {ρ' σ' F' H'}, DI K (Fm.of ⟨Fz, H, owns args ++ T.map (·.1)⟩ T) F' H' σ' ρ' → Aft T K Fz H (owns args) F' H' := fun {ρ' σ' F' H'} I => ⟨I.f0, I.fh, I.fnew, fun a o e => (I.keep a o e).elim (fun z => (List.mem_append.mp z).elim .inl fun z => .inr (.inl (let ⟨t, ht, e⟩ := List.mem_map.mp z; ⟨t, ht, e⟩))) fun z => .inr (.inr z), I.tab, I.tabF⟩
  have outs : ∀ {ρ' σ' F' H'} {k : List MO → Prop}, DI K (Fm.of ⟨Fz, H, owns args ++ T.map (·.1)⟩ T) F' H' σ' ρ' → outW args ρ' k → ∃ os, k os ∧ Outs K F' H' (owns args) os := fun {ρ' σ' F' H' k} I h => outW_get (k := k) (fun i b p o e => (I.slotO e).2) h
  exact { nx := fun ρ' σ' F' H' I s h => by
            obtain ⟨os, hq, O⟩ := outs I h
            exact hq _ F' H' (aft I) O .non
          rt := fun rv ρ' v σ' F' H' I s rv' h => by
            obtain ⟨os, hq, O⟩ := outs I h
            refine hq v F' H' (aft I) O ?_
            cases rv with
            | d d => exact rv'
            | o o =>
              obtain ⟨p, e, N⟩ := rv'
              exact ⟨p, e, N.fr, N.h0, N.at_⟩
          bk := fun ρ' σ' F' H' I s h => h.elim
          ct := fun ρ' σ' F' H' I s h => h.elim
          ex := fun σ x ρ' F' H' d I s xa h => by
            obtain ⟨os, hq, O⟩ := outs I h
            exact hq d F' H' (aft I) O xa }
end
/-! ### f(x, ..), x the exception in hand -/
def dCallX (q0 : Addr × Obj) (i : Nat) (s : Addr × Obj → SpD) (a : DA) : DT := fun ρ R U => match ρ[i]? with
  | some (.exc q C d fs) => q = q0 ∧ a ρ (fun as ρ1 => match argsOf ρ1 as with
    | some args => s q0 (.exc q C d fs :: args) (fun rv outs => match rv.toD with
      | some x => R x (putOuts as outs ρ1)
      | none => False) (fun y outs => U y (putOuts as outs ρ1))
    | none => False) U
  | _ => False
section
variable {X : Cx} {Z : Fm} {W : WX} {k : Nat} {f : Addr} {fd : FuncData} {ps : List Str} {s : Addr × Obj → SpD} {q0 : Addr × Obj} {x y : Str} {p p1 pos : Pos} {es : List Expr} {ma : DA}
theorem d_callX (i : Nat) (hq : q0 ∈ X.pn) (hr : L2H.RoomH k X.A) (hgd : X.A.guards = some []) (D : FdX Z.T X.prog X.w X.K X.mg X.base k f ps fd s) (hm : X.mg x = some (.ref f)) (hb : BindK X.K fd ps mkP) (hx : Pass X W) (ha : DAs X Z W es ma)
    (hN : X.N[i]? = some y := by rfl) (hv : Vis X.env.scope y := by first | exact Or.inl rfl | exact Or.inr (Or.inl rfl) | exact Or.inr (Or.inr rfl)) (hd : (y == ("__debug__" : Str)) = false := by decide) (hcd : (y == ("__classdict__" : Str)) = false := by decide)
    (hg : Gl X x := by rfl) (hdb : (x == ("__debug__" : Str)) = false := by decide) (hs : starEach (.Name y p1 :: es) X.env = (false, eval (.Name y p1) X.env) :: starEach es X.env := by rfl) (hpl : (backTo pos (starEach es X.env)).any (·.1) = false := by rfl) : DE X Z W (.Call (.Name x p) (.Name y p1 :: es) [] pos) (dCallX q0 i s ma) := by
  refine ⟨fun pins s0 σ H Q I ⟨F, ρ, R, U, ID, h, k', u⟩ => ?_⟩
  unfold dCallX at h
  split at h
  · rename_i q C d fs e
    obtain ⟨rfl, h⟩ := h
    obtain ⟨e1, z, xa⟩ := ID.slotX e
    refine wpAny_Call_Name_kw (ld_glob I hg hm ?_ hdb)
    refine PySem.W.callWith_K (h₀ := X.base) I.ok.mod.kin D.kp (thn ((pa_cons (pe_var hN hv hd hcd) ha hs).run pos pins s0 σ H (fun vs H1 => spOf Z.T X.K (s q) vs H1 Q (fun cls d H' => W cls d σ H')) I ⟨_, e1, F, ρ, _, U, ID, h, fun as ρ1 vs F1 H1 I1 s1 r1 h1 => ?_, u⟩) fun us s1 ⟨vs, H1, I1, r, h1⟩ => ⟨I1.kIn, ?_⟩) hs hpl
    · try dsimp only at h1
      split at h1
      · rename_i args ea
        refine ⟨F1, .exc q C d fs :: args, I1.fh, .cons ⟨rfl, z, xa.mono s1⟩ (args_rep I1 r1 ea), (show (owns args).Nodup from owns_nodup I1 ea), ⟨I1.tab, I1.tabF⟩, D.mono q _ _ _ _ _ (fun rv outs hr => ?_) (fun y outs hu => ?_) h1⟩
        · intro v F' H' A O rv'
          have A : Aft Z.T X.K F1 H1 (owns args) F' H' := A
          have O : Outs X.K F' H' (owns args) outs := O
          have I' := I1.after ea A O
          cases rv with
          | d x => exact k' x _ v F' H' I' (s1.trans A.f0) rv' hr
          | o o =>
            obtain ⟨p', rfl, f', h', at'⟩ := rv'
            try dsimp only at hr
            split at hr
            · rename_i x ex
              obtain ⟨ho, I3, s3, r⟩ := I'.freeze (new_after I1 A f' h' at') ex
              exact k' x _ _ _ H' I3 (s1.trans (A.f0.trans s3)) r hr
            · exact hr.elim
        · intro d' F' H' A O xa'
          have A : Aft Z.T X.K F1 H1 (owns args) F' H' := A
          have O : Outs X.K F' H' (owns args) outs := O
          exact u y _ F' H' d' (I1.after ea A O) (s1.trans A.f0) xa' hu
      · exact h1.elim
    · exact run_X (q := q) (args := mkP us) D.ok hr hgd hq (fun s Ks hl => hb s us Ks hl) (hx σ) I1 r h1
  · exact h.elim
end
end DL

namespace DL
open PyProof.Rows hiding St
open PySem PySem.Spec L2
/-! ### what an except clause asks: m says of a class whether its exceptions are meant -/
def Tst (X : Cx) (t : Expr) (m : Value → Option Bool) : Prop := ∀ (a : Addr) (oe : Obj) (pn : List (Addr × Obj)) (σ : St) (H : Hp) (s : Shared) (b : Bool) (Q : Bool → Shared → Prop) (E : Value → Shared → Prop), Inv (X.suite a pn) [] σ H s → s.heap.get? a = some oe → m oe.cls = some b →
  (∀ h', (∀ c o, s.heap.get? c = some o → h'.get? c = some o) → Q b { s with heap := h' }) →
  wpAny (model X.prog X.w) (X.A.mark (some (.ref a))) (eval t X.env) (fun c s1 => wpAny (model X.prog X.w) (X.A.mark (some (.ref a))) (excMatches (.ref a) c) Q E s1) E s
section
variable {X : Cx} {np : Pos}
theorem tst_name {x : Str} {c : Value} {a : Addr} {pn : List (Addr × Obj)} {σ : St} {H : Hp} {s : Shared} {Q : Value → Shared → Prop} {E : Value → Shared → Prop} (hc : Names X x c) (I : Inv (X.suite a pn) [] σ H s) (q : Q c s) : wpAny (model X.prog X.w) (X.A.mark (some (.ref a))) (eval (.Name x np) X.env) Q E s := by
  obtain ⟨hg, nodbg, m | ⟨m, v, nn⟩⟩ := hc
  · exact ld_glob (X := X.suite a pn) I hg m q nodbg
  · exact ld_blt (X := X.suite a pn) I hg m v q nn nodbg
theorem tst_three {x y z : Str} {c1 c2 c3 : Value} {p1 p2 p3 pt : Pos} {kt : Nat} (h1 : Names X x c1) (h2 : Names X y c2) (h3 : Names X z c3)
    (hs : backTo pt (starEach [.Name x p1, .Name y p2, .Name z p3] X.env) = [(false, eval (.Name x p1) X.env), (false, eval (.Name y p2) X.env), (false, eval (.Name z p3) X.env)] := by rfl) : Tst X (.Tuple [.Name x p1, .Name y p2, .Name z p3] kt pt) (fun cls => PySem.W.exmAny X.K cls [c1, c2, c3]) := fun a oe pn σ H s b Q E I he hb k => by
  refine wpAny_Tuple_spliced ?_
  rw [hs]
  refine Calls.spliced_cons (tst_name h1 I (Calls.spliced_cons (tst_name h2 I (Calls.spliced_cons (tst_name h3 I (Calls.spliced_nil ⟨by rw [sizeLine_eq]; exact (by decide : 3 ≤ 16777216), ?_⟩))))))
  have kp : ∀ c o, s.heap.get? c = some o → (s.heap.push { cls := .type "tuple", data := .seq [c1, c2, c3].toArray }).get? c = some o := fun c o e => Heap.get?_push_of_some _ e
  exact (PySem.W.exm_tup3 (I.kIn.keeps kp) (fun A Q E s k q => wpAny_typeOf_ref (k _ _ (kp _ _ he)) q) (Heap.get?_push_size _ rfl) hb).here (k _ kp)
end
/-! ### try: body, clauses -/
structure Cl where
  m : Value → Option Bool
  i : Option Nat
  ts : Addr × Obj → TS
def putI {α : Type} (i : Option Nat) (v : α) (l : List α) : List α := match i with
  | some i => l.set i v
  | none => l
def Cl.ends (c : Cl) (D : Ends) : Ends := { nx := fun σ H => D.nx (putI c.i none σ) H, rt := D.rt, bk := fun σ H => D.bk (putI c.i none σ) H, ct := fun σ H => D.ct (putI c.i none σ) H }
/-- what the clauses wish of an exception of the body -/
def wCl (Wout : WX) (D : Ends) : List Cl → WX
  | [] => Wout
  | c :: r => fun cls d σ H => ∃ b, c.m cls = some b ∧ (b = true → ∀ q : Addr × Obj, H q.1 = none → Zc cls d q.2 → (∃ vs, q.2.data = .fields vs) → c.ts q (c.ends D) (putI c.i (some (.ref q.1)) σ) H) ∧ (b = false → wCl Wout D r cls d σ H)
inductive ClOk (X : Cx) : List ExceptHandler → List Cl → Prop
  | nil : ClOk X [] []
  | only {t : Expr} {m : Value → Option Bool} {b₀ : Stmt} {suite : List Stmt} {ts : Addr × Obj → TS} {pos' : Pos} {hds : List ExceptHandler} {l : List Cl} (ht : Tst X t m) (hsu : ∀ (q : Addr × Obj) (pn : List (Addr × Obj)), PSs (X.suite q.1 (q :: pn)) (b₀ :: suite) (ts q)) (r : ClOk X hds l) :
      ClOk X (.ExceptHandler (some t) none (b₀ :: suite) pos' :: hds) (⟨m, none, ts⟩ :: l)
  | named {t : Expr} {m : Value → Option Bool} {n : Str} {i : Nat} {b₀ : Stmt} {suite : List Stmt} {ts : Addr × Obj → TS} {pos' : Pos} {hds : List ExceptHandler} {l : List Cl} (ht : Tst X t m) (hN : X.N.Nodup) (hi : X.N[i]? = some n) (hln : X.env.kindOf n = some .local)
      (hsu : ∀ (q : Addr × Obj) (pn : List (Addr × Obj)), PSs (X.suite q.1 (q :: pn)) (b₀ :: suite) (ts q)) (r : ClOk X hds l) :
      ClOk X (.ExceptHandler (some t) (some n) (b₀ :: suite) pos' :: hds) (⟨m, some i, ts⟩ :: l)
theorem flying_keeps {B h h' : Heap} {l : List Env} {a : Addr} {Z : Obj → Prop} (k : ∀ b o, h.get? b = some o → h'.get? b = some o) (f : HandSPX.FlyingZ B l a Z h) : HandSPX.FlyingZ B l a Z h' := by
  obtain ⟨f1, f2, f3, oe, vs, T, oT, ts, g1, g2, g3, g4, g5, g6, g7, g8, g9⟩ := f
  exact ⟨fun b o e => k b o (f1 b o e), f2, f3.of_keeps fun b o e _ => ⟨o, k b o e, rfl⟩, oe, vs, T, oT, ts, k _ _ g1, g2, g3, g4, g5, g6, k _ _ g7, g8, g9⟩
section
variable {X : Cx} {body : List Stmt} {h₀ : ExceptHandler} {hds : List ExceptHandler} {l : List Cl} {pos : Pos} {tb : WX → TS} {Wout : WX}
theorem ps_tryC (hs : X.stack = X.env :: X.outer) (hf : X.env.frame = some X.env.locals) (tk : Takes X Wout)
    (hb : ∀ (W : WX) (pn : List (Addr × Obj)) (xe : Value → Shared → Prop), Takes (X.tr pn xe) W → PassesOwn (model X.prog X.w) X.A X.env xe → PSs (X.tr pn xe) body (tb W))
    (hh : ClOk X (h₀ :: hds) l) : PS X (.Try body (h₀ :: hds) [] [] pos) (fun D σ H => tb (wCl Wout D l) D σ H) := by
  refine ⟨fun pins s σ H D I h => ?_⟩
  have ok := I.ok
  have frames : X.A.frames = some (X.env :: X.outer) := by rw [ok.frames, hs]
  refine wpAny_Try_except ?_
  have caught : ∀ u s', XE (X.tr (X.pn ++ pins) (fun _ _ => True)) (wCl Wout D l) u s' → wpAny (model X.prog X.w) X.A (noteFrame u X.env) (fun _ s₂ => wpAny (model X.prog X.w) X.A (setFlight u none) (fun _ s₃ => wpAny (model X.prog X.w) X.A (handleBy u X.env (h₀ :: hds)) (SP X pins D) X.xe s₃) X.xe s₂) X.xe s' := by
    rintro u s' ⟨a, B, sI, pins', σ', H', cls, d, rfl, J', nb, up, sky, na, os, ag, w⟩
    have J : Inv X pins σ' H' sI := J'.ofTry ok
    have inSky : Sky B (X.env :: X.outer) a (Zc cls d) X.env.locals s'.heap := by rw [← hs]; exact sky
    have apart : ∀ {h : Heap}, HandSPX.FlyingZ B (X.env :: X.outer) a (Zc cls d) h → a ∉ frs (X.env :: X.outer) := fun {h} fl m => by
      obtain ⟨oe, vs, e, _, dd⟩ := fl.there
      obtain ⟨_, o, e', nf⟩ := fl.2.2.1.mem m
      rw [e] at e'
      cases e'
      exact nf _ dd
    refine Sky.land Zc.steady frames hf inSky fun h3 fl3 up3 => ?_
    -- the clauses, one by one
    have go : ∀ {hds' : List ExceptHandler} {l' : List Cl}, ClOk X hds' l' → wCl Wout D l' cls d σ' H' → ∀ h, HandSPX.FlyingZ B (X.env :: X.outer) a (Zc cls d) h → sI.heap.UpToSlots h → wpAny (model X.prog X.w) X.A (handleBy (.ref a) X.env hds') (SP X pins D) X.xe { s' with heap := h } := by
      intro hds' l' ck
      have suite_ : ∀ {h : Heap}, HandSPX.FlyingZ B (X.env :: X.outer) a (Zc cls d) h → sI.heap.UpToSlots h → ∃ oe, h.get? a = some oe ∧ Zc cls d oe ∧ (∃ vs, oe.data = .fields vs) ∧ Inv (X.suite a ((a, oe) :: (X.pn ++ pins))) [] σ' H' { s' with heap := h } := fun {h} fl up => by
        obtain ⟨oe, vs, he, hz, hd⟩ := fl.there
        have out := apart fl
        have nL : a ≠ X.env.locals := fun z => out (List.mem_filterMap.mpr ⟨X.env, List.mem_cons_self, by rw [hf, z]⟩)
        have nF : a ∉ X.fs := fun m => by
          obtain ⟨e, he, q⟩ := List.mem_filterMap.mp m
          exact out (List.mem_filterMap.mpr ⟨e, List.mem_cons_of_mem _ he, q⟩)
        exact ⟨oe, he, hz, ⟨vs, hd⟩, (J.landed nb fl.1 up os ag : Inv X pins σ' H' { s' with heap := h }).suite he hd na nL nF⟩
      induction ck with
      | nil =>
        intro w h fl up
        refine wpAny_handleBy_nil ?_
        obtain ⟨k1, k2, k3, oe, vs, T, oT, ts', he, hz, hd, h1, hr⟩ := id fl
        unfold PySem.passOn
        refine wpAny_bind (wpAny_field he hd h1 ?_)
        rw [if_neg (show ¬ ((Value.ref T == Value.none) = true) from by simp)]
        have on : wpAny (model X.prog X.w) X.A (setFlight (.ref a) X.env.frame) (fun _ s4 => wpAny (model X.prog X.w) X.A (throw (.ref a) : Sem Flow) (SP X pins D) X.xe s4) X.xe { s' with heap := h } := by
          rw [hf]
          refine HandSPX.setFlight_upZ fl fun h4 held up4 => wpAny_throw (tk _ _ ?_)
          exact ⟨a, B, sI, pins, σ', H', cls, d, rfl, J, nb, up.trans up4, .inr (.inr (by rw [hs]; exact held)), na, os, ag, w⟩
        first
          | exact wpAny_bind (wpAny_pure (wpAny_bind on))
          | exact wpAny_bind on
      | only ht hsu r ih =>
        rintro ⟨b, eb, yes, no⟩ h fl up
        obtain ⟨oe, he, hz, hv, S⟩ := suite_ fl up
        refine wpAny_handleBy_cons (codeAny_handlers_test (ht a oe _ _ _ _ b _ _ S he (by rw [hz.1]; exact eb) fun h' k => ?_)) (by intro q; cases q)
        have fl' := flying_keeps k fl
        have up' := up.trans (Heap.UpToSlots.of_keeps k)
        cases b with
        | false => exact ih (no rfl) h' fl' up'
        | true =>
          refine codeAny_handlers_suite (HandSPX.lands_againZ fl' fun h4 fl4 up4 => ?_)
          obtain ⟨oe4, he4, hz4, hv4, S4⟩ := suite_ fl4 (up'.trans up4)
          refine wpAny_mono ((hsu (a, oe4) (X.pn ++ pins)).run [] _ _ H' _ S4 (yes rfl (a, oe4) na hz4 hv4)) (fun f s6 got => ?_) (fun _ _ z => False.elim z)
          cases f with
          | ret u =>
            obtain ⟨v6, σ6, H6, S6, r6, q6⟩ := got
            exact ⟨_, _, _, S6.unsuite ok, r6, q6⟩
          | next =>
            obtain ⟨σ6, H6, S6, q6⟩ := got
            exact ⟨_, _, S6.unsuite ok, q6⟩
          | brk =>
            obtain ⟨σ6, H6, S6, q6⟩ := got
            exact ⟨_, _, S6.unsuite ok, q6⟩
          | cont =>
            obtain ⟨σ6, H6, S6, q6⟩ := got
            exact ⟨_, _, S6.unsuite ok, q6⟩
      | @named t m n i b₀ suite ts pos' hds l ht hN hi hln hsu r ih =>
        rintro ⟨b, eb, yes, no⟩ h fl up
        obtain ⟨oe, he, hz, hv, S⟩ := suite_ fl up
        refine wpAny_handleBy_cons (codeAny_handlers_test (ht a oe _ _ _ _ b _ _ S he (by rw [hz.1]; exact eb) fun h' k => ?_)) (by intro q; cases q)
        have fl' := flying_keeps k fl
        have up' := up.trans (Heap.UpToSlots.of_keeps k)
        cases b with
        | false => exact ih (no rfl) h' fl' up'
        | true =>
          refine codeAny_handlers_suite_as (HandSPX.lands_againZ fl' fun h4 fl4 up4 => ?_)
          obtain ⟨oe4, he4, hz4, hv4, S4⟩ := suite_ fl4 (up'.trans up4)
          refine store_ok (X := X.suite a ((a, oe4) :: (X.pn ++ pins))) (v := .ref a) S4 hN hi (.inl hln) rfl (fun s5 S5 => ?_) (.inr hln)
          refine wpAny_mono ((hsu (a, oe4) (X.pn ++ pins)).run [] s5 _ H' _ S5 (yes rfl (a, oe4) na hz4 hv4)) (fun f s6 got => ?_) (fun _ _ z => False.elim z)
          have gone : ∀ {σ6 : St} {H6 : Hp} {Q : Shared → Prop}, Inv (X.suite a ((a, oe4) :: (X.pn ++ pins))) [] σ6 H6 s6 → (∀ s7, Inv X pins (σ6.set i none) H6 s7 → Q s7) → wpAny (model X.prog X.w) X.A (do bindName X.env n .none; unbindBehindTheSuite X.env n pos') (fun _ s7 => Q s7) X.xe s6 := fun {σ6 H6 Q} S6 q => gone_ok (S6.unsuite ok) hN hi hln q
          cases f with
          | ret u =>
            obtain ⟨v6, σ6, H6, S6, r6, q6⟩ := got
            exact gone S6 fun s7 J7 => ⟨_, _, _, J7, r6, q6⟩
          | next =>
            obtain ⟨σ6, H6, S6, q6⟩ := got
            exact gone S6 fun s7 J7 => ⟨_, _, J7, q6⟩
          | brk =>
            obtain ⟨σ6, H6, S6, q6⟩ := got
            exact gone S6 fun s7 J7 => ⟨_, _, J7, q6⟩
          | cont =>
            obtain ⟨σ6, H6, S6, q6⟩ := got
            exact gone S6 fun s7 J7 => ⟨_, _, J7, q6⟩
    exact go hh w h3 fl3 (up.trans up3)
  refine wpAny_mono ((hb (wCl Wout D l) (X.pn ++ pins) _ (fun u s' xx => caught u s' ?_) PassesOwn.looking).run [] s σ H D (I.toTry _) h) (fun f s1 got => ?_) (fun e s1 he => he)
  · obtain ⟨a, B, sI, pins', σ', H', cls, d, e, J', r⟩ := xx
    exact ⟨a, B, sI, pins', σ', H', cls, d, e, ⟨J'.ok.ofTry.toTry _ _, J'.os, J'.bare, J'.base, J'.loc, J'.cell, J'.free, J'.freeC, J'.pin, J'.hok, J'.len⟩, r⟩
  · cases f with
    | ret u =>
      obtain ⟨v, σ', H', J', r, q⟩ := got
      exact ⟨v, σ', H', J'.ofTry ok, r, q⟩
    | next =>
      obtain ⟨σ', H', J', q⟩ := got
      exact wpAny_execs_nil ⟨σ', H', J'.ofTry ok, q⟩
    | brk =>
      obtain ⟨σ', H', J', q⟩ := got
      exact ⟨σ', H', J'.ofTry ok, q⟩
    | cont =>
      obtain ⟨σ', H', J', q⟩ := got
      exact ⟨σ', H', J'.ofTry ok, q⟩
end
/-! ### over data -/
structure DCl where
  g : List (Addr × Bool)
  i : Option Nat
  m : Addr × Obj → DSt
def DCl.ends (c : DCl) (D : DEn) : DEn := { nx := fun ρ => D.nx (putI c.i .no ρ), rt := D.rt, bk := fun ρ => D.bk (putI c.i .no ρ), ct := fun ρ => D.ct (putI c.i .no ρ), ex := fun _ _ => False }
def clX (D : DEn) : List DCl → XP
  | [] => D.ex
  | c :: r => fun x ρ => ∃ b, (x.C, b) ∈ c.g ∧ (b = true → ∀ q d, c.m q (c.ends D) (putI c.i (.exc q x.C d x.fs) ρ)) ∧ (b = false → clX D r x ρ)
def dTry (b : DSt) (cs : List DCl) : DSt := fun D ρ => b { D with ex := clX D cs } ρ
def DCl.cl (K : PySem.W.Frag) (Z : Fm) (c : DCl) (m : Value → Option Bool) : Cl := ⟨m, c.i, fun q => tS K Z WF (c.m q)⟩
/-- the tests say of classes what the readings say -/
def Says (m : Value → Option Bool) (g : List (Addr × Bool)) : Prop := ∀ z ∈ g, m (.ref z.1) = some z.2
inductive DClOk (X : Cx) (Z : Fm) : List ExceptHandler → List DCl → List Cl → Prop
  | nil : DClOk X Z [] [] []
  | only {t : Expr} {m : Value → Option Bool} {g : List (Addr × Bool)} {b₀ : Stmt} {suite : List Stmt} {md : Addr × Obj → DSt} {pos' : Pos} {hds : List ExceptHandler} {cs : List DCl} {l : List Cl} (ht : Tst X t m) (hg : Says m g) (hsu : ∀ (q : Addr × Obj) (pn : List (Addr × Obj)), DSs (X.suite q.1 (q :: pn)) Z WF (b₀ :: suite) (md q)) (r : DClOk X Z hds cs l) :
      DClOk X Z (.ExceptHandler (some t) none (b₀ :: suite) pos' :: hds) (⟨g, none, md⟩ :: cs) (⟨m, none, fun q => tS X.K Z WF (md q)⟩ :: l)
  | named {t : Expr} {m : Value → Option Bool} {g : List (Addr × Bool)} {n : Str} {b₀ : Stmt} {suite : List Stmt} {md : Addr × Obj → DSt} {pos' : Pos} {hds : List ExceptHandler} {cs : List DCl} {l : List Cl} (i : Nat) (ht : Tst X t m) (hg : Says m g) (hN : X.N.Nodup) (hsu : ∀ (q : Addr × Obj) (pn : List (Addr × Obj)), DSs (X.suite q.1 (q :: pn)) Z WF (b₀ :: suite) (md q)) (r : DClOk X Z hds cs l)
      (hi : X.N[i]? = some n := by rfl) (hln : X.env.kindOf n = some .local := by rfl) :
      DClOk X Z (.ExceptHandler (some t) (some n) (b₀ :: suite) pos' :: hds) (⟨g, some i, md⟩ :: cs) (⟨m, some i, fun q => tS X.K Z WF (md q)⟩ :: l)
section
variable {X : Cx} {Z : Fm} {W : WX}
theorem DClOk.low {hds : List ExceptHandler} {cs : List DCl} {l : List Cl} (h : DClOk X Z hds cs l) : ClOk X hds l := by
  induction h with
  | nil => exact .nil
  | only ht hg hsu r ih => exact .only ht hsu ih
  | named i ht hg hN hsu r hi hln ih => exact .named ht hN hi hln hsu ih
theorem clause_ends {K : PySem.W.Frag} {F F1 : Hp} {D : DEn} {D' : Ends} {c : DCl} {m : Value → Option Bool} {ts : Addr × Obj → TS} (r : ER K Z W F D D') (s : Same F F1) : ER K Z WF F1 (c.ends D) (Cl.ends ⟨m, c.i, ts⟩ D') := by
  have back : ∀ {ρ' : En} {σ' : St} {F' H' : Hp}, DI K Z F' H' σ' ρ' → DI K Z F' H' (putI c.i none σ') (putI c.i .no ρ') := fun {ρ' σ' F' H'} I => by
    cases e : c.i with
    | none => exact I
    | some i => exact I.setNo i
  exact { nx := fun ρ' σ' F' H' I s' h => r.nx _ _ F' H' (back I) (s.trans s') h, rt := fun rv ρ' v σ' F' H' I s' rv' h => r.rt rv ρ' v σ' F' H' I (s.trans s') rv' h
          bk := fun ρ' σ' F' H' I s' h => r.bk _ _ F' H' (back I) (s.trans s') h, ct := fun ρ' σ' F' H' I s' h => r.ct _ _ F' H' (back I) (s.trans s') h, ex := fun _ _ _ _ _ _ _ _ _ z => z.elim }
theorem clX_in {hds : List ExceptHandler} {cs : List DCl} {l : List Cl} {F : Hp} {D : DEn} {D' : Ends} {σ : St} (h : DClOk X Z hds cs l) (r : ER X.K Z W F D D') : PX X.K Z (wCl W D' l) F σ (clX D cs) := by
  induction h with
  | nil => exact r.ex σ
  | @only t m g b₀ suite md pos' hds cs l ht hg hsu r' ih =>
    rintro x ρ' F' H' d I s xa ⟨b, eb, yes, no⟩
    refine ⟨b, hg _ eb, fun hb q na z v => ?_, fun hb => ih x ρ' F' H' d I s xa (no hb)⟩
    exact ⟨F', ρ', _, I, yes hb q d, clause_ends (c := ⟨g, none, md⟩) r s⟩
  | @named t m g n b₀ suite md pos' hds cs l i ht hg hN hsu r' hi hln ih =>
    rintro x ρ' F' H' d I s xa ⟨b, eb, yes, no⟩
    refine ⟨b, hg _ eb, fun hb q na z v => ?_, fun hb => ih x ρ' F' H' d I s xa (no hb)⟩
    exact ⟨F', ρ'.set i (.exc q x.C d x.fs), _, I.setExc i ⟨z, v⟩ xa, yes hb q d, clause_ends (c := ⟨g, some i, md⟩) r s⟩
theorem ds_try {body : List Stmt} {h₀ : ExceptHandler} {hds : List ExceptHandler} {cs : List DCl} {l : List Cl} {mb : DSt} {pos : Pos} (hs : X.stack = X.env :: X.outer) (hf : X.env.frame = some X.env.locals) (tk : Takes X W)
    (hb : ∀ (W' : WX) (pn : List (Addr × Obj)) (xe : Value → Shared → Prop), Takes (X.tr pn xe) W' → DSs (X.tr pn xe) Z W' body mb) (hh : DClOk X Z (h₀ :: hds) cs l) : DS X Z W (.Try body (h₀ :: hds) [] [] pos) (dTry mb cs) :=
  PS.imp (ps_tryC (tb := fun W' => tS X.K Z W' mb) hs hf tk (fun W' pn xe t _ => hb W' pn xe t) hh.low) fun D' σ H ⟨F, ρ, D, I, hm, r⟩ => ⟨F, ρ, _, I, hm, ⟨r.nx, r.rt, r.bk, r.ct, fun σ => clX_in hh r⟩⟩
end
end DL

namespace DL
open PyProof.Rows hiding St
open PySem PySem.Spec L2
/-! ### own exceptions over three classes of the language -/
inductive Bs where
  | ve | le | ae
def Bs.nm : Bs → String
  | .ve => "ValueError"
  | .le => "LookupError"
  | .ae => "ArithmeticError"
def Bs.new : Bs → String
  | .ve => "ValueError.__new__"
  | .le => "LookupError.__new__"
  | .ae => "ArithmeticError.__new__"
def Bs.ini : Bs → String
  | .ve => "ValueError.__init__"
  | .le => "LookupError.__init__"
  | .ae => "ArithmeticError.__init__"
def Bs.mro (b : Bs) : List Value := [.type b.nm, .type "Exception", .type "BaseException", .type "object"]
theorem Bs.facts : ∀ b : Bs, ExcBaseFacts b.nm b.new b.ini b.mro
  | .ve => F.excBase_ValueError
  | .le => F.excBase_LookupError
  | .ae => F.excBase_ArithmeticError
theorem Bs.store : ∀ b : Bs, StoreFacts b.nm b.mro "object.__setattr__" "object"
  | .ve => F.store_ValueError
  | .le => F.store_LookupError
  | .ae => F.store_ArithmeticError
structure Oex (K : PySem.W.Frag) (C : Addr) (b : Bs) : Prop where
  init : PySem.W.excInitIn K C b.mro b.new = true
  over : PySem.W.excOver K C b.mro = true
  sa : PySem.W.findIn K (.ref C) "__setattr__" = some (some (.builtin "object.__setattr__"))
  hd : PySem.W.hasDictIn K C = true
  exC : PySem.W.subIn K (.ref C) (.type "BaseException") = some true
  tyC : PySem.W.typeIn K (.ref C) = some (.type "type")
  kC : PySem.W.keepIn K (.ref C) = true
def oexB (K : PySem.W.Frag) (C : Addr) (b : Bs) : Bool := PySem.W.excInitIn K C b.mro b.new && (PySem.W.excOver K C b.mro && (He.eqO (PySem.W.findIn K (.ref C) "__setattr__") (some (some (.builtin "object.__setattr__"))) && (PySem.W.hasDictIn K C &&
  (oEqB (PySem.W.subIn K (.ref C) (.type "BaseException")) (some true) && (decide (PySem.W.typeIn K (.ref C) = some (.type "type")) && PySem.W.keepIn K (.ref C))))))
theorem oexB_ok {K : PySem.W.Frag} {C : Addr} {b : Bs} (h : oexB K C b = true) : Oex K C b := by
  unfold oexB at h
  simp only [Bool.and_eq_true] at h
  obtain ⟨h1, h2, h3, h4, h5, h6, h7⟩ := h
  exact ⟨h1, h2, He.eqO_ok h3, h4, oEqB_ok h5, of_decide_eq_true h6, h7⟩
section
variable {X : Cx} {pins : List (Addr × Obj)} {σ : St} {H : Hp} {s : Shared} {a C : Addr} {f : Str} {y : V} {u : Value} {b : Bs} {A : Around}
/-- the first store: the exception's dict is made -/
theorem first_store {Q : Unit → Shared → Prop} {E : Value → Shared → Prop} (T : Oex X.K C b) (I : Inv X pins σ H s) (at_ : H a = some (exo a C none)) (no : PySem.W.findIn X.K (.ref C) f = some none) (ry : RelV y u)
    (h : ∀ dx s', H dx = none → dx ≠ a → Inv X pins σ (upd (upd H dx (exd dx [(f, y)])) a (exo a C (some dx))) s' → Q () s') : wpAny (model X.prog X.w) A (setAttr (.ref a) f u) Q E s := by
  obtain ⟨t1, obj⟩ := exo_at I.hok at_
  obtain ⟨hp, g, d, t, os⟩ := s
  have J : PySem.W.InstAt hp a { cls := .ref C, dict := none, data := .fields #[.ref t1, .none, .none, .none, .bool false, .none] } C none := ⟨obj, rfl, rfl, trivial⟩
  have tk : PySem.W.takerIn X.K C f = some none := by
    unfold PySem.W.takerIn
    rw [no]
    rfl
  refine PySem.W.set_plain I.kIn J T.sa (PySem.W.osa_openX b.store I.kIn J T.over tk fun bb => ?_)
  obtain ⟨cd, hc, hd'⟩ := PySem.W.any_some T.hd
  have hxs : a ≠ hp.objs.size := Nat.ne_of_lt (Heap.lt_size obj)
  refine wpAny_bind (wpAny_pure (wpAny_bind (PySem.W.instanceDict_exc (t := t1) (c2 := .none) obj (PySem.W.looks_clsIn I.kIn hc) hd' ?_)))
  have hx1 : (hp.push (PySem.W.dictOf [] 0)).get? a = some { cls := .ref C, dict := none, data := .fields #[.ref t1, .none, .none, .none, .bool false, .none] } := Heap.get?_push_of_some _ obj
  refine PySem.HandSPX.store_in_new ⟨PySem.W.dictOf [] 0, #[], 0, (Heap.get?_update_other _ _ hxs).trans (Heap.get?_push_size _ rfl), rfl, fun e he => absurd he (by simp), fun _ => rfl⟩ fun h' tk' hn' hs => ?_
  have hnd : H hp.objs.size = none := I.hok.fresh (Nat.le_refl _)
  have nd : ∀ {c : Addr} {o : Obj}, hp.get? c = some o → c ≠ hp.objs.size := fun {c o} q => Nat.ne_of_lt (Heap.lt_size q)
  have na : ∀ {c : Addr}, H c = none → c ≠ a := fun {c} n z => by
    rw [z, at_] at n
    cases n
  have k : ∀ c o, c ≠ a → hp.get? c = some o → h'.get? c = some o := fun c o n e => (hs.2 c (nd e)).trans ((Heap.get?_update_other _ _ (Ne.symm n)).trans (Heap.get?_push_of_some _ e))
  have hx : h'.get? a = some { cls := .ref C, dict := some hp.objs.size, data := .fields #[.ref t1, .none, .none, .none, .bool false, .none] } := (hs.2 a hxs).trans (Heap.get?_update_self _ hx1 rfl)
  have U : Un X.fs [] H (upd (upd H hp.objs.size (exd hp.objs.size [(f, y)])) a (exo a C (some hp.objs.size))) hp h' := {
    keep := fun c o q n _ _ => k c o (na n) q
    slot := fun c o q n _ _ => ⟨o.slots, k c o (na n) q⟩
    free := fun c o q n _ => by rw [upd_ne (na n), upd_ne (nd q)]; exact n
    there := fun c o q _ => by
      by_cases hb : c = a
      · exact ⟨_, by rw [hb]; exact hx⟩
      · exact ⟨o, k c o hb q⟩
    tups := fun c xs q => by rw [upd_ne (at_ne at_ q exo_tup), upd_ne (ne_of_none q hnd)]; exact q
    frzs := fun c o v q => by rw [upd_ne (at_ne at_ q exo_frz), upd_ne (ne_of_none q hnd)]; exact q
    tbls := fun c ps q => ⟨#[], by rw [upd_ne (at_ne at_ q exo_tbl), upd_ne (ne_of_none q hnd), q]; simp⟩ }
  refine h hp.objs.size _ hnd (Ne.symm hxs) (I.un (t' := tk') U fun c o q => ?_)
  by_cases hb : c = a
  · subst hb
    rw [upd_same] at q
    cases q
    exact exo_ok hx
  · rw [upd_ne hb] at q
    by_cases hd : c = hp.objs.size
    · subst hd
      rw [upd_same] at q
      cases q
      exact exd_ok hn' (relO_put (fs := []) ry fun g => True.intro)
    · rw [upd_ne hd] at q
      exact (I.hok c o q).stay (fun e v he z => k e v (by
          rcases he with he | he
          · rw [he]
            exact hb
          · exact at_ne at_ he exo_own) z)
        (fun e he => by rw [upd_ne (at_ne at_ he exo_own), upd_ne (ne_of_none he hnd)]; exact he) (fun e xs he => by rw [upd_ne (at_ne at_ he exo_tup), upd_ne (ne_of_none he hnd)]; exact he)
end
/-! ### __init__(self, given): self.f = given -/
def spIni (K : PySem.W.Frag) (f : Str) : Sp := fun vs H Q _ => ∃ (a C : Addr) (b : Bs) (y : V), vs = [.ref a, y] ∧ Oex K C b ∧ H a = some (exo a C none) ∧ PySem.W.findIn K (.ref C) f = some none ∧ ∀ dx, H dx = none → dx ≠ a → Q .non (upd (upd H dx (exd dx [(f, y)])) a (exo a C (some dx)))
structure IniF (P : Program) (w : World) (K : PySem.W.Frag) (mg : Str → Option Value) (base : Heap) (g : Addr) (f : Str) : Prop where
  ok : ∃ fd ps, FnG P w K mg base 1 g fd ps (spIni K f) ∧ BindK K fd ps mkP
section
variable {P : Program} {w : World} {K : PySem.W.Frag} {mg : Str → Option Value} {base : Heap}
theorem ini_ok {x qual : Str} {params : Arguments} {scope : Scope} {dvs : List V} {kws : List (Str × V)} {g : Addr} {fd : FuncData} {N : List Str} {f self giv : Str} {p1 p2 p3 p4 : Pos} (hN : N = [self, giv])
    (F : FunD K x qual params [.Assign [.Attribute (.Name self p1) f p2] (.Name giv p3) p4] scope dvs kws g fd) (S : FnScope N N scope) (hb : BindK K fd N mkP)
    (hs : ∀ X : Cx, X.env.scope = scope → Vis X.env.scope self ∧ Vis X.env.scope giv := by intro X e; rw [e]; exact ⟨Or.inl rfl, Or.inl rfl⟩)
    (hd1 : (self == ("__debug__" : Str)) = false := by decide) (hd2 : (self == ("__classdict__" : Str)) = false := by decide) (hd3 : (giv == ("__debug__" : Str)) = false := by decide) (hd4 : (giv == ("__classdict__" : Str)) = false := by decide)
    (hsw : ∀ X : Cx, swapsWith (.Name giv p3) (some (.Attribute (.Name self p1) f p2)) p4.line X.env = pure false := by intro X; rfl) : IniF P w K mg base g f := by
  obtain ⟨oc, od, dV, kV, doc, pm, an, cdv, ct, osl, rfl, lk, hcd, _, _⟩ := F.ex
  subst hN
  refine ⟨_, [self, giv], fn_ofG lk hcd S (fun vs H Q E ⟨a, C, b, y, e, _⟩ => by rw [e]; rfl) (fun A outer s H vs Q E hr hgd ⟨a, C, b, y, e, T, at_, no, q⟩ => ?_), hb⟩
  subst e
  refine ⟨_, pss_one (t := fun D σ H => σ = [some (V.ref a), some y] ∧ H a = some (exo a C none) ∧ ∀ dx, H dx = none → dx ≠ a → D.nx σ (upd (upd H dx (exd dx [(f, y)])) a (exo a C (some dx)))) ⟨fun pins s1 σ H1 D I ⟨eσ, at1, nx⟩ => ?_⟩, rfl, at_, q⟩
  subst eσ
  obtain ⟨v1, v2⟩ := hs (cxOf (L2.CX P w) P w K mg base [self, giv] qual scope g cdv A outer s H E) rfl
  refine plainObj_wpAny_Assign_Attribute (thn ((pe_var (i := 1) (x := giv) rfl v2 hd3 hd4).run pins s1 _ H1 (fun v H2 => v = y ∧ H2 = H1) I ⟨y, rfl, rfl, rfl⟩) fun u s2 ⟨v, H2, I2, rv, ev, eH⟩ => ?_) (hsw _)
  subst ev
  subst eH
  refine thn ((pe_var (i := 0) (x := self) rfl v1 hd1 hd2).run pins s2 _ H2 (fun v H3 => v = .ref a ∧ H3 = H2) I2 ⟨.ref a, rfl, rfl, rfl⟩) fun u' s3 ⟨v', H3, I3, rv', ev', eH'⟩ => ?_
  subst ev'
  subst eH'
  obtain rfl : u' = Value.ref a := rv'
  exact first_store T I3 at1 no rv fun dx s' n ne J => ⟨_, _, J, nx dx n ne⟩
end
/-! ### raise C(e) -/
def tMkX (C : Addr) (f : Str) (ta : TE) : St → Hp → XK → Prop := fun σ H Q => ta σ H fun y0 H1 => tNil σ H1 fun ys H2 => ∃ y, y0 :: ys = [y] ∧ ∀ dx, H2 dx = none → Q (.ref C) (some dx) (upd H2 dx (.xd [(f, y)]))
/-- an own class of exceptions, its __init__ at g, which keeps its argument as f -/
structure XcM (K : PySem.W.Frag) (C : Addr) (b : Bs) (g : Addr) (f : Str) : Prop where
  o : Oex K C b
  ini : PySem.W.findIn K (.ref C) "__init__" = some (some (.ref g))
  ty : PySem.W.typeIn K (.ref g) = some (.type "function")
  no : PySem.W.findIn K (.ref C) f = some none
def xcmB (K : PySem.W.Frag) (C : Addr) (b : Bs) (g : Addr) (f : Str) : Bool := oexB K C b && (He.eqO (PySem.W.findIn K (.ref C) "__init__") (some (some (.ref g))) && (decide (PySem.W.typeIn K (.ref g) = some (.type "function")) && He.eqO (PySem.W.findIn K (.ref C) f) (some none)))
section
variable {X : Cx} {C g : Addr} {b : Bs} {f x : Str} {e : Expr} {ta : TE} {p pos : Pos}
theorem mkx_of (M : XcM X.K C b g f) (D : IniF X.prog X.w X.K X.mg X.base g f) (hr : Room 2 X.A) (hgd : X.A.guards = some []) (hm : X.mg x = some (.ref C)) (ha : PE X e ta) (hg : Gl X x := by rfl) (hdb : (x == ("__debug__" : Str)) = false := by decide)
    (hs : starEach [e] X.env = (false, eval e X.env) :: starEach [] X.env := by rfl) (hpl : (backTo pos (starEach ([] : List Expr) X.env)).any (·.1) = false := by rfl) : PMk X (.Call (.Name x p) [e] [] pos) (tMkX C f ta) := by
  intro pins s σ H Q I h
  obtain ⟨fd, ps, Fn, hb⟩ := D.ok
  refine wpAny_Call_Name_kw (ld_glob I hg hm ?_ hdb)
  refine PySem.W.callWith_K (h₀ := X.base) I.ok.mod.kin M.o.kC (thn ((pa_cons ha pa_nil hs).run pos pins s σ H (fun vs H1 => ∃ y, vs = [y] ∧ ∀ dx, H1 dx = none → Q (.ref C) (some dx) (upd H1 dx (.xd [(f, y)]))) I h) fun us s1 ⟨vs, H1, I1, r1, y, ev, q1⟩ => ⟨I1.kIn, ?_⟩) hs hpl
  subst ev
  show wpAny _ _ (call (.ref C) us) _ _ _
  obtain ⟨hp, gs, dr, tk, os⟩ := s1
  obtain ⟨nm, Nn, qn, bs, bm, hdct, sn, sub, ab, col, dd, k0, k1, k2, k3, k5, hC, hT⟩ := PySem.W.excInit_of I1.kIn M.o.init
  have hsz : hp.objs.size ≤ hp.objs.size + 1 := Nat.le_succ _
  have hn : H1 (hp.objs.size + 1) = none := I1.hok.fresh hsz
  have kk : ∀ c o, hp.get? c = some o → ((hp.push (PySem.W.kdv_tup us)).push (PySem.HandSPX.excO C hp.objs.size)).get? c = some o := fun c o e => Heap.get?_push_of_some _ (Heap.get?_push_of_some _ e)
  have hget : ((hp.push (PySem.W.kdv_tup us)).push (PySem.HandSPX.excO C hp.objs.size)).get? (hp.objs.size + 1) = some (PySem.HandSPX.excO C hp.objs.size) := by heap_get
  have I2 : Inv X pins σ (upd H1 (hp.objs.size + 1) (exo (hp.objs.size + 1) C none)) ⟨(hp.push (PySem.W.kdv_tup us)).push (PySem.HandSPX.excO C hp.objs.size), gs, dr, tk, os⟩ :=
    I1.laid (t' := tk) (a := hp.objs.size + 1) (o := exo (hp.objs.size + 1) C none) (h' := (hp.push (PySem.W.kdv_tup us)).push (PySem.HandSPX.excO C hp.objs.size)) kk hsz (exo_ok hget)
  have r2 : Vals [V.ref (hp.objs.size + 1), y] (Value.ref (hp.objs.size + 1) :: us) := .cons rfl r1
  have want : spIni X.K f [V.ref (hp.objs.size + 1), y] (upd H1 (hp.objs.size + 1) (exo (hp.objs.size + 1) C none)) (fun v H2 => v = .non ∧ ∃ d : Addr, H2 (hp.objs.size + 1) = some (exo (hp.objs.size + 1) C (some d)) ∧ H2 d = some (exd d [(f, y)]) ∧ H1 d = none ∧ Q (.ref C) (some d) (upd (L2.del H2 (hp.objs.size + 1)) d (.xd [(f, y)]))) (fun _ _ _ => False) := by
    refine ⟨_, C, b, y, rfl, M.o, upd_same, M.no, fun dx n ne => ⟨rfl, dx, upd_same, by rw [upd_ne ne, upd_same], ?_, ?_⟩⟩
    · rw [upd_ne ne] at n
      exact n
    · have n' : H1 dx = none := by rw [upd_ne ne] at n; exact n
      have := q1 dx n'
      refine cast (congrArg _ ?_) this
      funext c
      by_cases c1 : c = dx
      · rw [c1, upd_same, upd_same]
      · rw [upd_ne c1, upd_ne c1]
        by_cases c2 : c = hp.objs.size + 1
        · rw [c2, del_same, hn]
        · rw [del_ne c2, upd_ne c2, upd_ne c1, upd_ne c2]
  have ul : us.length = 1 := by rw [← r1.length]; rfl
  have hl : (Value.ref (hp.objs.size + 1) :: us).length = ps.length := by
    rw [← r2.length]
    exact Fn.len _ _ _ _ want
  refine wpAny_call (PySem.HandSPX.call_own b.facts hT hC (PySem.W.looks_findIn I1.kIn M.ini) (fun self => PySem.W.bind_fn I1.kIn self M.ty) (by rw [ul, sizeLine_eq]; decide)
    (codeAny_mono (Fn.run _ X.stack _ _ ⟨Value.ref (hp.objs.size + 1) :: us, []⟩ (Value.ref (hp.objs.size + 1) :: us) _ _ (fun _ _ _ => False) (hr.make C us []) hgd (I2.env0.make C us []) (hb _ (Value.ref (hp.objs.size + 1) :: us) I2.kIn hl) r2 want) fun r s' z => ?_))
  cases r with
  | error er => exact (passAt (W := fun _ _ _ _ => False) (fun _ _ ⟨_, _, _, _, _, _, _, _, _, _, _, _, _, _, _, _, z⟩ => z.elim) σ) pins _ _ er s' I2 z
  | ok fl =>
    cases fl with
    | ret u =>
      obtain ⟨v, H2, os2, bare2, un2, hok2, rv, ev, d, ea, ed, hd1, q2⟩ := z
      subst ev
      obtain ⟨h2, g2, d2, t2, os'⟩ := s'
      exact ⟨rv, mk_end (raises_own M.o.exC M.o.tyC) I1 hsz kk un2 hok2 os2 bare2 ea ed hd1 q2⟩
    | next => exact False.elim z
    | brk => exact False.elim z
    | cont => exact False.elim z
end
def dRaise (C : Addr) (f : Str) (a : DT) : DSt := fun D ρ => a ρ (fun y ρ1 => D.ex ⟨C, [(f, y)]⟩ ρ1) D.ex
section
variable {X : Cx} {Z : Fm} {W : WX} {C g : Addr} {b : Bs} {f x : Str} {e : Expr} {ma : DT} {p pos pos' : Pos}
theorem ds_raise (hc : X.calm = true) (tk : Takes X W) (M : XcM X.K C b g f) (D : IniF X.prog X.w X.K X.mg X.base g f) (hr : Room 2 X.A) (hgd : X.A.guards = some []) (hm : X.mg x = some (.ref C)) (ha : DE X Z W e ma) (hg : Gl X x := by rfl) (hdb : (x == ("__debug__" : Str)) = false := by decide)
    (hs : starEach [e] X.env = (false, eval e X.env) :: starEach [] X.env := by rfl) (hpl : (backTo pos (starEach ([] : List Expr) X.env)).any (·.1) = false := by rfl) : DS X Z W (.Raise (some (.Call (.Name x p) [e] [] pos)) none pos') (dRaise C f ma) :=
  PS.imp (ps_raise hc tk (mkx_of M D hr hgd hm ha hg hdb hs hpl)) fun D' σ H ⟨F, ρ, D, I, hm, r⟩ => ⟨F, ρ, _, _, I, hm, fun y ρ1 v F1 H1 I1 s1 r1 h1 => ⟨v, rfl, fun dx n => by
    have sf : Same F1 (upd F1 dx (.xd [(f, v)])) := same_new (I1.freeF n)
    exact r.ex σ ⟨C, [(f, y)]⟩ ρ1 _ _ (some dx) (I1.freshF n) (s1.trans sf) ⟨_, upd_same, .cons (r1.mono sf) .nil⟩ h1⟩, r.ex σ⟩
end
end DL

namespace DL
open PyProof.Rows hiding St
open PySem PySem.Spec L2
/-! ### a lambda without parameters that is handed to a def, which calls it -/
section
variable {X : Cx} {pins : List (Addr × Obj)} {σ : St} {H : Hp} {s : Shared} {params : Arguments} {body : Expr} {scope : Scope}
abbrev calY (X : Cx) (Ng : List Str) (qg : Str) (sg : Scope) (g : Addr) (cdg : Value) (s : Shared) (H : Hp) (E : XK) : Cx := cxOf (L2.CX X.prog X.w) X.prog X.w X.K X.mg X.base Ng qg sg g cdg X.A X.stack s H E
theorem takes_lam {A : Around} {outer : List Env} {E : XK} {f cd : Addr} : Takes (LamX.lamCx X A outer s H E scope f cd) (fun cls d _ H' => E cls d H') := takes_of (E := E) (E₁ := fun e' s'' => L2.CX X.prog X.w outer H s E e' s'') rfl rfl rfl rfl
theorem pass_lam {A : Around} {outer : List Env} {E : XK} {f cd : Addr} : Pass (LamX.lamCx X A outer s H E scope f cd) (fun cls d _ H' => E cls d H') := pass_of takes_lam
/-- the call of it, in the callee's frame -/
theorem pe_lam0 {Ng : List Str} {qg : Str} {sg : Scope} {g f cd : Addr} {cdg pm ct : Value} {k i : Nat} {a : Str} {pn : List (Addr × Obj)} {xe : Value → Shared → Prop} {W : WX} {Eg : XK} {t : XK → TE} {p1 p2 : Pos} (I : Inv X pins σ H s) (L : LamX.LamS X.env.scope scope)
    (obj : s.heap.get? f = some (lamO X params body scope pm cd ct)) (nf : H f = none) (ff : f ∉ frs X.stack) (bind : ∀ (q : Str) (cl : List (Str × Addr)) (pm cv ct : Value), bindArgs (PySem.W.kla_fn "<lambda>" q params body scope cl pm cv ct) ⟨[], []⟩ = pure [])
    (tk : Takes ((calY X Ng qg sg g cdg s H Eg).tr pn xe) W) (hr : Room (k + 1) (X.A.deeper (envOfC qg sg s.heap.objs.size g cdg))) (hgd : X.A.guards = some [])
    (hbody : ∀ (A : Around) (outer : List Env) (s' : Shared) (H' : Hp) (E : XK), Room k (A.deeper (LamX.lamEnv X scope s'.heap.objs.size f cd)) → (A.deeper (LamX.lamEnv X scope s'.heap.objs.size f cd)).guards = some [] → PE (LamX.lamCx X A outer s' H' E scope f cd) body (t E))
    (hN : Ng[i]? = some a) (hv : Vis sg a) (hd : (a == ("__debug__" : Str)) = false) (hcd : (a == ("__classdict__" : Str)) = false) :
    PE ((calY X Ng qg sg g cdg s H Eg).tr pn xe) (.Call (.Name a p1) [] [] p2) (fun τ H1 Q => τ[i]? = some (some (.ref f)) ∧ H1 cd = some (LamX.CodeO cd (lamQ X)) ∧ t (fun cls d H' => W cls d τ H') σ H1 Q) := by
  refine ⟨fun ps s1 τ H1 Q I1 ⟨at_, co, want⟩ => ?_⟩
  refine wpAny_Call_Name_kw (thn ((pe_var (pos := p1) hN hv hd hcd).run ps s1 τ H1 (fun v H2 => v = .ref f ∧ H2 = H1) I1 ⟨_, at_, rfl, rfl⟩) fun u s2 ⟨v, H2, I2, rv, ev, eH⟩ => ?_)
  subst ev
  subst eH
  obtain rfl : u = Value.ref f := rv
  have here : s2.heap.get? f = some (lamO X params body scope pm cd ct) := I2.base.keep f _ obj nf ff fun z => nomatch (show f ∈ ([] : List Addr) from z)
  have un : Un (frs X.stack) [] H H2 s.heap s2.heap := I2.base
  obtain ⟨⟨oc, vs, tt, c1, c2, c3⟩, _, _⟩ := I2.hok cd _ co
  refine PySem.W.callWith_F0 ⟨_, _, _, _, here⟩ (wpAny_call (codeAny_mono (?_ : codeAny (model X.prog X.w) (X.A.deeper (envOfC qg sg s.heap.objs.size g cdg)) (.call (.ref f) ⟨[], []⟩)
    (CR (L2.CX X.prog X.w) (envOfC qg sg s.heap.objs.size g cdg :: X.stack) X.prog X.w H2 s2 Q (fun cls d H' => W cls d τ H')) s2) fun r s' z => ?_))
  · refine PySem.W.kla_callFunE hr.depth here rfl L.co L.gen rfl ⟨cd, oc, vs, tt, rfl, c1, c2, c3⟩ ?_
    rw [show bindArgs _ _ = _ from bind _ _ _ _ _]
    refine wpAny_pure (wpAny_newFunctionEnv (fun y hy => (L.own y hy).2) (fun y hy => absurd hy (by simp)) (fun h1 ns sb => ⟨I2.nolimit.fresh _ sb, ?_⟩) L.kind)
    have kp : ∀ b o, s2.heap.get? b = some o → h1.get? b = some o := fun b o e => sb.extBut b o (Nat.ne_of_lt (Heap.lt_size e)) (Heap.get?_push_of_some _ e)
    have J : Inv (LamX.lamCx X (X.A.deeper (envOfC qg sg s.heap.objs.size g cdg)) (envOfC qg sg s.heap.objs.size g cdg :: X.stack) s2 H2 (fun cls d H' => W cls d τ H') scope f cd) [] σ H2 { s2 with heap := h1, toks := s2.toks + ([] : List (Str × Value)).length } := LamX.lam_start2 I L I2.env0 hr.hd un ns kp
    refine PySem.W.kla_codeExpr (wpAny_mono ((hbody _ _ s2 H2 _ (hr.deeper _) hgd).run [] _ σ H2 Q J want) (fun v s' got => ?_) fun e s' z => z)
    obtain ⟨w, H', J', rw', q⟩ := got
    exact ⟨w, H', J'.os, J'.bare, J'.base, J'.hok, rw', q⟩
  · cases r with
    | error e => exact passAt tk τ ps H2 s2 e s' I2 z
    | ok fl => cases fl <;> first | exact I2.after z | exact False.elim z
end
/-! ### over data -/
abbrev Fm.rooted (Z : Fm) (F H : Hp) : Fm0 := ⟨F, H, Z.T.map (·.1)⟩
/-- what the call of it promises; ρ: the slots where it was made -/
def actS (mb : DT) (ρ : En) : SpD := fun args Q U => args = [] ∧ mb (sealE ρ) (fun x _ => Q (.d x) []) (fun y _ => U y [])
/-- a slot that holds a function -/
abbrev fkO : Obj := { cls := .ref 0, data := .fields #[] }
abbrev fnSl (f : Addr) : Sl := .exc (f, fkO) 0 none []
theorem fnSl_rep {K : PySem.W.Frag} {F H : Hp} {f : Addr} : RepA K F H (.ref f) (fnSl f) := ⟨rfl, ⟨⟨rfl, rfl⟩, _, rfl⟩, rfl⟩
/-- its call, where it stands in the first slot -/
def dAct (f : Addr) (sa : SpD) : DT := fun ρ R U => ρ[0]? = some (fnSl f) ∧ sa [] (fun rv _ => match rv.toD with
  | some d => R d ρ
  | none => False) (fun y _ => U y ρ)
/-- a def that gets such a lambda: m is its body's reading, p what it promises, by what the call of the lambda promises -/
structure FdL (T : List (Addr × Str)) (P : Program) (w : World) (K : PySem.W.Frag) (mg : Str → Option Value) (base : Heap) (k : Nat) (g : Addr) (fd : FuncData) (a : Str) (p : SpD → SpD) : Prop where
  ex : ∃ (x qual : Str) (params : Arguments) (body : List Stmt) (scope : Scope) (Ng : List Str) (m : Addr → SpD → DSt), FunD K x qual params body scope [] [] g fd ∧ FnScope Ng [a] scope ∧ Ng[0]? = some a ∧ Vis scope a ∧ (a == ("__debug__" : Str)) = false ∧ (a == ("__classdict__" : Str)) = false ∧
    (∀ (cdv : Value) (A : Around) (outer : List Env) (s : Shared) (H : Hp) (E : XK) (Z : Fm0) (f : Addr) (sa : SpD), Room k (A.deeper (envOfC qual scope s.heap.objs.size g cdv)) → (A.deeper (envOfC qual scope s.heap.objs.size g cdv)).guards = some [] →
      (∀ (W : WX) (pn : List (Addr × Obj)) (xe : Value → Shared → Prop) (p1 p2 : Pos), Takes ((cxOf (L2.CX P w) P w K mg base Ng qual scope g cdv A outer s H E).tr pn xe) W → DE ((cxOf (L2.CX P w) P w K mg base Ng qual scope g cdv A outer s H E).tr pn xe) (Fm.of Z T) W (.Call (.Name a p1) [] [] p2) (dAct f sa)) →
      DSs (cxOf (L2.CX P w) P w K mg base Ng qual scope g cdv A outer s H E) (Fm.of Z T) (fun cls d _ H' => E cls d H') body (m f sa)) ∧
    (∀ f sa Q U, p sa [fnSl f] Q U → m f sa (ends [fnSl f] Q U) (entry Ng.length [fnSl f]))
  bk : BindK K fd [a] mkP
  kp : PySem.W.keepIn K (.ref g) = true
theorem FdL.le {T : List (Addr × Str)} {P : Program} {w : World} {K : PySem.W.Frag} {mg : Str → Option Value} {base : Heap} {j k : Nat} {g : Addr} {fd : FuncData} {a : Str} {p : SpD → SpD} (D : FdL T P w K mg base j g fd a p) (h : j ≤ k) : FdL T P w K mg base k g fd a p := by
  obtain ⟨x, qual, params, body, scope, Ng, m, h1, h2, h3, h4, h5, h6, h7, h8⟩ := D.ex
  exact ⟨⟨x, qual, params, body, scope, Ng, m, h1, h2, h3, h4, h5, h6, fun cdv A outer s H E Z f sa r => h7 cdv A outer s H E Z f sa (r.mono h), h8⟩, D.bk, D.kp⟩
/-- x(lambda: body) -/
def dLam (p : SpD → SpD) (mb : DT) : DT := fun ρ R U => ∀ f, p (actS mb ρ) [fnSl f] (fun rv _ => match rv.toD with
  | some d => R d ρ
  | none => False) (fun y _ => U y ρ)
section
variable {X : Cx} {Z : Fm} {W : WX} {k : Nat} {g c P : Addr} {fd : FuncData} {a x : Str} {pr : SpD → SpD} {params : Arguments} {body : Expr} {scope : Scope} {mb : DT} {p lpos pos : Pos}
theorem d_lam (hr : Room (k + 2) X.A) (hgd : X.A.guards = some []) (D : FdL Z.T X.prog X.w X.K X.mg X.base (k + 1) g fd a pr) (hm : X.mg x = some (.ref g)) (L : LamX.LamS X.env.scope scope) (mem : (P, lamQ X) ∈ Z.T) (uniq : ∀ t ∈ Z.T, t.1 = P → t.2 = lamQ X) (TB : LamX.TabB X.base X.mg c P) (code : X.env.code = .ref c)
    (dflt : defaultsOf params X.env = ([], [])) (bind : ∀ (q : Str) (cl : List (Str × Addr)) (pm cv ct : Value), bindArgs (PySem.W.kla_fn "<lambda>" q params body scope cl pm cv ct) ⟨[], []⟩ = pure []) (hx : Pass X W)
    (hb : ∀ (A : Around) (outer : List Env) (s : Shared) (H : Hp) (E : XK) (f cd : Addr) (F1 H1 : Hp), Room k (A.deeper (LamX.lamEnv X scope s.heap.objs.size f cd)) → (A.deeper (LamX.lamEnv X scope s.heap.objs.size f cd)).guards = some [] → DE (LamX.lamCx X A outer s H E scope f cd) (Z.anew F1 H1) (fun cls d _ H' => E cls d H') body mb)
    (hg : Gl X x := by rfl) (hdb : (x == ("__debug__" : Str)) = false := by decide) : DE X Z W (.Call (.Name x p) [.Lambda params body scope lpos] [] pos) (dLam pr mb) := by
  refine ⟨fun pins s σ H Q I ⟨F, ρ, R, U, ID, h, q, u⟩ => ?_⟩
  obtain ⟨xg, qual, pg, bg, sg, Ng, m, Fn, S, hN, hv, hd, hcd, der, math⟩ := D.ex
  refine wpAny_Call_Name_kw (ld_glob I hg hm ?_ hdb)
  refine PySem.W.callWith_K (h₀ := X.base) I.ok.mod.kin D.kp ?_ (by rfl) (by rfl)
  show wpAny _ _ (spliced ((false, eval (.Lambda params body scope lpos) X.env) :: backTo pos (starEach [] X.env))) _ _ s
  refine Calls.spliced_cons (lam_mk I TB code mem uniq ID.tab dflt (L.has I.ok) fun f cd pm ct H1 s1 I1 lh tabs1 it1 obf ff => Calls.spliced_nil ⟨I1.kIn, ?_⟩)
  have J0 := ID.lam mem lh tabs1
  obtain ⟨nf, nl, nfs, _⟩ := ff
  have fst : f ∉ frs X.stack := fun z => (List.mem_cons.mp (I1.stkSub f z)).elim nl nfs
  have codeH : H1 cd = some (LamX.CodeO cd (lamQ X)) := by
    obtain ⟨ps, e1, e2⟩ := it1
    obtain ⟨ps', e3, _, e4⟩ := tabs1 _ mem
    rw [e1] at e3
    obtain rfl : ps = ps' := by injection e3 with e3; injection e3
    obtain ⟨c0, e5, e6⟩ := e4 lpos _ e2
    obtain rfl : cd = c0 := by injection e5
    exact e6
  obtain ⟨oc, od, dV, kV, doc, pm', an, cdv, ctv, osl, rfl, lk, hcode, _, _⟩ := Fn.ex
  have rc : codeAny (model X.prog X.w) X.A (.call (.ref g) ⟨[.ref f], []⟩) (CR (L2.CX X.prog X.w) X.stack X.prog X.w H1 s1 Q (fun cls d H' => W cls d σ H')) s1 := by
    refine LamX.run_ofS (CX := L2.CX X.prog X.w) (N := Ng) (ps := [a]) (us := [.ref f]) (vs := [.ref f]) lk hcode S hr I1.env0 (D.bk s1 [.ref f] I1.kIn rfl) (.cons rfl .nil) rfl fun hr' => ?_
    have le1 : ([V.ref f] : List V).length ≤ Ng.length := by
      have := (List.getElem?_eq_some_iff.mp hN).1
      show 1 ≤ _
      omega
    have E0 : DI X.K (Z.anew F H1) F H1 (L2.start Ng [.ref f]) (entry Ng.length [fnSl f]) := di_entry (args := [fnSl f]) J0.fh (.cons fnSl_rep .nil) List.nodup_nil ⟨J0.tab, J0.tabF⟩ le1
    refine ⟨_, der cdv X.A X.stack s1 H1 (fun cls d H' => W cls d σ H') (Z.rooted F H1) f (actS mb ρ) hr' hgd (fun W' pn xe p1 p2 tk => ?_), F, entry Ng.length [fnSl f], _, E0, math f _ _ _ (h f), ?_⟩
    · -- the lambda's call
      refine PE.imp (pe_lam0 (i := 0) (t := fun E τ HZ Q => ∃ F1, tE X.K (Z.anew F1 HZ) (fun cls d _ H' => E cls d H') mb τ HZ Q) I1 L obf nf fst bind tk hr' hgd (fun A outer s' H' E r gd => ⟨fun pins2 s2 σ2 H2 Q2 I2 ⟨F1, h2⟩ => (hb A outer s' H' E f cd F1 H2 r gd).run pins2 s2 σ2 H2 Q2 I2 h2⟩) hN hv hd hcd) ?_
      rintro τ HZ Q1 ⟨F1, ρ1, R1, U1, IZ, h1, q1, u1⟩
      obtain ⟨at0, _, h1⟩ := h1
      have A1 : Aft Z.T X.K F H1 [] F1 HZ := IZ.aft
      have K1 := J0.past A1
      refine ⟨?_, ?_, F1, F1, sealE ρ, _, _, K1.anew, h1, fun d ρ' v F' H' J' sf rv hr => ?_, fun y ρ' F' H' d J' sf xa hu => ?_⟩
      · exact (IZ.slotX at0).1
      · rcases A1.keep cd _ codeH with z | ⟨t, ht, e⟩ | z
        · cases z
        · obtain ⟨ps, e1, _⟩ := tabs1 t ht
          rw [e, codeH] at e1
          exact absurd (Option.some.inj e1) (LamX.codeO_ne ps)
        · exact z
      · have J2 : DI X.K (Z.anew F H1) F' H' τ ρ1 := IZ.past (Z := Z.anew F H1) J'.aft
        exact q1 d ρ1 v F' H' J2 sf rv hr
      · have J2 : DI X.K (Z.anew F H1) F' H' τ ρ1 := IZ.past (Z := Z.anew F H1) J'.aft
        exact u1 y ρ1 F' H' d J2 sf xa hu
    · have fin : ∀ {ρ' : En} {σ' : St} {F' H' : Hp} {k : List MO → Prop}, DI X.K (Z.anew F H1) F' H' σ' ρ' → outW [fnSl f] ρ' k → k [] := fun {ρ' σ' F' H' k} J z => by
        obtain ⟨os, hk, O⟩ := outW_get (k := k) (fun i b p o e => (J.slotO e).2) z
        cases O
        exact hk
      have told : ∀ {rv : Rv} {v : V} {ρ' : En} {σ' : St} {F' H' : Hp}, DI X.K (Z.anew F H1) F' H' σ' ρ' → RvAt X.K (Z.anew F H1) F' H' ρ' v rv → (match rv.toD with
        | some d => R d ρ
        | none => False) → Q v H' := fun {rv v ρ' σ' F' H'} J rv' hr => by
        have J2 := J0.past J.aft
        cases rv with
        | d d => exact q d ρ v F' H' J2 J.f0 rv' hr
        | o o =>
          obtain ⟨p', rfl, N⟩ := rv'
          split at hr
          · rename_i d ed
            have N2 : NewAt X.K Z F' H' (putOuts [] [] ρ) p' o := new_after (args := []) J0 J.aft N.fr N.h0 N.at_
            obtain ⟨ho, I3, s3, r⟩ := J2.freeze N2 ed
            exact q d ρ _ _ H' I3 (J.f0.trans s3) r hr
          · exact hr.elim
      exact { nx := fun ρ' σ' F' H' J s z => told (rv := .d .non) J .non (fin J z)
              rt := fun rv ρ' v σ' F' H' J s rv' z => told J rv' (fin J z)
              bk := fun ρ' σ' F' H' J s z => z.elim
              ct := fun ρ' σ' F' H' J s z => z.elim
              ex := fun σ' y ρ' F' H' d J s xa z => u y ρ F' H' d (J0.past J.aft) J.f0 xa (fin J z) }
  refine wpAny_call (codeAny_mono rc fun r s2 z => ?_)
  cases r with
  | error e => exact hx σ pins H1 s1 e s2 I1 z
  | ok fl => cases fl <;> first | exact I1.after z | exact False.elim z
end
end DL

namespace DL
open PyProof.Rows hiding St
open PySem PySem.Spec L2
/-! ### facts of exceptions, as tests of the written part -/
theorem roomM {k : Nat} {A : Around} {h : Option Value} (r : Room k A) : L2H.RoomH k (A.mark h) := ⟨r.dp, r.un⟩
theorem xcmB_ok {K : PySem.W.Frag} {C : Addr} {b : Bs} {g : Addr} {f : Str} (h : xcmB K C b g f = true) : XcM K C b g f := by
  unfold xcmB at h
  simp only [Bool.and_eq_true] at h
  obtain ⟨h1, h2, h3, h4⟩ := h
  exact ⟨oexB_ok h1, He.eqO_ok h2, of_decide_eq_true h3, He.eqO_ok h4⟩
def xiB (K : PySem.W.Frag) (g : List (Addr × Bool)) (u : Value) : Bool := g.all fun z => xcB K z.1 && oEqB (PySem.W.kitOne K (.ref z.1) u) (some z.2)
theorem xiB_ok {K : PySem.W.Frag} {g : List (Addr × Bool)} {u : Value} (h : xiB K g u = true) : ∀ z ∈ g, L2.ExcC K z.1 ∧ PySem.W.kitOne K (.ref z.1) u = some z.2 := fun z hz => by
  have := List.all_eq_true.mp h z hz
  rw [Bool.and_eq_true] at this
  exact ⟨xcB_ok this.1, oEqB_ok this.2⟩
def xfsB (K : PySem.W.Frag) (Cs : List Addr) (f : Str) : Bool := Cs.all fun C => xfB K C && He.eqO (PySem.W.findIn K (.ref C) f) (some none)
theorem xfsB_ok {K : PySem.W.Frag} {Cs : List Addr} {f : Str} (h : xfsB K Cs f = true) : ∀ C ∈ Cs, XfC K C ∧ PySem.W.findIn K (.ref C) f = some none := fun z hz => by
  have := List.all_eq_true.mp h z hz
  rw [Bool.and_eq_true] at this
  exact ⟨xfB_ok this.1, He.eqO_ok this.2⟩
def syB (K : PySem.W.Frag) (cs : List Value) (g : List (Addr × Bool)) : Bool := g.all fun z => oEqB (PySem.W.exmAny K (.ref z.1) cs) (some z.2)
theorem syB_ok {K : PySem.W.Frag} {cs : List Value} {g : List (Addr × Bool)} (h : syB K cs g = true) : Says (fun cls => PySem.W.exmAny K cls cs) g := fun z hz => oEqB_ok (List.all_eq_true.mp h z hz)
/-! ### promises that tell errors -/
def SpEO {α : Type} (A : α → List Sl) (C : α → Prop) (R : α → Dt ⊕ Xn) (O : α → List MO) : SpD := fun args Q U => ∃ x, args = A x ∧ C x ∧ match R x with
  | .inl d => Q (.d d) (O x)
  | .inr y => U y (O x)
theorem SpEO.mono {α : Type} {A : α → List Sl} {C : α → Prop} {R : α → Dt ⊕ Xn} {O : α → List MO} : Mono (SpEO A C R O) := fun args Q Q' U U' hQ hU ⟨x, e, c, h⟩ => ⟨x, e, c, by
  cases q : R x with
  | inl d => rw [q] at h; exact hQ _ _ h
  | inr y => rw [q] at h; exact hU _ _ h⟩
theorem SpEO.len {α : Type} {A : α → List Sl} {C : α → Prop} {R : α → Dt ⊕ Xn} {O : α → List MO} {n : Nat} (h : ∀ x, (A x).length = n) : ∀ args Q U, SpEO A C R O args Q U → args.length = n := fun args Q U ⟨x, e, _⟩ => by rw [e]; exact h x
def SpE {α : Type} (A : α → List Sl) (C : α → Prop) (R : α → Dt ⊕ Xn) : SpD := SpEO A C R fun _ => []
theorem SpE.mono {α : Type} {A : α → List Sl} {C : α → Prop} {R : α → Dt ⊕ Xn} : Mono (SpE A C R) := SpEO.mono
theorem SpE.len {α : Type} {A : α → List Sl} {C : α → Prop} {R : α → Dt ⊕ Xn} {n : Nat} (h : ∀ x, (A x).length = n) : ∀ args Q U, SpE A C R args Q U → args.length = n := SpEO.len h
end DL

namespace DL
open PyProof.Rows hiding St
open PySem PySem.Spec L2
/-! ### repr of any value, a dict with flat values among them -/
def keyPy : Key → PyData
  | .inl i => .int i
  | .inr x => .str x
def flatD : Dt → Bool
  | .non => true
  | .bl _ => true
  | .int _ => true
  | .str _ => true
  | _ => false
def pyX : Dt → PyData
  | .dct kvs => .dict (kvs.map fun p => (keyPy p.1, toPy p.2))
  | d => toPy d
def ShX : Dt → Prop
  | .dct kvs => ∀ p ∈ kvs, flatD p.2 = true
  | d => Sh 8 d
theorem key_reads {h : Heap} {k : Key} {v : Value} (e : L2.keyIs k v = true) : Reads h v (keyPy k) [] := by
  rcases L2.keyIs_shape e with ⟨i, t, rfl, rfl⟩ | ⟨x, t, rfl, rfl⟩
  · exact .int i t
  · exact .str x t
theorem flat_reads {K : PySem.W.Frag} {F : Hp} {h : Heap} {v : V} {u : Value} {d : Dt} (r : Rep K F v d) (rv : RelV v u) (f : flatD d = true) : Reads h u (toPy d) [] := by
  cases r with
  | non => cases rv; rw [toPy]; exact .none
  | bl b => cases rv; rw [toPy]; exact .bool b
  | int i => obtain ⟨t, rfl⟩ := rv; rw [toPy]; exact .int i t
  | str l _ => obtain ⟨t, rfl⟩ := rv; rw [toPy]; exact .str _ t
  | _ => cases f
theorem pairs_reads {K : PySem.W.Frag} {F : Hp} {h : Heap} {P : Program} {w : World} : ∀ {es : List DictEntry} {ws : List (Key × Value)} {vs : List (Key × V)} {kvs : List (Key × Dt)}, Pairs (mixKind P w) es ws → KV vs ws → RepK K F vs kvs → (∀ p ∈ kvs, flatD p.2 = true) →
    ReadsAll h (es.map (·.key)) (kvs.map fun p => keyPy p.1) [] ∧ ReadsAll h (es.map (·.val)) (kvs.map fun p => toPy p.2) []
  | _, _, _, _, .nil, .nil, .nil, _ => ⟨.nil, .nil⟩
  | _, _, _, _, .cons h1 h2 t, .cons ⟨e, rv⟩ t2, .cons r t3, f => by
    obtain ⟨i1, i2⟩ := pairs_reads (h := h) t t2 t3 fun p hp => f p (List.mem_cons_of_mem _ hp)
    subst e
    have k1 := key_reads (h := h) h1
    have k2 := flat_reads (h := h) r rv (f _ List.mem_cons_self)
    rw [← h2] at k2
    exact ⟨ReadsAll.cons (as := []) (bs := []) k1 i1, ReadsAll.cons (as := []) (bs := []) k2 i2⟩
def rReprX (K : PySem.W.Frag) : List V → Hp → VK → Prop := fun xs H Q => ∃ (F : Hp) (v : V) (d : Dt), xs = [v] ∧ Same F H ∧ Rep K F v d ∧ ShX d ∧ (pyX d).showable = true ∧ (pyX d).shown.length ≤ sizeLine ∧ Q (.str (pyX d).shown) H
theorem depth_flat : ∀ {kvs : List (Key × Dt)}, (∀ p ∈ kvs, flatD p.2 = true) → PyData.depthKv (kvs.map fun p => (keyPy p.1, toPy p.2)) = 0
  | [], _ => by rw [List.map_nil, PyData.depthKv]
  | p :: r, h => by
    have i := depth_flat fun q hq => h q (List.mem_cons_of_mem _ hq)
    have k0 : PyData.depth (keyPy p.1) = 0 := by
      obtain ⟨k, d⟩ := p
      cases k <;> simp [keyPy, PyData.depth]
    have d0 : PyData.depth (toPy p.2) = 0 := by
      have f := h p List.mem_cons_self
      obtain ⟨k, d⟩ := p
      cases d <;> first | (cases f; done) | (simp only [toPy, PyData.depth])
    rw [List.map_cons, PyData.depthKv, k0, d0, i]
    rfl
section
variable {X : Cx}
theorem cr_reprX (hgd : X.A.guards = some []) (hu : X.A.units + 64 < cLine) : CallR X (.builtin "repr") (rReprX X.K) := by
  intro pins s0 σ H xs us Q I r ⟨F, v, d, e, sf, rp, sh, hs, hz, q⟩
  by_cases hd : ∃ kvs, d = .dct kvs
  · obtain ⟨kvs, rfl⟩ := hd
    subst e
    obtain ⟨u, rfl, ru⟩ := vals1 r
    cases rp with
    | @dct a vs _ ha rk =>
      obtain rfl : u = Value.ref a := ru
      obtain ⟨_, nsys, ws, kv, o, es, ep, ho, ex, hdat, _, prs, _⟩ := (show ObjOk X.prog X.w H s0.heap a (.dK vs) from I.hok a _ (sf _ _ ha))
      obtain ⟨r1, r2⟩ := pairs_reads (h := s0.heap) prs kv rk sh
      have rd : Reads s0.heap (.ref a) (pyX (.dct kvs)) (a :: [] ++ []) := by
        show Reads s0.heap (.ref a) (.dict _) _
        refine .dict ho ex.1 hdat ?_ ?_
        · rw [List.map_map]; exact r1
        · rw [List.map_map]; exact r2
      refine repr_of_reads' rd hs (fun _ z => ?_) hgd ?_ (fun _ _ e => e) (fun h' t tk keep => ⟨.str _, H, I.kept keep, ⟨t, rfl⟩, q⟩) hz
      · obtain rfl : sysModules = a := by simpa using z
        simp at nsys
      · have z : PyData.depth (pyX (.dct kvs)) = 1 := by
          show PyData.depth (.dict _) = 1
          rw [PyData.depth, depth_flat sh]
        omega
  · refine cr_repr hgd hu pins s0 σ H xs us Q I r ⟨v, toPy d, e, ?_⟩
    have e1 : pyX d = toPy d := by
      cases d with
      | dct kvs => exact absurd ⟨kvs, rfl⟩ hd
      | _ => rfl
    have e2 : Sh 8 d := by
      cases d with
      | dct kvs => exact absurd ⟨kvs, rfl⟩ hd
      | _ => exact sh
    rw [e1] at hs hz q
    exact ⟨Dp.of sf 8 rp e2, (plain_of 8 e2).1, hs, (plain_of 8 e2).2, hz, q⟩
def oReprX : O1 := fun x k => (ShX x ∧ (pyX x).showable = true ∧ Fits (pyX x).shown.length) ∧ k (.str (pyX x).shown.cps.toList)
theorem v_reprX {K : PySem.W.Frag} : VL K (rReprX K) (one oReprX) := v1L fun Z F H σ ρ x dx k Q I rx ⟨⟨h1, h2, h3⟩, h⟩ q =>
  ⟨F, x, dx, rfl, I.fh, rx, h1, h2, h3.line, rt_here I (show Rep K F (.str (pyX dx).shown) (.str (pyX dx).shown.cps.toList) from .str _ (by
    have := h3.line
    exact this)) (q _ h)⟩
end
end DL

/-! D49: a tuple once: t * 1 -/
namespace L2
open PySem PySem.Spec PyProof.Rows
section
variable {X : Cx}
end
end L2
namespace DL
open PyProof.Rows hiding St
open PySem PySem.Spec L2
end DL

/-! D50: list.count and list.index of flat values -/
namespace L2
open PySem PySem.Spec PyProof.Rows
section
variable {X : Cx}
end
end L2
namespace DL
open PyProof.Rows hiding St
open PySem PySem.Spec L2
section
variable {X : Cx} {Z : Fm} {W : WX} {a o : Expr} {ma mo : DT} {apos pos : Pos}
end
end DL
namespace DL
open PyProof.Rows hiding St
open PySem PySem.Spec L2
section
variable {X : Cx} {Z : Fm} {W : WX} {e : Expr} {me : DT} {p : Pos}
end
end DL

namespace DL
open PyProof.Rows hiding St
open PySem PySem.Spec L2
/-! ### x == () -/
def rEqU (K : PySem.W.Frag) (neg : Bool) : R2 := fun x y H Q => ∃ (a b : Addr) (vs : List V), x = .ref a ∧ y = .ref b ∧ SqT K H a vs ∧ SqT K H b [] ∧ Q (.bl (xor neg vs.isEmpty)) H
section
variable {X : Cx}
theorem opEqU0 (hu : X.A.units + 64 < cLine) : OpR X (compareOp .Eq) (rEqU X.K false) := by
  intro pins s σ H x y v u Q I rx ry h
  obtain ⟨a, b, vs, rfl, rfl, ha, hb, q⟩ := h
  obtain rfl : v = Value.ref a := rx
  obtain rfl : u = Value.ref b := ry
  obtain ⟨its, rv, ⟨o, e, hc, n, hd⟩, _⟩ := I.tuple ha
  obtain ⟨its2, rv2, ⟨o2, e2, hc2, n2, hd2⟩, _⟩ := I.tuple hb
  cases rv2
  rw [Bool.false_xor] at q
  refine SeqAt.eq_tupleAt (e := fun _ => true) ⟨o, e, hc, n, hd⟩ ⟨o2, e2, hc2, n2, hd2⟩ (by omega) (fun j h1 h2 => absurd h2 (Nat.not_lt_zero _)) ?_
  have ez : ((List.range (min its.toArray.size (#[] : Array Value).size)).all (fun _ => true) && its.toArray.size == (#[] : Array Value).size) = vs.isEmpty := by
    cases rv <;> simp
  rw [ez]
  exact ⟨.bl _, H, I, rfl, q⟩
theorem opEqU (hu : X.A.units + 64 < cLine) : OpR X (compareOp .Eq) (fun x y H Q => rEqU X.K false x y H Q ∨ rEqP X.K x y H Q) := OpR.or (opEqU0 hu) (opEqP hu)
end
/-- == with () -/
def oEqU : O2 := fun x y k => match x, y with
  | .tup ds, .tup [] => k (.bl ds.isEmpty)
  | x, y => oEq x y k
theorem v_eqU {K : PySem.W.Frag} : V2 K (fun x y H Q => rEqU K false x y H Q ∨ rEqP K x y H Q) oEqU := fun Z F H σ ρ x y dx dy k Q I rx ry h q => by
  unfold oEqU at h
  split at h
  · rename_i ds
    cases rx with
    | tup ha ra =>
      cases ry with
      | tup hb rb =>
        cases rb
        refine .inl ⟨_, _, _, rfl, rfl, sameT I.fh ha, sameT I.fh hb, ?_⟩
        rw [Bool.false_xor]
        cases ra with
        | nil => exact rt_here I (.bl _) (q _ h)
        | cons _ _ => exact rt_here I (.bl _) (q _ h)
  · exact .inr (v_eq Z F H σ ρ x y _ _ k Q I rx ry h q)
/-! ### str(x) of any value -/
def rStrX (K : PySem.W.Frag) : List V → Hp → VK → Prop := fun xs H Q => (∃ z, xs = [.str z] ∧ Q (.str z) H) ∨ ∃ (F : Hp) (v : V) (d : Dt), xs = [v] ∧ (∀ l, d ≠ .str l) ∧ Same F H ∧ Rep K F v d ∧ ShX d ∧ (pyX d).showable = true ∧ (pyX d).shown.length ≤ sizeLine ∧ Q (.str (pyX d).shown) H
section
variable {X : Cx}
theorem cr_strX (hgd : X.A.guards = some []) (hu : X.A.units + 64 < cLine) : CallR X (.type "str") (rStrX X.K) := by
  intro pins s0 σ H xs us Q I r h
  rcases h with ⟨z, e, q⟩ | ⟨F, v, d, e, nst, sf, rp, sh, hs, hz, q⟩
  · subst e
    obtain ⟨u, rfl, ru⟩ := vals1 r
    obtain ⟨t, rfl⟩ := ru
    exact P.str_of_str ⟨.str _, H, I, ⟨_, rfl⟩, q⟩
  by_cases hd : ∃ kvs, d = .dct kvs
  · obtain ⟨kvs, rfl⟩ := hd
    subst e
    obtain ⟨u, rfl, ru⟩ := vals1 r
    cases rp with
    | @dct a vs _ ha rk =>
      obtain rfl : u = Value.ref a := ru
      obtain ⟨_, nsys, ws, kv, o, es, ep, ho, ex, hdat, _, prs, _⟩ := (show ObjOk X.prog X.w H s0.heap a (.dK vs) from I.hok a _ (sf _ _ ha))
      obtain ⟨r1, r2⟩ := pairs_reads (h := s0.heap) prs kv rk sh
      have rd : Reads s0.heap (.ref a) (pyX (.dct kvs)) (a :: [] ++ []) := by
        show Reads s0.heap (.ref a) (.dict _) _
        refine .dict ho ex.1 hdat ?_ ?_
        · rw [List.map_map]; exact r1
        · rw [List.map_map]; exact r2
      refine str_of_reads rd hs (fun _ z => ?_) hgd ?_ (fun _ _ e => e) (fun h' t tk keep => ⟨.str _, H, I.kept keep, ⟨t, rfl⟩, q⟩) hz
      · obtain rfl : sysModules = a := by simpa using z
        simp at nsys
      · have z : PyData.depth (pyX (.dct kvs)) = 1 := by
          show PyData.depth (.dict _) = 1
          rw [PyData.depth, depth_flat sh]
        omega
  · have e1 : pyX d = toPy d := by
      cases d with
      | dct kvs => exact absurd ⟨kvs, rfl⟩ hd
      | _ => rfl
    have e2 : Sh 8 d := by
      cases d with
      | dct kvs => exact absurd ⟨kvs, rfl⟩ hd
      | _ => exact sh
    rw [e1] at hs hz q
    subst e
    obtain ⟨u, rfl, ru⟩ := vals1 r
    have h0 := Dp.of sf 8 rp e2
    have hp := (plain_of 8 e2).1
    have hk := (plain_of 8 e2).2
    have h1 := h0
    generalize epy : toPy d = py at *
    cases h0 with
    | non => obtain rfl : u = .none := ru; exact P.str_of_none ⟨.str _, H, I.tok _, ⟨_, rfl⟩, q⟩
    | bl b => obtain rfl : u = .bool b := ru; exact P.str_of_bool ⟨.str _, H, I.tok _, ⟨_, rfl⟩, by cases b <;> exact q⟩
    | int i =>
      obtain ⟨t, rfl⟩ := ru
      have hs' : decide (i.natAbs.log2 < 1920) = true := hs
      exact P.str_of_int (of_decide_eq_true hs') ⟨.str _, H, I.tok _, ⟨_, rfl⟩, q⟩
    | str z =>
      cases d <;> first | (simp [toPy] at epy; done) | exact absurd rfl (nst _)
    | lst sq al =>
      obtain ⟨as, rd⟩ := Dp.reads I _ _ u h1 ru
      cases ru
      exact str_of_reads rd hs (PyData.noDict_hsm (plain_no _ hp)) hgd (by omega) (fun _ _ e => e) (fun h' t tk keep => ⟨.str _, H, I.kept keep, ⟨t, rfl⟩, q⟩) hz
    | tup sq al =>
      obtain ⟨as, rd⟩ := Dp.reads I _ _ u h1 ru
      cases ru
      exact str_of_reads rd hs (PyData.noDict_hsm (plain_no _ hp)) hgd (by omega) (fun _ _ e => e) (fun h' t tk keep => ⟨.str _, H, I.kept keep, ⟨t, rfl⟩, q⟩) hz
/-- str of any value -/
def oStrX : O1 := fun x k => match x with
  | .str l => k (.str l)
  | x => (ShX x ∧ (pyX x).showable = true ∧ Fits (pyX x).shown.length) ∧ k (.str (pyX x).shown.cps.toList)
theorem v_strX {K : PySem.W.Frag} : VL K (rStrX K) (one oStrX) := v1L fun Z F H σ ρ x dx k Q I rx h q => by
  by_cases hd : ∃ l, dx = .str l
  · obtain ⟨l, rfl⟩ := hd
    cases rx with
    | str _ hl => exact .inl ⟨_, rfl, rt_here I (.str l hl) (q _ h)⟩
  · have h2 : (ShX dx ∧ (pyX dx).showable = true ∧ Fits (pyX dx).shown.length) ∧ k (.str (pyX dx).shown.cps.toList) := by
      cases dx with
      | str l => exact absurd ⟨l, rfl⟩ hd
      | _ => exact h
    obtain ⟨⟨h1, h2, h3⟩, h⟩ := h2
    exact .inr ⟨F, x, dx, rfl, fun l e => hd ⟨l, e⟩, I.fh, rx, h1, h2, h3.line, rt_here I (show Rep K F (.str (pyX dx).shown) (.str (pyX dx).shown.cps.toList) from .str _ (by
      have := h3.line
      exact this)) (q _ h)⟩
end
end DL

namespace DL
open PyProof.Rows hiding St
open PySem PySem.Spec L2
/-! ### sorted(set(texts)) of up to 2000 texts -/
theorem sorted_textsW {X : Cx} {pins : List (Addr × Obj)} {σ : St} {H : Hp} {s : Shared} {v : Value} {Q : VK} (good : List Str → Prop) (tk : ∀ g, good g → g.length < 2000)
    (got : ∀ (Q' : List Value → Shared → Prop), (∀ t vs g, Inv X pins σ H t → StrsAre vs g → good g → Q' vs t) → wpAny (model X.prog X.w) X.A.in1 (collect v) Q' X.xe s)
    (fin : ∀ g ys p, good g → ys.Perm g → sortedS ys = true → H p = none → Q (.ref p) (upd H p (.lst (ys.map V.str)))) :
    wpAny (model X.prog X.w) X.A (call (.builtin "sorted") [v]) (EP X pins σ Q) X.xe s := by
  refine Calls.call_function_entry kind_sorted plain_sorted entry_sorted (args_sorted1 v) ?_
  unfold Builtin.«sorted»
  refine wpAny_bind (m := checkCount "sorted" 1 1 _) (wpAny_pure (wpAny_bind (got _ fun t vs g J are ok => ?_)))
  have few : vs.length < 2000 := by
    rw [StrsAre.len_eq are]
    exact tk g ok
  have line : vs.length ≤ sizeLine := by rw [sizeLine_eq]; omega
  let b := t.heap.objs.size
  have fresh : (t.heap.push (seqObj "list" vs.toArray 0)).get? b = some (seqObj "list" vs.toArray 0) := Heap.get?_push_size _ rfl
  refine wpAny_bind (wpAny_newList ?_ line)
  let t1 : Shared := { t with heap := t.heap.push (seqObj "list" vs.toArray 0) }
  show wpAny _ _ _ _ _ t1
  refine wpAny_bind (wpAny_holding (wpAny_call_entry slot_list_sort (s := t1) ⟨_, fresh, rfl⟩ entry_list_sort ?_ (args_list_sort (.ref b))))
  refine list_sort_treeKAny strKind_oneLt (s := t1) fresh are.keysOf (fun x y r e => keyKind_strs (e ▸ are)) line fun o perm srt => ⟨_, rfl, ?_⟩
  obtain ⟨ys, y1, y2, y3⟩ := sorted_out_str are perm srt
  obtain ⟨c, stands⟩ := sortedHeap_at (vs := vs) (out := (arrOf o).map (·.2)) fresh
  have ysl : (ys.map V.str).length ≤ sizeLine := by
    rw [List.length_map, y2.length_eq, ← StrsAre.len_eq are]
    exact line
  have old : ∀ a u, t.heap.get? a = some u → (sortedHeap (t.heap.push (seqObj "list" vs.toArray 0)) b vs ((arrOf o).map (·.2))).get? a = some u := fun a u e => by
    have lt : a < b := Heap.lt_size e
    rw [sortedHeap_old (Nat.ne_of_lt lt) (by rw [size_push']; exact Nat.lt_succ_of_lt lt)]
    exact Heap.get?_push_of_some _ e
  have made : ObjOk X.prog X.w (upd H b (.lst (ys.map V.str))) (sortedHeap (t.heap.push (seqObj "list" vs.toArray 0)) b vs ((arrOf o).map (·.2))) b (.lst (ys.map V.str)) :=
    ⟨ysl, _, c, vals_of_strs y1, by rw [Array.toArray_toList]; exact stands⟩
  exact wpAny_pure ⟨_, rfl, .ref b, _, J.laid (t' := t.toks) old (Nat.le_refl b) made, rfl, fin g ys b ok y2 y3 (J.hok.fresh (Nat.le_refl b))⟩

section
variable {X : Cx}
def rSetTxW (P : Program) (w : World) (K : PySem.W.Frag) : List V → Hp → VK → Prop := fun xs H Q => ∃ (l : Addr) (g : List Str), xs = [.ref l] ∧ (SqL K H l (g.map V.str) ∨ SqT K H l (g.map V.str)) ∧ g.length < 2000 ∧ ∀ p, H p = none → Q (.ref p) (upd H p (TxO P w p (g.foldl addS [])))
theorem cr_setTxW (hc : X.calm = true) : CallR X (.type "set") (rSetTxW X.prog X.w X.K) := by
  intro pins s σ H xs us Q I r ⟨l, g, e, sq, few, q⟩
  subst e
  obtain ⟨u, rfl, ru⟩ := vals1 r
  obtain rfl : u = Value.ref l := ru
  have lim : g.length + 1 < scanBound := by unfold scanBound; omega
  have fin : ∀ (h' : Heap) (k : Nat), TxS X.prog X.w h' s.heap.objs.size (g.foldl addS []) → (∀ b u, s.heap.get? b = some u → h'.get? b = some u) → EP X pins σ Q (.ref s.heap.objs.size) { s with heap := h', toks := k } := fun h' k T keep => by
    refine ⟨.ref s.heap.objs.size, _, I.laid keep (Nat.le_refl _) (show ObjOk X.prog X.w (upd H _ (TxO X.prog X.w _ (g.foldl addS []))) h' _ (TxO X.prog X.w _ (g.foldl addS [])) from ⟨T, ?_, fun h1 h2 p k => TxS.there p k⟩), rfl, q _ (I.hok.fresh (Nat.le_refl _))⟩
    obtain ⟨ob, _, _, _, e, _⟩ := T
    exact ⟨ob, e⟩
  rcases sq with sq | sq
  · obtain ⟨its, rv, isl, _⟩ := I.list sq
    exact set_of_texts g (I.ok.hd hc) isl.isList (by simpa using Vals.strs rv) lim fin
  · obtain ⟨its, rv, isl, _⟩ := I.tuple sq
    obtain ⟨o, h1, h2, n, h3⟩ := isl
    exact set_of_textsT g (I.ok.hd hc) ⟨o, h1, h2, n, h3⟩ (by simpa using Vals.strs rv) lim fin
def rSortTxW (P : Program) (w : World) : List V → Hp → VK → Prop := fun xs H Q => ∃ (a : Addr) (L : List Str), xs = [.ref a] ∧ H a = some (TxO P w a L) ∧ L.length < 2000 ∧ ∀ ys p, ys.Perm L → sortedS ys = true → H p = none → Q (.ref p) (upd H p (.lst (ys.map V.str)))
theorem cr_sortTxW (hc : X.calm = true) : CallR X (.builtin "sorted") (rSortTxW X.prog X.w) := by
  intro pins s σ H xs us Q I r ⟨a, L, e, ha, few, q⟩
  subst e
  obtain ⟨u, rfl, ru⟩ := vals1 r
  obtain rfl : u = Value.ref a := ru
  have T : TxS X.prog X.w s.heap a L := (I.hok a _ ha).1
  obtain ⟨ob, es, ep, tb, at_, ex, d, g, pm, sm, ft, rs, ld⟩ := T
  refine sorted_textsW (fun g => g.Perm L) (fun g p => by rw [p.length_eq]; exact few) (fun Q' k => ?_) fun g ys p gp yp ys' np => q ys p (yp.trans gp) ys' np
  refine collect_set (A := X.A.in1) (I.ok.hd hc) ⟨ob, at_, ex.1, d⟩ ft sm rs ld fun s' out keep _ gens os op => ?_
  have J : Inv X pins σ H s' := I.call' (ch := []) os (Un.kept keep) (I.hok.kept keep) (by rw [gens]; exact I.bare) (fun _ z => nomatch z)
  have shape : ∀ v ∈ out, ∃ x t, v = Value.str x t := fun v m => by
    obtain ⟨e, me, rfl⟩ := List.mem_map.mp (op.mem_iff.mp m)
    exact tx_shape g me
  have are : StrsAre out (out.map strOf) := by
    clear op k
    induction out with
    | nil => exact .nil
    | cons v out ih =>
      obtain ⟨x, t, rfl⟩ := shape v List.mem_cons_self
      exact .cons x t (ih fun v m => shape v (List.mem_cons_of_mem _ m))
  refine k s' out _ J are ?_
  have p1 := op.map strOf
  rw [List.map_map] at p1
  refine (p1.trans (List.Perm.of_eq (List.map_congr_left fun e m => ?_))).trans pm
  obtain ⟨x, t, e2⟩ := tx_shape g m
  show strOf e.2 = txOf e
  unfold txOf
  rw [e2]
  rfl
end
def dSortSetW (a : DT) : DO := fun ρ R U => a ρ (fun x ρ1 => opt (itemsD x) fun ds => opt (strsD ds) fun ls => ls.length < 2000 ∧ R (.lst ((srtL (dd ls)).map Dt.str)) ρ1) U
theorem d_sortSetW {X : Cx} {Z : Fm} {W : WX} {a : Expr} {ma : DT} {p1 p2 p3 pos : Pos} (ha : DE X Z W a ma) (hc : X.calm = true := by rfl) (g1 : Gl X "sorted" := by rfl) (m1 : X.mg "sorted" = none := by rfl) (g2 : Gl X "set" := by rfl) (m2 : X.mg "set" = none := by rfl)
    (hs : starEach [a] X.env = (false, eval a X.env) :: starEach [] X.env := by rfl) : DOk X Z W (.Call (.Name "sorted" p1) [.Call (.Name "set" p2) [a] [] p3] [] pos) (dSortSetW ma) :=
  PE.imp (pe_callB (cr_sortTxW hc) g1 m1 rfl (pa_cons (pe_callTy (cr_setTxW hc) g2 m2 rfl (pa_cons ha pa_nil hs) (he := hs)) pa_nil)) fun σ H Q ⟨F, ρ, R, U, I, hm, q, u⟩ =>
    ⟨F, ρ, _, U, I, hm, fun x ρ1 v F1 H1 I1 s1 r1 h1 => by
        obtain ⟨ds, e0, h1⟩ := opt_get h1
        obtain ⟨ls, e, few, h2⟩ := opt_get h1
        obtain ⟨ad, vs, rfl, sq, r⟩ := items_sq I1 r1 e0
        obtain rfl := strsD_of e
        obtain ⟨hv, hz⟩ := r.strs
        subst hv
        refine ⟨_, ls.map mkS, rfl, sq, by rw [List.length_map]; exact few, fun p np => ⟨p, (dd ls).map mkS, rfl, ?_, ?_, fun ys p' hp hs' np' => ?_⟩⟩
        · have := adds_mk ls []
          show upd H1 p _ p = _
          rw [upd_same]
          exact congrArg (fun L => some (TxO X.prog X.w p L)) this
        · have := dd_len ls []
          rw [List.length_map]
          unfold dd
          simp only [List.length_nil] at this
          omega
        · rw [sorted_srtL hp hs']
          have I2 : DI X.K Z F1 (upd H1 p (TxO X.prog X.w p ((ls.map mkS).foldl addS []))) σ ρ1 := I1.freshO np
          have rr : Reps X.K F1 (((srtL (dd ls)).map mkS).map V.str) ((srtL (dd ls)).map Dt.str) := srt_reps fun l hl => hz l (by
            have := (dd_mem l ls []).mp hl
            simpa using this)
          exact q _ ρ1 p' F1 _ (I2.freshO np') s1 (I2.newAt np' (.lst rr)) h2, u⟩
/-! ### a, b = a new list, data of a call -/
section
variable {X : Cx} {Z : Fm} {W : WX} {a b : Expr} {mb : DT} {oa : DO} {i j : Nat} {x y : Str} {px py pt pt2 pos : Pos} {kt k2 : Nat}
theorem ds_parODP (hc : X.calm = true) (hN : X.N.Nodup) (ha : DOk X Z W a oa) (hb : ∀ P, DE X { Z with P := P } W b mb) (hi : X.N[i]? = some x := by rfl) (hj : X.N[j]? = some y := by rfl) (hij : i ≠ j := by decide)
    (hx : X.env.scope.names.lookup x = some .local := by rfl) (hy : X.env.scope.names.lookup y = some .local := by rfl)
    (hw : swappedStores [.Tuple [.Name x px, .Name y py] kt pt] (.Tuple [a, b] k2 pt2) X.env = pure (some [x, y]) := by rfl)
    (hs : swapsWithSole [.Tuple [.Name x px, .Name y py] kt pt] (.Tuple [a, b] k2 pt2) pos.line X.env = pure false := by rfl) (he1 : starEach [a, b] X.env = (false, eval a X.env) :: starEach [b] X.env := by rfl) (he2 : starEach [b] X.env = (false, eval b X.env) :: starEach [] X.env := by rfl) :
    DS X Z W (.Assign [.Tuple [.Name x px, .Name y py] kt pt] (.Tuple [a, b] k2 pt2) pos) (dParOD i j oa mb) := by
  refine ⟨fun pins s σ H D I ⟨F, ρ, D', Id, hm, r⟩ => ?_⟩
  refine (ps_par hc hN hi hj hij hx hy (pa_cons ha (pa_cons (te := fun σ H Q => ∃ P, tE X.K { Z with P := P } W mb σ H Q) ⟨fun pins s σ H Q I ⟨P, h⟩ => (hb P).run pins s σ H Q I h⟩ pa_nil he2) he1) hw hs).run pins s σ H D I ?_
  refine ⟨F, ρ, _, _, Id, hm, fun o ρ1 p F1 H1 I1 s1 N h1 => ?_, r.ex σ⟩
  obtain ⟨ho, hh, ro⟩ := N.at_
  refine ⟨_, F1, ρ1, _, _, I1.pinned N hh, h1 p, fun dy ρ2 w F2 H2 I2 s2 r2 h2 => ⟨_, w, rfl, ?_⟩, fun _ _ _ _ _ _ _ _ z => z.elim⟩
  obtain ⟨I3, N3⟩ := unpin_new N ro s2 I2
  exact r.nx _ _ F2 H2 ((I3.setOwn i N3).setDat j r2) (s1.trans s2) h2
end
end DL

namespace DL
open PyProof.Rows hiding St
open PySem PySem.Spec L2

abbrev RW : PySem.W.OpenLaw := PySem.Challenge.rw_calmlists_k03_whole_orders_refused
def top (i : Nat) : Stmt := PySem.Challenge.rw_calmlists_k03_whole_orders_refused.prog.main.body.getD i (.Pass ⟨0, 0, 0, 0⟩)
def topM (i j : Nat) : Stmt := match top i with
  | .ClassDef _ _ _ b _ _ _ _ _ _ _ => b.getD j (.Pass ⟨0, 0, 0, 0⟩)
  | _ => .Pass ⟨0, 0, 0, 0⟩
abbrev st_L_dip : Stmt := top 20
abbrev N_L_dip : List Str := ["_law_jar_here", "_law_wide", "_law_seed", "_law_digit"]
abbrev P_L_dip : List Str := ["_law_jar_here", "_law_wide"]
def a_L_dip : DefA := ⟨fun K => He.ga K "_law_dip", "_law_dip", "_law_dip", st_L_dip⟩
theorem sc_L_dip : FnScope N_L_dip P_L_dip (scopeS st_L_dip) := ⟨rfl, rfl, rfl, by decide +kernel, rfl, by decide +kernel, by decide +kernel⟩
abbrev st_L_shuffled : Stmt := top 22
abbrev N_L_shuffled : List Str := ["_law_jar_here", "_law_things_here", "_law_turn", "_law_rest", "_law_found"]
abbrev P_L_shuffled : List Str := ["_law_jar_here", "_law_things_here"]
def a_L_shuffled : DefA := ⟨fun K => He.ga K "_law_shuffled", "_law_shuffled", "_law_shuffled", st_L_shuffled⟩
theorem sc_L_shuffled : FnScope N_L_shuffled P_L_shuffled (scopeS st_L_shuffled) := ⟨rfl, rfl, rfl, by decide +kernel, rfl, by decide +kernel, by decide +kernel⟩
abbrev st_L_hill : Stmt := top 24
abbrev N_L_hill : List Str := ["_law_jar_here", "_law_line_here", "_law_at", "_law_turn", "_law_low", "_law_high", "_law_found"]
abbrev P_L_hill : List Str := ["_law_jar_here", "_law_line_here"]
def a_L_hill : DefA := ⟨fun K => He.ga K "_law_hill", "_law_hill", "_law_hill", st_L_hill⟩
theorem sc_L_hill : FnScope N_L_hill P_L_hill (scopeS st_L_hill) := ⟨rfl, rfl, rfl, by decide +kernel, rfl, by decide +kernel, by decide +kernel⟩
abbrev st_L_lot_of : Stmt := top 25
abbrev N_L_lot_of : List Str := ["_law_jar_here", "_law_things_here", "_law_many_here", "_law_line_here", "_law_turn", "_law_way", "_law_found", "_law_each", "_law_at", "_law_pair"]
abbrev P_L_lot_of : List Str := ["_law_jar_here", "_law_things_here", "_law_many_here"]
def a_L_lot_of : DefA := ⟨fun K => He.ga K "_law_lot_of", "_law_lot_of", "_law_lot_of", st_L_lot_of⟩
theorem sc_L_lot_of : FnScope N_L_lot_of P_L_lot_of (scopeS st_L_lot_of) := ⟨rfl, rfl, rfl, by decide +kernel, rfl, by decide +kernel, by decide +kernel⟩
abbrev st_L_letters : Stmt := top 23
abbrev N_L_letters : List Str := ["_law_jar_here", "_law_many_here", "_law_turn", "_law_rest", "_law_found"]
abbrev P_L_letters : List Str := ["_law_jar_here", "_law_many_here"]
def a_L_letters : DefA := ⟨fun K => He.ga K "_law_letters", "_law_letters", "_law_letters", st_L_letters⟩
theorem sc_L_letters : FnScope N_L_letters P_L_letters (scopeS st_L_letters) := ⟨rfl, rfl, rfl, by decide +kernel, rfl, by decide +kernel, by decide +kernel⟩
abbrev st_L_roster : Stmt := top 26
abbrev N_L_roster : List Str := ["_law_jar_here", "_law_size", "_law_many_here"]
abbrev P_L_roster : List Str := ["_law_jar_here", "_law_size", "_law_many_here"]
def a_L_roster : DefA := ⟨fun K => He.ga K "_law_roster", "_law_roster", "_law_roster", st_L_roster⟩
theorem sc_L_roster : FnScope N_L_roster P_L_roster (scopeS st_L_roster) := ⟨rfl, rfl, rfl, by decide +kernel, rfl, by decide +kernel, by decide +kernel⟩
abbrev st_L_many : Stmt := top 33
abbrev N_L_many : List Str := ["_law_jar_here", "_law_turn", "_law_found", "_law_things_here"]
abbrev P_L_many : List Str := ["_law_jar_here"]
def a_L_many : DefA := ⟨fun K => He.ga K "_law_many", "_law_many", "_law_many", st_L_many⟩
theorem sc_L_many : FnScope N_L_many P_L_many (scopeS st_L_many) := ⟨rfl, rfl, rfl, by decide +kernel, rfl, by decide +kernel, by decide +kernel⟩
abbrev st_L_pick : Stmt := top 21
abbrev N_L_pick : List Str := ["_law_jar_here", "_law_menu", "_law_at"]
abbrev P_L_pick : List Str := ["_law_jar_here", "_law_menu"]
def a_L_pick : DefA := ⟨fun K => He.ga K "_law_pick", "_law_pick", "_law_pick", st_L_pick⟩
theorem sc_L_pick : FnScope N_L_pick P_L_pick (scopeS st_L_pick) := ⟨rfl, rfl, rfl, by decide +kernel, rfl, by decide +kernel, by decide +kernel⟩
abbrev st_L_odd : Stmt := top 27
abbrev N_L_odd : List Str := ["_law_jar_here", "_law_menu"]
abbrev P_L_odd : List Str := ["_law_jar_here"]
def a_L_odd : DefA := ⟨fun K => He.ga K "_law_odd", "_law_odd", "_law_odd", st_L_odd⟩
theorem sc_L_odd : FnScope N_L_odd P_L_odd (scopeS st_L_odd) := ⟨rfl, rfl, rfl, by decide +kernel, rfl, by decide +kernel, by decide +kernel⟩
abbrev st_L_bent : Stmt := top 32
abbrev N_L_bent : List Str := ["_law_jar_here", "_law_value", "_law_at", "_law_word", "_law_glyph", "_law_menu"]
abbrev P_L_bent : List Str := ["_law_jar_here", "_law_value"]
def a_L_bent : DefA := ⟨fun K => He.ga K "_law_bent", "_law_bent", "_law_bent", st_L_bent⟩
theorem sc_L_bent : FnScope N_L_bent P_L_bent (scopeS st_L_bent) := ⟨rfl, rfl, rfl, by decide +kernel, rfl, by decide +kernel, by decide +kernel⟩
abbrev st_L_lot_slip : Stmt := top 30
abbrev N_L_lot_slip : List Str := ["_law_value", "_law_k", "_law_word", "_law_glyph"]
abbrev P_L_lot_slip : List Str := ["_law_value"]
def a_L_lot_slip : DefA := ⟨fun K => He.ga K "_law_lot_slip", "_law_lot_slip", "_law_lot_slip", st_L_lot_slip⟩
theorem sc_L_lot_slip : FnScope N_L_lot_slip P_L_lot_slip (scopeS st_L_lot_slip) := ⟨rfl, rfl, rfl, by decide +kernel, rfl, by decide +kernel, by decide +kernel⟩
abbrev st_L_bases : Stmt := top 28
abbrev N_L_bases : List Str := ["_law_e", "_law_found"]
abbrev P_L_bases : List Str := ["_law_e"]
def a_L_bases : DefA := ⟨fun K => He.ga K "_law_bases", "_law_bases", "_law_bases", st_L_bases⟩
theorem sc_L_bases : FnScope N_L_bases P_L_bases (scopeS st_L_bases) := ⟨rfl, rfl, rfl, by decide +kernel, rfl, by decide +kernel, by decide +kernel⟩
abbrev st_L_shown : Stmt := top 31
abbrev N_L_shown : List Str := ["_law_e"]
abbrev P_L_shown : List Str := ["_law_e"]
def a_L_shown : DefA := ⟨fun K => He.ga K "_law_shown", "_law_shown", "_law_shown", st_L_shown⟩
theorem sc_L_shown : FnScope N_L_shown P_L_shown (scopeS st_L_shown) := ⟨rfl, rfl, rfl, by decide +kernel, rfl, by decide +kernel, by decide +kernel⟩
abbrev st_L_caught : Stmt := top 29
abbrev N_L_caught : List Str := ["_law_act", "_law_e", "_law_told"]
abbrev P_L_caught : List Str := ["_law_act"]
def a_L_caught : DefA := ⟨fun K => He.ga K "_law_caught", "_law_caught", "_law_caught", st_L_caught⟩
theorem sc_L_caught : FnScope N_L_caught P_L_caught (scopeS st_L_caught) := ⟨rfl, rfl, rfl, by decide +kernel, rfl, by decide +kernel, by decide +kernel⟩
abbrev st_InvalidOrders_init : Stmt := topM 4 0
abbrev N_InvalidOrders_init : List Str := ["self", "index"]
abbrev P_InvalidOrders_init : List Str := ["self", "index"]
def a_InvalidOrders_init : DefA := ⟨fun K => He.ma K (He.ga K "InvalidOrders") "__init__", "__init__", "InvalidOrders.__init__", st_InvalidOrders_init⟩
theorem sc_InvalidOrders_init : FnScope N_InvalidOrders_init P_InvalidOrders_init (scopeS st_InvalidOrders_init) := ⟨rfl, rfl, rfl, by decide +kernel, rfl, by decide +kernel, by decide +kernel⟩
abbrev st_are_letters : Stmt := top 12
abbrev N_are_letters : List Str := ["value", "least", "most", "k"]
abbrev P_are_letters : List Str := ["value", "least", "most"]
def a_are_letters : DefA := ⟨fun K => He.ga K "are_letters", "are_letters", "are_letters", st_are_letters⟩
theorem sc_are_letters : FnScope N_are_letters P_are_letters (scopeS st_are_letters) := ⟨rfl, rfl, rfl, by decide +kernel, rfl, by decide +kernel, by decide +kernel⟩
abbrev st_is_order : Stmt := top 13
abbrev N_is_order : List Str := ["value"]
abbrev P_is_order : List Str := ["value"]
def a_is_order : DefA := ⟨fun K => He.ga K "is_order", "is_order", "is_order", st_is_order⟩
theorem sc_is_order : FnScope N_is_order P_is_order (scopeS st_is_order) := ⟨rfl, rfl, rfl, by decide +kernel, rfl, by decide +kernel, by decide +kernel⟩
abbrev st_is_order_of : Stmt := top 14
abbrev N_is_order_of : List Str := ["things", "value"]
abbrev P_is_order_of : List Str := ["things", "value"]
def a_is_order_of : DefA := ⟨fun K => He.ga K "is_order_of", "is_order_of", "is_order_of", st_is_order_of⟩
theorem sc_is_order_of : FnScope N_is_order_of P_is_order_of (scopeS st_is_order_of) := ⟨rfl, rfl, rfl, by decide +kernel, rfl, by decide +kernel, by decide +kernel⟩
abbrev st_check_orders : Stmt := top 15
abbrev N_check_orders : List Str := ["orders", "index"]
abbrev P_check_orders : List Str := ["orders"]
def a_check_orders : DefA := ⟨fun K => He.ga K "check_orders", "check_orders", "check_orders", st_check_orders⟩
theorem sc_check_orders : FnScope N_check_orders P_check_orders (scopeS st_check_orders) := ⟨rfl, rfl, rfl, by decide +kernel, rfl, by decide +kernel, by decide +kernel⟩
abbrev st_Roll_init : Stmt := topM 17 0
abbrev N_Roll_init : List Str := ["self", "orders"]
abbrev P_Roll_init : List Str := ["self", "orders"]
def a_Roll_init : DefA := ⟨fun K => He.ma K (He.ga K "Roll") "__init__", "__init__", "Roll.__init__", st_Roll_init⟩
theorem sc_Roll_init : FnScope N_Roll_init P_Roll_init (scopeS st_Roll_init) := ⟨rfl, rfl, rfl, by decide +kernel, rfl, by decide +kernel, by decide +kernel⟩
abbrev st_Roll_orders : Stmt := topM 17 2
abbrev N_Roll_orders : List Str := ["self"]
abbrev P_Roll_orders : List Str := ["self"]
def a_Roll_orders : DefA := ⟨fun K => propG K (He.ma K (He.ga K "Roll") "orders"), "orders", "Roll.orders", st_Roll_orders⟩
theorem sc_Roll_orders : FnScope N_Roll_orders P_Roll_orders (scopeS st_Roll_orders) := ⟨rfl, rfl, rfl, by decide +kernel, rfl, by decide +kernel, by decide +kernel⟩
abbrev st_L_right : Stmt := top 34
abbrev N_L_right : List Str := ["_law_jar_here", "_law_turn", "_law_value", "_law_again", "_law_due", "_law_told"]
abbrev P_L_right : List Str := ["_law_jar_here"]
def a_L_right : DefA := ⟨fun K => He.ga K "_law_right", "_law_right", "_law_right", st_L_right⟩
theorem sc_L_right : FnScope N_L_right P_L_right (scopeS st_L_right) := ⟨rfl, rfl, rfl, by decide +kernel, rfl, by decide +kernel, by decide +kernel⟩
abbrev st_L_jar : Stmt := top 19
abbrev N_L_jar : List Str := ["_law_script", "_law_k", "_law_churned", "_law_cell", "_law_own", "_law_digits"]
abbrev P_L_jar : List Str := ["_law_script", "_law_k"]
def a_L_jar : DefA := ⟨fun K => He.ga K "_law_jar", "_law_jar", "_law_jar", st_L_jar⟩
theorem sc_L_jar : FnScope N_L_jar P_L_jar (scopeS st_L_jar) := ⟨rfl, rfl, rfl, by decide +kernel, rfl, by decide +kernel, by decide +kernel⟩
abbrev st_law : Stmt := top 35
abbrev N_law : List Str := ["_law_script", "_law_k"]
abbrev P_law : List Str := ["_law_script"]
def a_law : DefA := ⟨fun K => He.ga K "law", "law", "law", st_law⟩
theorem sc_law : FnScope N_law P_law (scopeS st_law) := ⟨rfl, rfl, rfl, by decide +kernel, rfl, by decide +kernel, by decide +kernel⟩
def tabs : List TabN := []
def exK (K : PySem.W.Frag) : Bool := He.Fa.ok K (.free "ArithmeticError") && (He.Fa.ok K (.free "LookupError") && (He.Fa.ok K (.free "ValueError") && (He.Fa.ok K (.free "abs") && (He.Fa.ok K (.free "all") && (He.Fa.ok K (.free "int") && (He.Fa.ok K (.free "isinstance") && (He.Fa.ok K (.free "len") && (He.Fa.ok K (.free "list") && (He.Fa.ok K (.free "max") && (He.Fa.ok K (.free "min") && (He.Fa.ok K (.free "range") && (He.Fa.ok K (.free "repr") && (He.Fa.ok K (.free "set") && (He.Fa.ok K (.free "sorted") && (He.Fa.ok K (.free "str") && (He.Fa.ok K (.free "tuple") && (He.Fa.ok K (.glo "_law_dip") && (He.Fa.ok K (.glo "_law_shuffled") && (He.Fa.ok K (.glo "_law_hill") && (He.Fa.ok K (.glo "_law_lot_of") && (He.Fa.ok K (.glo "_law_letters") && (He.Fa.ok K (.glo "_law_roster") && (He.Fa.ok K (.glo "_law_many") && (He.Fa.ok K (.glo "_law_pick") && (He.Fa.ok K (.glo "_law_odd") && (He.Fa.ok K (.glo "_law_bent") && (He.Fa.ok K (.glo "_law_lot_slip") && (He.Fa.ok K (.glo "_law_bases") && (He.Fa.ok K (.glo "_law_shown") && (He.Fa.ok K (.glo "_law_caught") && (He.Fa.ok K (.glo "are_letters") && (He.Fa.ok K (.glo "is_order") && (He.Fa.ok K (.glo "is_order_of") && (He.Fa.ok K (.glo "check_orders") && (He.Fa.ok K (.glo "_law_right") && (He.Fa.ok K (.glo "_law_jar") && (He.Fa.ok K (.glo "law") && (He.Fa.ok K (.int "LEAST_THINGS" 3) && (He.Fa.ok K (.str "LETTERS" "abcdefghijklmnopqrstuvwxyz") && (He.Fa.ok K (.int "MOST_ORDERS" 48) && (He.Fa.ok K (.int "MOST_THINGS" 6) && (He.Fa.ok K (.glo "InvalidOrders") && (He.Fa.ok K (.glo "NotPossible") && (He.Fa.ok K (.glo "Roll") && (He.Fa.ok K (.cls "Roll") && (He.Fa.ok K (.mkr "Roll") && (He.Fa.ok K (.glo "WrongName") && (He.Fa.ok K (.glo "WrongValue") && (xcmB K (He.ga K "InvalidOrders") .ve (He.ma K (He.ga K "InvalidOrders") "__init__") "index" && (xiB K [(He.ga K "InvalidOrders", true)] (.ref (He.ga K "InvalidOrders")) && (xiB K [(He.ga K "InvalidOrders", true)] (.ref (He.ga K "WrongValue")) && (xiB K [(He.ga K "InvalidOrders", true)] (.type "ValueError") && (xiB K [(He.ga K "InvalidOrders", false)] (.ref (He.ga K "WrongName")) && (xiB K [(He.ga K "InvalidOrders", false)] (.type "LookupError") && (xiB K [(He.ga K "InvalidOrders", false)] (.ref (He.ga K "NotPossible")) && (xiB K [(He.ga K "InvalidOrders", false)] (.type "ArithmeticError") && (xfsB K [He.ga K "InvalidOrders"] "index" && (syB K [.ref (He.ga K "WrongValue"), .ref (He.ga K "WrongName"), .ref (He.ga K "NotPossible")] [(He.ga K "InvalidOrders", true)] && (propB K "Roll" "orders" && (plainFB K "lot" ["Roll"] && (isiB K .str [] && (isiB K .tup [] && (isoO K "Roll" [("Roll", true)] && (isoB K "Roll"))))))))))))))))))))))))))))))))))))))))))))))))))))))))))))))))
def fns : List DefA := [a_L_dip, a_L_shuffled, a_L_hill, a_L_lot_of, a_L_letters, a_L_roster, a_L_many, a_L_pick, a_L_odd, a_L_bent, a_L_lot_slip, a_L_bases, a_L_shown, a_L_caught, a_InvalidOrders_init, a_are_letters, a_is_order, a_is_order_of, a_check_orders, a_Roll_init, a_Roll_orders, a_L_right, a_L_jar, a_law]
abbrev RR : PySem.W.OpenRow := PySem.W.OpenLaw.row RW
def loose : List Str := ([Str.ofString "_wall", Str.ofString "__name__", Str.ofString "WrongValue", Str.ofString "InvalidText", Str.ofString "InvalidOrders", Str.ofString "WrongName", Str.ofString "NotPossible", Str.ofString "LEAST_THINGS", Str.ofString "MOST_THINGS", Str.ofString "MOST_ORDERS", Str.ofString "LETTERS", Str.ofString "are_letters", Str.ofString "is_order", Str.ofString "is_order_of", Str.ofString "check_orders", Str.ofString "roll_told", Str.ofString "Roll", Str.ofString "_law_jar", Str.ofString "_law_dip", Str.ofString "_law_pick", Str.ofString "_law_shuffled", Str.ofString "_law_letters", Str.ofString "_law_hill", Str.ofString "_law_lot_of", Str.ofString "_law_roster", Str.ofString "_law_odd", Str.ofString "_law_bases", Str.ofString "_law_caught", Str.ofString "_law_lot_slip", Str.ofString "_law_shown", Str.ofString "_law_bent", Str.ofString "_law_many", Str.ofString "_law_right"] : List Str) ++ ([Str.ofString "roll_told", Str.ofString "Roll", Str.ofString "_law_jar", Str.ofString "_law_dip", Str.ofString "_law_pick", Str.ofString "_law_shuffled", Str.ofString "_law_letters", Str.ofString "_law_hill", Str.ofString "_law_lot_of", Str.ofString "_law_roster", Str.ofString "_law_odd", Str.ofString "_law_bases", Str.ofString "_law_caught", Str.ofString "_law_lot_slip", Str.ofString "_law_shown", Str.ofString "_law_bent", Str.ofString "_law_many", Str.ofString "_law_right"] : List Str) ++ ([Str.ofString "_law_bent", Str.ofString "_law_many", Str.ofString "_law_right"] : List Str)
def lams : List DefA := [a_L_right]
abbrev hkA : PySem.W.Hook := hookU 6 fns exK tabs lams
theorem runA (w : World) : HandSHeadRun.RunEq RR (PySem.W.view RR.prog [35]) hkA (lookU 6 fns exK tabs lams) 20000 loose w := by
  intro os
  kernel_rfl
/-! ### promises -/
abbrev Jr := Int × Int × Int
def jr (j : Jr) : MO := .lst [.int j.1, .int j.2.1, .int j.2.2]
def SpJ {α β : Type} (A : α → List Sl) (C : α → Prop) (P : α → β → Prop) (R : α → β → Dt) : SpD :=
  Sp1 (α := (Bool × Addr × Jr) × α) (β := β × Jr) (fun x => .own x.1.1 x.1.2.1 (jr x.1.2.2) :: A x.2) (fun x => C x.2) (fun x y => P x.2 y.1) (fun x y => .d (R x.2 y.1)) (fun x y => [jr y.2])
def SpF {α : Type} (A : α → List Sl) (C : α → Prop) (R : α → Dt) : SpD := Sp1 (α := α) (β := Unit) A C (fun _ _ => True) (fun x _ => .d (R x)) (fun _ _ => [])
def stL (l : List (List Nat)) : List Dt := l.map Dt.str
def alpha : List Nat := [97, 98, 99, 100, 101, 102, 107, 109, 120, 121, 122]
def small (c : Nat) : Bool := decide (97 ≤ c) && decide (c ≤ 122)
def LET : List Nat := [97, 98, 99, 100, 101, 102, 103, 104, 105, 106, 107, 108, 109, 110, 111, 112, 113, 114, 115, 116, 117, 118, 119, 120, 121, 122]
def okAt (L : List Nat) (i : Nat) : Bool := match L[i]? with
  | some c => decide (c ∈ LET) && !decide (c ∈ L.take i)
  | none => false
def chk (L : List Nat) : Bool := (List.range L.length).all (okAt L)
def areL : Dt → Int → Int → Bool
  | .str L, lo, hi => decide (lo ≤ L.length) && decide ((L.length : Int) ≤ hi) && chk L
  | _, _, _ => false
def noIns : Dt → Prop
  | .ins _ _ => False
  | .str L => L.length ≤ 100000
  | _ => True
structure Things (L : List Nat) : Prop where
  srt : L.Pairwise (· < ·)
  sm : ∀ c ∈ L, small c = true
  lo : 3 ≤ L.length
  hi : L.length ≤ 6
structure Lot (L : List Nat) (m : Nat) (lot : List (List Nat)) : Prop where
  ne : lot ≠ []
  len : lot.length ≤ m
  perm : ∀ l ∈ lot, l.Perm L
  inc : lot.Pairwise (· < ·)
def roll (K : PySem.W.Frag) (lot : List (List Nat)) : Dt := .ins (He.ga K "Roll") [("lot", .tup (stL lot))]
def sp_L_jar (K : PySem.W.Frag) : SpD := Sp1 (α := List Int × Int) (β := Jr) (fun x => [.dat (.scr (x.1.map .int)), .dat (.int x.2)]) (fun x => x.1.length ≤ 63 ∧ 0 ≤ x.2 ∧ x.2 ≤ 100) (fun _ _ => True) (fun _ y => .o (jr y)) (fun _ _ => [])
def sp_L_dip (K : PySem.W.Frag) : SpD := SpJ (α := Int) (β := Int) (fun w => [.dat (.int w)]) (fun w => 0 < w ∧ w ≤ 10 ^ 30) (fun w r => 0 ≤ r ∧ r < w) (fun _ r => .int r)
def sp_L_shuffled (K : PySem.W.Frag) : SpD := SpJ (α := List Nat) (β := List Nat) (fun L => [.dat (.str L)]) (fun L => L.length ≤ 26) (fun L M => M.Perm L) (fun _ M => .str M)
def sp_L_letters (K : PySem.W.Frag) : SpD := SpJ (α := Nat) (β := List Nat) (fun n => [.dat (.int n)]) (fun n => n ≤ 11) (fun n L => L.length = n ∧ L.Pairwise (· < ·) ∧ ∀ c ∈ L, small c = true) (fun _ L => .str L)
/-- each beginning of M is a stretch of L -/
def Steps (L M : List Nat) : Prop := ∀ n, ∃ i j, (M.take n).Perm ((L.drop i).take j)
def sp_L_hill (K : PySem.W.Frag) : SpD := SpJ (α := List Nat) (β := List Nat) (fun L => [.dat (.str L)]) (fun L => 0 < L.length ∧ L.length ≤ 26) (fun L M => M.Perm L ∧ Steps L M) (fun _ M => .str M)
def sp_L_lot_of (K : PySem.W.Frag) : SpD := SpJ (α := List Nat × Nat) (β := List (List Nat)) (fun x => [.dat (.str x.1), .dat (.int x.2)]) (fun x => 2 ≤ x.1.length ∧ x.1.length ≤ 26 ∧ 0 < x.2 ∧ x.2 ≤ 40) (fun x lot => Lot x.1 x.2 lot) (fun _ lot => .tup (stL lot))
def sp_L_roster (K : PySem.W.Frag) : SpD := SpJ (α := Nat × Nat) (β := List Nat × List (List Nat)) (fun x => [.dat (.int x.1), .dat (.int x.2)]) (fun x => 3 ≤ x.1 ∧ x.1 ≤ 6 ∧ 0 < x.2 ∧ x.2 ≤ 40) (fun x y => Things y.1 ∧ Lot y.1 x.2 y.2) (fun _ y => .tup (stL y.2))
def sp_are_letters (K : PySem.W.Frag) : SpD := SpF (α := Dt × Int × Int) (fun x => [.dat x.1, .dat (.int x.2.1), .dat (.int x.2.2)]) (fun x => noIns x.1) (fun x => .bl (areL x.1 x.2.1 x.2.2))
def sp_is_order (K : PySem.W.Frag) : SpD := SpF (α := Dt) (fun x => [.dat x]) noIns (fun x => .bl (areL x 3 6))
def isOO (L : List Nat) : Dt → Bool
  | .str M => areL (.str M) 3 6 && (srtL (M.map fun c => [c]) == srtL (L.map fun c => [c]))
  | _ => false
def sp_is_order_of (K : PySem.W.Frag) : SpD := SpF (α := List Nat × Dt) (fun x => [.dat (.str x.1), .dat x.2]) (fun x => x.1.length < 64 ∧ noIns x.2) (fun x => .bl (isOO x.1 x.2))
def sp_L_right (K : PySem.W.Frag) : SpD := SpJ (α := Unit) (β := Unit) (fun _ => []) (fun _ => True) (fun _ _ => True) (fun _ _ => .bl true)
def sp_law (K : PySem.W.Frag) : SpD := SpF (α := List Int) (fun x => [.dat (.scr (x.map .int))]) (fun x => x.length ≤ 63) (fun _ => .bl true)

/-! ### pick from a text, a list, a tuple -/
def srcP : Dt → Option (List Dt)
  | .str l => some (chars l)
  | .lst ds => some ds
  | .tup ds => some ds
  | _ => none
def sp_L_pick (K : PySem.W.Frag) : SpD := SpJ (α := Dt × List Dt) (β := Dt) (fun x => [.dat x.1]) (fun x => srcP x.1 = some x.2 ∧ x.2 ≠ [] ∧ x.2.length ≤ 1000) (fun x d => d ∈ x.2) (fun _ d => d)

/-! ### rows of orders that are refused (k03, k04) -/
/-- a value of any kind that the draws give -/
def Shw (d : Dt) : Prop := ShX d ∧ (pyX d).showable = true ∧ (pyX d).shown.length ≤ 2000
def Vl (d : Dt) : Prop := noIns d ∧ Shw d
def reprL (d : Dt) : List Nat := (pyX d).shown.cps.toList
def sTold : List Nat := [116, 111, 108, 100]
def sOrders : List Nat := [111, 114, 100, 101, 114, 115]
def Tp : Dt → Prop
  | .tup ds => ds.length ≤ 1000 ∧ ∀ d ∈ ds, noIns d
  | d => noIns d
def lsO : Dt → List Nat
  | .str l => l
  | _ => []
def ltO : Dt → Dt → Bool
  | .str x, .str y => decide (x < y)
  | _, _ => false
/-- whether the element at a place is right there -/
def fineR (ds : List Dt) (i : Nat) : Bool := match ds[i]? with
  | some d => !(i == 48) && (isOO (lsO (ds.headD .non)) d && (i == 0 || ltO (ds.getD (i - 1) .non) d))
  | none => true
def badR (ds : List Dt) : Option Nat := (List.range ds.length).find? fun i => !fineR ds i
/-- the index that is told of orders, none if they are right -/
def slipI : Dt → Option Dt
  | .tup ds => if ds.isEmpty = true then some .non else (badR ds).map fun i => .int (i : Nat)
  | _ => some .non
def xOrders (K : PySem.W.Frag) (i : Dt) : Xn := ⟨He.ga K "InvalidOrders", [("index", i)]⟩
def resO (K : PySem.W.Frag) (r : Dt) : Option Dt → Dt ⊕ Xn
  | none => .inl r
  | some i => .inr (xOrders K i)
def rollD (K : PySem.W.Frag) (d : Dt) : Dt := .ins (He.ga K "Roll") [("lot", d)]
def slipL : Option Dt → List Dt
  | none => []
  | some i => [.str sOrders, .str (reprL i)]
def sp_check_orders (K : PySem.W.Frag) : SpD := SpE (α := Dt) (fun d => [.dat d]) Tp (fun d => resO K .non (slipI d))
def sp_Roll_init (K : PySem.W.Frag) : SpD := SpEO (α := (Bool × Addr) × Dt) (fun x => [.own x.1.1 x.1.2 (.ins (He.ga K "Roll") []), .dat x.2]) (fun x => Tp x.2) (fun x => resO K .non (slipI x.2)) (fun x => [.ins (He.ga K "Roll") (match slipI x.2 with
  | none => [("lot", x.2)]
  | some _ => [])])
def sp_Roll_orders (K : PySem.W.Frag) : SpD := SpF (α := Dt) (fun d => [.dat (rollD K d)]) (fun _ => True) (fun d => d)
def sp_L_lot_slip (K : PySem.W.Frag) : SpD := SpF (α := Dt) (fun d => [.dat d]) Tp (fun d => .lst (slipL (slipI d)))

/-! ### rows that are refused (k03) -/
def oddL : List Dt := [.non, .bl true, .bl false, .int 0, .int 1, .int (-1), .int 2, .int (10 ^ Int.toNat 30), .str [], .str [97], .str [97, 98], .str [97, 98, 99], .str [97, 99, 98], .tup [], .tup [.str [97, 98, 99]],
  .tup [.int 1, .int 1], .lst [.str [97, 98, 99]], .lst [], .dct [], .dct [(Sum.inr (mkS [97, 98, 99]), .int 1)], .tup [.non, .int 0], .str [97, 98, 99, 10, 99, 98, 97], .tup [.tup [.str [97, 98, 99]]],
  .tup [.str [97, 98, 99], .str [97, 98, 99]], .lst [.lst []], .tup [.tup []], .str [67, 65, 66]]
/-- what str tells of a value -/
def txtX : Dt → List Nat
  | .str l => l
  | d => (pyX d).shown.cps.toList
/-- values whose texts are not long -/
def tsB (n : Nat) : Dt → Bool
  | .str l => decide (l.length ≤ n) && l.all (· < 128)
  | .ins _ _ => false
  | d => (pyX d).showable && (decide ((pyX d).shown.length ≤ n) && (pyX d).shown.cps.toList.all (· < 128))
def Ts (n : Nat) (d : Dt) : Prop := ShX d ∧ tsB n d = true
def Row (n : Nat) (ds : List Dt) : Prop := ds ≠ [] ∧ ds.length ≤ 60 ∧ ∀ d ∈ ds, Ts n d
def sp_L_odd (K : PySem.W.Frag) : SpD := SpJ (α := Unit) (β := Dt) (fun _ => []) (fun _ => True) (fun _ d => d ∈ oddL) (fun _ d => d)
def sp_L_bent (K : PySem.W.Frag) : SpD := SpJ (α := Nat × List Dt) (β := List Dt) (fun x => [.dat (.tup x.2)]) (fun x => 6 ≤ x.1 ∧ x.1 ≤ 100 ∧ Row x.1 x.2) (fun x es => Row (10 * x.1 + 10) es) (fun _ es => .tup es)
def sp_L_many (K : PySem.W.Frag) : SpD := SpJ (α := Unit) (β := List (List Nat)) (fun _ => []) (fun _ => True) (fun _ lot => Row 6 (stL lot)) (fun _ lot => .tup (stL lot))
def sp_L_bases (K : PySem.W.Frag) (q : Addr × Obj) : SpD := SpF (α := Option Addr × Dt) (fun x => [.exc q (He.ga K "InvalidOrders") x.1 [("index", x.2)]]) (fun _ => True) (fun _ => .lst [.bl true, .bl false, .bl false])
def sp_L_shown (K : PySem.W.Frag) (q : Addr × Obj) : SpD := SpF (α := Option Addr × Dt) (fun x => [.exc q (He.ga K "InvalidOrders") x.1 [("index", x.2)]]) (fun x => Shw x.2) (fun x => .lst [.str sOrders, .str (reprL x.2)])

theorem mono_L_dip {K : PySem.W.Frag} : Mono (sp_L_dip K) := by first | exact Sp1.mono | exact SpE.mono | exact SpEO.mono
theorem len_L_dip {K : PySem.W.Frag} : ∀ args Q U, sp_L_dip K args Q U → args.length = List.length P_L_dip := by first | exact Sp1.len fun _ => rfl | exact SpE.len fun _ => rfl | exact SpEO.len fun _ => rfl
theorem mono_L_shuffled {K : PySem.W.Frag} : Mono (sp_L_shuffled K) := by first | exact Sp1.mono | exact SpE.mono | exact SpEO.mono
theorem len_L_shuffled {K : PySem.W.Frag} : ∀ args Q U, sp_L_shuffled K args Q U → args.length = List.length P_L_shuffled := by first | exact Sp1.len fun _ => rfl | exact SpE.len fun _ => rfl | exact SpEO.len fun _ => rfl
theorem mono_L_hill {K : PySem.W.Frag} : Mono (sp_L_hill K) := by first | exact Sp1.mono | exact SpE.mono | exact SpEO.mono
theorem len_L_hill {K : PySem.W.Frag} : ∀ args Q U, sp_L_hill K args Q U → args.length = List.length P_L_hill := by first | exact Sp1.len fun _ => rfl | exact SpE.len fun _ => rfl | exact SpEO.len fun _ => rfl
theorem mono_L_lot_of {K : PySem.W.Frag} : Mono (sp_L_lot_of K) := by first | exact Sp1.mono | exact SpE.mono | exact SpEO.mono
theorem len_L_lot_of {K : PySem.W.Frag} : ∀ args Q U, sp_L_lot_of K args Q U → args.length = List.length P_L_lot_of := by first | exact Sp1.len fun _ => rfl | exact SpE.len fun _ => rfl | exact SpEO.len fun _ => rfl
theorem mono_L_letters {K : PySem.W.Frag} : Mono (sp_L_letters K) := by first | exact Sp1.mono | exact SpE.mono | exact SpEO.mono
theorem len_L_letters {K : PySem.W.Frag} : ∀ args Q U, sp_L_letters K args Q U → args.length = List.length P_L_letters := by first | exact Sp1.len fun _ => rfl | exact SpE.len fun _ => rfl | exact SpEO.len fun _ => rfl
theorem mono_L_roster {K : PySem.W.Frag} : Mono (sp_L_roster K) := by first | exact Sp1.mono | exact SpE.mono | exact SpEO.mono
theorem len_L_roster {K : PySem.W.Frag} : ∀ args Q U, sp_L_roster K args Q U → args.length = List.length P_L_roster := by first | exact Sp1.len fun _ => rfl | exact SpE.len fun _ => rfl | exact SpEO.len fun _ => rfl
theorem mono_L_many {K : PySem.W.Frag} : Mono (sp_L_many K) := by first | exact Sp1.mono | exact SpE.mono | exact SpEO.mono
theorem len_L_many {K : PySem.W.Frag} : ∀ args Q U, sp_L_many K args Q U → args.length = List.length P_L_many := by first | exact Sp1.len fun _ => rfl | exact SpE.len fun _ => rfl | exact SpEO.len fun _ => rfl
theorem mono_L_pick {K : PySem.W.Frag} : Mono (sp_L_pick K) := by first | exact Sp1.mono | exact SpE.mono | exact SpEO.mono
theorem len_L_pick {K : PySem.W.Frag} : ∀ args Q U, sp_L_pick K args Q U → args.length = List.length P_L_pick := by first | exact Sp1.len fun _ => rfl | exact SpE.len fun _ => rfl | exact SpEO.len fun _ => rfl
theorem mono_L_odd {K : PySem.W.Frag} : Mono (sp_L_odd K) := by first | exact Sp1.mono | exact SpE.mono | exact SpEO.mono
theorem len_L_odd {K : PySem.W.Frag} : ∀ args Q U, sp_L_odd K args Q U → args.length = List.length P_L_odd := by first | exact Sp1.len fun _ => rfl | exact SpE.len fun _ => rfl | exact SpEO.len fun _ => rfl
theorem mono_L_bent {K : PySem.W.Frag} : Mono (sp_L_bent K) := by first | exact Sp1.mono | exact SpE.mono | exact SpEO.mono
theorem len_L_bent {K : PySem.W.Frag} : ∀ args Q U, sp_L_bent K args Q U → args.length = List.length P_L_bent := by first | exact Sp1.len fun _ => rfl | exact SpE.len fun _ => rfl | exact SpEO.len fun _ => rfl
theorem mono_L_lot_slip {K : PySem.W.Frag} : Mono (sp_L_lot_slip K) := by first | exact Sp1.mono | exact SpE.mono | exact SpEO.mono
theorem len_L_lot_slip {K : PySem.W.Frag} : ∀ args Q U, sp_L_lot_slip K args Q U → args.length = List.length P_L_lot_slip := by first | exact Sp1.len fun _ => rfl | exact SpE.len fun _ => rfl | exact SpEO.len fun _ => rfl
theorem mono_L_bases {K : PySem.W.Frag} : ∀ q, Mono (sp_L_bases K q) := fun q => by first | exact Sp1.mono | exact SpE.mono | exact SpEO.mono
theorem len_L_bases {K : PySem.W.Frag} : ∀ q args Q U, sp_L_bases K q args Q U → args.length = List.length P_L_bases := fun q => by first | exact Sp1.len fun _ => rfl | exact SpE.len fun _ => rfl | exact SpEO.len fun _ => rfl
theorem mono_L_shown {K : PySem.W.Frag} : ∀ q, Mono (sp_L_shown K q) := fun q => by first | exact Sp1.mono | exact SpE.mono | exact SpEO.mono
theorem len_L_shown {K : PySem.W.Frag} : ∀ q args Q U, sp_L_shown K q args Q U → args.length = List.length P_L_shown := fun q => by first | exact Sp1.len fun _ => rfl | exact SpE.len fun _ => rfl | exact SpEO.len fun _ => rfl
theorem mono_are_letters {K : PySem.W.Frag} : Mono (sp_are_letters K) := by first | exact Sp1.mono | exact SpE.mono | exact SpEO.mono
theorem len_are_letters {K : PySem.W.Frag} : ∀ args Q U, sp_are_letters K args Q U → args.length = List.length P_are_letters := by first | exact Sp1.len fun _ => rfl | exact SpE.len fun _ => rfl | exact SpEO.len fun _ => rfl
theorem mono_is_order {K : PySem.W.Frag} : Mono (sp_is_order K) := by first | exact Sp1.mono | exact SpE.mono | exact SpEO.mono
theorem len_is_order {K : PySem.W.Frag} : ∀ args Q U, sp_is_order K args Q U → args.length = List.length P_is_order := by first | exact Sp1.len fun _ => rfl | exact SpE.len fun _ => rfl | exact SpEO.len fun _ => rfl
theorem mono_is_order_of {K : PySem.W.Frag} : Mono (sp_is_order_of K) := by first | exact Sp1.mono | exact SpE.mono | exact SpEO.mono
theorem len_is_order_of {K : PySem.W.Frag} : ∀ args Q U, sp_is_order_of K args Q U → args.length = List.length P_is_order_of := by first | exact Sp1.len fun _ => rfl | exact SpE.len fun _ => rfl | exact SpEO.len fun _ => rfl
theorem mono_check_orders {K : PySem.W.Frag} : Mono (sp_check_orders K) := by first | exact Sp1.mono | exact SpE.mono | exact SpEO.mono
theorem len_check_orders {K : PySem.W.Frag} : ∀ args Q U, sp_check_orders K args Q U → args.length = List.length P_check_orders := by first | exact Sp1.len fun _ => rfl | exact SpE.len fun _ => rfl | exact SpEO.len fun _ => rfl
theorem mono_Roll_init {K : PySem.W.Frag} : Mono (sp_Roll_init K) := by first | exact Sp1.mono | exact SpE.mono | exact SpEO.mono
theorem len_Roll_init {K : PySem.W.Frag} : ∀ args Q U, sp_Roll_init K args Q U → args.length = List.length P_Roll_init := by first | exact Sp1.len fun _ => rfl | exact SpE.len fun _ => rfl | exact SpEO.len fun _ => rfl
theorem mono_Roll_orders {K : PySem.W.Frag} : Mono (sp_Roll_orders K) := by first | exact Sp1.mono | exact SpE.mono | exact SpEO.mono
theorem len_Roll_orders {K : PySem.W.Frag} : ∀ args Q U, sp_Roll_orders K args Q U → args.length = List.length P_Roll_orders := by first | exact Sp1.len fun _ => rfl | exact SpE.len fun _ => rfl | exact SpEO.len fun _ => rfl
theorem mono_L_right {K : PySem.W.Frag} : Mono (sp_L_right K) := by first | exact Sp1.mono | exact SpE.mono | exact SpEO.mono
theorem len_L_right {K : PySem.W.Frag} : ∀ args Q U, sp_L_right K args Q U → args.length = List.length P_L_right := by first | exact Sp1.len fun _ => rfl | exact SpE.len fun _ => rfl | exact SpEO.len fun _ => rfl
theorem mono_L_jar {K : PySem.W.Frag} : Mono (sp_L_jar K) := by first | exact Sp1.mono | exact SpE.mono | exact SpEO.mono
theorem len_L_jar {K : PySem.W.Frag} : ∀ args Q U, sp_L_jar K args Q U → args.length = List.length P_L_jar := by first | exact Sp1.len fun _ => rfl | exact SpE.len fun _ => rfl | exact SpEO.len fun _ => rfl
theorem mono_law {K : PySem.W.Frag} : Mono (sp_law K) := by first | exact Sp1.mono | exact SpE.mono | exact SpEO.mono
theorem len_law {K : PySem.W.Frag} : ∀ args Q U, sp_law K args Q U → args.length = List.length P_law := by first | exact Sp1.len fun _ => rfl | exact SpE.len fun _ => rfl | exact SpEO.len fun _ => rfl
def m_L_caught (K : PySem.W.Frag) (f : Addr) (sa : SpD) : DSt := (dSeq (dTry (dSet 2 (dAct f sa)) [⟨[(He.ga K "InvalidOrders", true)], some 1, fun q => (dRet (dCallX q 1 (sp_L_shown K) daNil))⟩]) (dRet (dFr (dLst (daCons (dC (.str [116, 111, 108, 100])) (daCons (dVar 2) daNil))))))
def sp_L_caught (K : PySem.W.Frag) (sa : SpD) : SpD := fun args Q U => ∃ f, args = [fnSl f] ∧ m_L_caught K f sa (ends [fnSl f] Q U) (entry (List.length N_L_caught) [fnSl f])
theorem math_L_caught (K : PySem.W.Frag) : ∀ f sa Q U, sp_L_caught K sa [fnSl f] Q U → m_L_caught K f sa (ends [fnSl f] Q U) (entry (List.length N_L_caught) [fnSl f]) := fun f sa Q U ⟨f1, e, h⟩ => by
  obtain rfl : f = f1 := by injection e with e; injection e with e; injection e
  exact h
def m_L_dip (K : PySem.W.Frag) : DSt := (dSeq (dPut 0 (dC (.int 2)) (dBin oAdd (dIxO 0 (dC (.int 2))) (dC (.int 1)))) (dSeq (dIfS (dBl (dBin oGt (dIxO 0 (dC (.int 0))) (dC (.int 0)))) (dSeq (dSet 3 (dBin oMod (dCB (one oInt) (daCons (dIxO 0 (dC (.int 0))) daNil)) (dVar 1))) (dSeq (dPut 0 (dC (.int 0)) (dBin oDivQ (dCB (one oInt) (daCons (dIxO 0 (dC (.int 0))) daNil)) (dVar 1))) (dRet (dVar 3)))) dNext) (dSeq (dSet 2 (dCB (one oInt) (daCons (dIxO 0 (dC (.int 1))) daNil))) (dSeq (dPut 0 (dC (.int 1)) (dBin oMod (dCB (one oInt) (daCons (dBin oAdd (dBin oAdd (dBin oMul (dVar 2) (dC (.int 40692))) (dBin oMul (dIxO 0 (dC (.int 2))) (dC (.int 52021)))) (dC (.int 31))) daNil)) (dC (.int 2147483399)))) (dRet (dBin oMod (dCB (one oInt) (daCons (dBin oDivQ (dIxO 0 (dC (.int 1))) (dC (.int 2048))) daNil)) (dVar 1)))))))
def m_L_shuffled (K : PySem.W.Frag) : DSt := (dSeq (dParOD 3 4 (dCBO (oneO oList) (daCons (dVar 1) daNil)) (dC (.str []))) (dSeq (dFor (diRng1 (dOwn1 3 fLen)) (gN 2) (dSet 4 (dBin oAdd (dVar 4) (dPopAt 3 (dCall (sp_L_dip K) (daLend 0 (daCons (dOwn1 3 fLen) daNil))))))) (dRet (dVar 4))))
def m_L_hill (K : PySem.W.Frag) : DSt := (dSeq (dSet 2 (dCall (sp_L_dip K) (daLend 0 (daCons (dCB (one oLen) (daCons (dVar 1) daNil)) daNil)))) (dSeq (dPar3 4 5 6 (dBin oSub (dVar 2) (dC (.int 1))) (dBin oAdd (dVar 2) (dC (.int 1))) (dBin oIx (dVar 1) (dVar 2))) (dSeq (dFor (diRng1 (dBin oSub (dCB (one oLen) (daCons (dVar 1) daNil)) (dC (.int 1)))) (gN 3) (dIfS (dOr (dBl (dBin oEq (dVar 5) (dCB (one oLen) (daCons (dVar 1) daNil)))) (dAnd (dBl (dBin oGe (dVar 4) (dC (.int 0)))) (dBl (dBin oEq (dCall (sp_L_dip K) (daLend 0 (daCons (dC (.int 2)) daNil))) (dC (.int 0)))))) (dPar 6 4 (dBin oAdd (dVar 6) (dBin oIx (dVar 1) (dVar 4))) (dBin oSub (dVar 4) (dC (.int 1)))) (dPar 6 5 (dBin oAdd (dVar 6) (dBin oIx (dVar 1) (dVar 5))) (dBin oAdd (dVar 5) (dC (.int 1)))))) (dRet (dVar 6)))))
def m_L_lot_of (K : PySem.W.Frag) : DSt := (dSeq (dParDO 5 6 (dCall (sp_L_dip K) (daLend 0 (daCons (dC (.int 3)) daNil))) (dLst daNil)) (dSeq (dSet 3 (dCall (sp_L_shuffled K) (daLend 0 (daCons (dVar 1) daNil)))) (dSeq (dFor (diRng1 (dBin oAdd (dC (.int 1)) (dCall (sp_L_dip K) (daLend 0 (daCons (dVar 2) daNil))))) (gN 4) (dSeq (dSet 7 (dIf (dOr (dBl (dBin oEq (dVar 5) (dC (.int 0)))) (dBl (dBin oEq (dCall (sp_L_dip K) (daLend 0 (daCons (dC (.int 9)) daNil))) (dC (.int 0))))) (dCall (sp_L_shuffled K) (daLend 0 (daCons (dVar 1) daNil))) (dCall (sp_L_hill K) (daLend 0 (daCons (dVar 3) daNil))))) (dSeq (dIfS (dBl (dBin oEq (dVar 5) (dC (.int 2)))) (dSeq (dSet 8 (dCall (sp_L_dip K) (daLend 0 (daCons (dBin oSub (dCB (one oLen) (daCons (dVar 3) daNil)) (dC (.int 1))) daNil)))) (dSeq (dSet 9 (dBin oAdd (dBin oIx (dVar 3) (dBin oAdd (dVar 8) (dC (.int 1)))) (dBin oIx (dVar 3) (dVar 8)))) (dSeq (dSet 3 (dBin oAdd (dBin oAdd (dSl pNo (pSo (dVar 8)) (dVar 3)) (dVar 9)) (dSl (pSo (dBin oAdd (dVar 8) (dC (.int 2)))) pNo (dVar 3)))) (dSet 7 (dVar 3))))) dNext) (dDrop (dApp 6 (dVar 7)))))) (dRet (dCB (one oTuple) (daCons (dFr (dSortSet (dVar 6))) daNil))))))
def m_L_letters (K : PySem.W.Frag) : DSt := (dSeq (dParOO 3 4 (dCBO (oneO oList) (daCons (dC (.str [97, 98, 99, 100, 101, 102, 107, 109, 120, 121, 122])) daNil)) (dLst daNil)) (dSeq (dFor (diRng1 (dVar 1)) (gN 2) (dDrop (dApp 4 (dPopAt 3 (dCall (sp_L_dip K) (daLend 0 (daCons (dOwn1 3 fLen) daNil))))))) (dRet (dMt1 oJoin (dC (.str [])) (dFr (dCBO (oneO oSorted) (daCons (dVar 4) daNil)))))))
def m_L_roster (K : PySem.W.Frag) : DSt := (dRet (dCall (sp_L_lot_of K) (daLend 0 (daCons (dCall (sp_L_letters K) (daLend 0 (daCons (dBin oAdd (dC (.int 3)) (dCall (sp_L_dip K) (daLend 0 (daCons (dBin oSub (dVar 1) (dC (.int 2))) daNil)))) daNil))) (daCons (dVar 2) daNil)))))
def m_L_many (K : PySem.W.Frag) : DSt := (dSeq (dParOD 2 3 (dLst daNil) (dCall (sp_L_letters K) (daLend 0 (daCons (dC (.int 5)) daNil)))) (dSeq (dFor (diRng1 (dC (.int 150))) (gN 1) (dDrop (dApp 2 (dCall (sp_L_shuffled K) (daLend 0 (daCons (dVar 3) daNil)))))) (dRet (dCB (one oTuple) (daCons (dSl pNo (pSo (dBin oAdd (dC (.int 47)) (dCall (sp_L_dip K) (daLend 0 (daCons (dC (.int 4)) daNil))))) (dFr (dSortSetW (dVar 2)))) daNil)))))
def m_L_pick (K : PySem.W.Frag) : DSt := (dSeq (dSet 2 (dCall (sp_L_dip K) (daLend 0 (daCons (dCB (one oLen) (daCons (dVar 1) daNil)) daNil)))) (dRet (dBin oIx (dVar 1) (dVar 2))))
def m_L_odd (K : PySem.W.Frag) : DSt := (dSeq (dSet 1 (dFr (dLst (daCons (dC .non) (daCons (dC (.bl true)) (daCons (dC (.bl false)) (daCons (dC (.int 0)) (daCons (dC (.int 1)) (daCons (dUn oNeg (dC (.int 1))) (daCons (dC (.int 2)) (daCons (dBin oPow (dC (.int 10)) (dC (.int 30))) (daCons (dC (.str [])) daNil)))))))))))) (dSeq (dSet 1 (dBin oAdd (dVar 1) (dFr (dLst (daCons (dC (.str [97])) (daCons (dC (.str [97, 98])) (daCons (dC (.str [97, 98, 99])) (daCons (dC (.str [97, 99, 98])) (daCons (dTup daNil) (daCons (dTup (daCons (dC (.str [97, 98, 99])) daNil)) (daCons (dTup (daCons (dC (.int 1)) (daCons (dC (.int 1)) daNil))) (daCons (dFr (dLst (daCons (dC (.str [97, 98, 99])) daNil))) (daCons (dFr (dLst daNil)) daNil))))))))))))) (dRet (dCall (sp_L_pick K) (daLend 0 (daCons (dBin oAdd (dVar 1) (dFr (dLst (daCons (dFr dDict0) (daCons (dFr (dDictC [([97, 98, 99], 1)])) (daCons (dTup (daCons (dC .non) (daCons (dC (.int 0)) daNil))) (daCons (dC (.str [97, 98, 99, 10, 99, 98, 97])) (daCons (dTup (daCons (dTup (daCons (dC (.str [97, 98, 99])) daNil)) daNil)) (daCons (dTup (daCons (dC (.str [97, 98, 99])) (daCons (dC (.str [97, 98, 99])) daNil))) (daCons (dFr (dLst (daCons (dFr (dLst daNil)) daNil))) (daCons (dTup (daCons (dTup daNil) daNil)) (daCons (dC (.str [67, 65, 66])) daNil)))))))))))) daNil))))))
def m_L_bent (K : PySem.W.Frag) : DSt := (dSeq (dSet 2 (dCall (sp_L_dip K) (daLend 0 (daCons (dCB (one oLen) (daCons (dVar 1) daNil)) daNil)))) (dSeq (dSet 3 (dCB (one oStrX) (daCons (dBin oIx (dVar 1) (dVar 2)) daNil))) (dSeq (dSet 4 (dCall (sp_L_pick K) (daLend 0 (daCons (dC (.str [97, 98, 113, 65, 49, 32])) daNil)))) (dSeq (dSet 5 (dFr (dLst (daCons (dUn oBack (dVar 3)) (daCons (dBin oAdd (dVar 3) (dC (.str [113]))) (daCons (dSl (pSo (dC (.int 1))) pNo (dVar 3)) (daCons (dBin oAdd (dSl pNo (pSo (dC (.int 1))) (dVar 3)) (dVar 3)) (daCons (dBin oAdd (dVar 4) (dSl (pSo (dC (.int 1))) pNo (dVar 3))) daNil)))))))) (dSeq (dSet 5 (dBin oAdd (dVar 5) (dFr (dLst (daCons (dC .non) (daCons (dTup (daCons (dVar 3) daNil)) (daCons (dC (.int 0)) (daCons (dMt0 oUpper (dVar 3)) (daCons (dCall (sp_L_odd K) (daLend 0 daNil)) daNil))))))))) (dRet (dBin oAdd (dBin oAdd (dSl pNo (pSo (dVar 2)) (dVar 1)) (dTup (daCons (dCall (sp_L_pick K) (daLend 0 (daCons (dVar 5) daNil))) daNil))) (dSl (pSo (dBin oAdd (dVar 2) (dC (.int 1)))) pNo (dVar 1)))))))))
def m_L_lot_slip (K : PySem.W.Frag) : DSt := (dSeq (dIfS (dOr (dNot (dBl (dIsi (isB .tup []) (dVar 0)))) (dBl (dBin oEqU (dVar 0) (dTup daNil)))) (dRet (dFr (dLst (daCons (dC (.str [111, 114, 100, 101, 114, 115])) (daCons (dC (.str [78, 111, 110, 101])) daNil))))) dNext) (dSeq (dFor (diRng1 (dCB (one oLen) (daCons (dVar 0) daNil))) (gN 1) (dSeq (dSet 2 (dBin oIx (dVar 0) (dVar 1))) (dSeq (dIfS (dOr (dBl (dBin oEq (dVar 1) (dC (.int 48)))) (dOr (dNot (dBl (dIsi (isB .str []) (dVar 2)))) (dOr (dNot (dBl (dChain oLe oLe (dC (.int 3)) (dCB (one oLen) (daCons (dVar 2) daNil)) (dC (.int 6))))) (dBl (dBin oNe (dLenSetS (dVar 2)) (dCB (one oLen) (daCons (dVar 2) daNil))))))) (dRet (dFr (dLst (daCons (dC (.str [111, 114, 100, 101, 114, 115])) (daCons (dCB (one oReprX) (daCons (dVar 1) daNil)) daNil))))) dNext) (dSeq (dIfS (dOr (dBl (dBin oNe (dFr (dComp [3] (diAny (dVar 2)) (gN 3) (dNot (dBl (dChain oLe oLe (dC (.str [97])) (dVar 3) (dC (.str [122]))))) (dVar 3))) (dFr (dLst daNil)))) (dBl (dBin oNe (dFr (dCBO (oneO oSorted) (daCons (dVar 2) daNil))) (dFr (dCBO (oneO oSorted) (daCons (dBin oIx (dVar 0) (dC (.int 0))) daNil)))))) (dRet (dFr (dLst (daCons (dC (.str [111, 114, 100, 101, 114, 115])) (daCons (dCB (one oReprX) (daCons (dVar 1) daNil)) daNil))))) dNext) (dIfS (dAnd (dBl (dBin oGt (dVar 1) (dC (.int 0)))) (dNot (dBl (dBin oLt (dBin oIx (dVar 0) (dBin oSub (dVar 1) (dC (.int 1)))) (dVar 2))))) (dRet (dFr (dLst (daCons (dC (.str [111, 114, 100, 101, 114, 115])) (daCons (dCB (one oReprX) (daCons (dVar 1) daNil)) daNil))))) dNext))))) (dRet (dFr (dLst daNil)))))
def m_L_bases (K : PySem.W.Frag) (q : Addr × Obj) : DSt := (dSeq (dSetO 1 (dLst (daCons (dAndV (dIsE q 0 [(He.ga K "InvalidOrders", true)]) (dIsE q 0 [(He.ga K "InvalidOrders", true)])) daNil))) (dSeq (dDrop (dApp 1 (dAndV (dIsE q 0 [(He.ga K "InvalidOrders", false)]) (dIsE q 0 [(He.ga K "InvalidOrders", false)])))) (dRet (dBin oAdd (dVar 1) (dFr (dLst (daCons (dAndV (dIsE q 0 [(He.ga K "InvalidOrders", false)]) (dIsE q 0 [(He.ga K "InvalidOrders", false)])) daNil)))))))
def m_L_shown (K : PySem.W.Frag) (q : Addr × Obj) : DSt := (dRet (dFr (dLst (daCons (dIf (dAnd (dBl (dIsE q 0 [(He.ga K "InvalidOrders", true)])) (dBl (dBin oEq (dCallX q 0 (sp_L_bases K) daNil) (dFr (dLst (daCons (dC (.bl true)) (daCons (dC (.bl false)) (daCons (dC (.bl false)) daNil)))))))) (dC (.str [111, 114, 100, 101, 114, 115])) (dC (.str [111, 100, 100]))) (daCons (dCB (one oReprX) (daCons (dXf q 0 [He.ga K "InvalidOrders"] "index") daNil)) daNil)))))
def m_are_letters (K : PySem.W.Frag) : DSt := (dSeq (dIfS (dOr (dNot (dBl (dIsi (isB .str []) (dVar 0)))) (dNot (dBl (dChain oLe oLe (dVar 1) (dCB (one oLen) (daCons (dVar 0) daNil)) (dVar 2))))) (dRet (dC (.bl false))) dNext) (dRet (dCB (one oAll) (daCons (dFr (dComp [3] (diRng1 (dCB (one oLen) (daCons (dVar 0) daNil))) (gN 3) dYes (dAndV (dBin (oIn false) (dBin oIx (dVar 0) (dVar 3)) (dC (.str [97, 98, 99, 100, 101, 102, 103, 104, 105, 106, 107, 108, 109, 110, 111, 112, 113, 114, 115, 116, 117, 118, 119, 120, 121, 122]))) (dBin (oIn true) (dBin oIx (dVar 0) (dVar 3)) (dSl pNo (pSo (dVar 3)) (dVar 0)))))) daNil))))
def m_is_order (K : PySem.W.Frag) : DSt := (dRet (dCall (sp_are_letters K) (daCons (dVar 0) (daCons (dC (.int 3)) (daCons (dC (.int 6)) daNil)))))
def m_is_order_of (K : PySem.W.Frag) : DSt := (dRet (dAndV (dCall (sp_is_order K) (daCons (dVar 1) daNil)) (dBin oEq (dFr (dCBO (oneO oSorted) (daCons (dVar 1) daNil))) (dFr (dCBO (oneO oSorted) (daCons (dVar 0) daNil))))))
def m_check_orders (K : PySem.W.Frag) : DSt := (dSeq (dIfS (dOr (dNot (dBl (dIsi (isB .tup []) (dVar 0)))) (dBl (dBin oEqU (dVar 0) (dTup daNil)))) (dRaise (He.ga K "InvalidOrders") "index" (dC .non)) dNext) (dFor (diRng1 (dCB (one oLen) (daCons (dVar 0) daNil))) (gN 1) (dSeq (dIfS (dOr (dBl (dBin oEq (dVar 1) (dC (.int 48)))) (dNot (dBl (dCall (sp_is_order K) (daCons (dBin oIx (dVar 0) (dVar 1)) daNil))))) (dRaise (He.ga K "InvalidOrders") "index" (dVar 1)) dNext) (dIfS (dOr (dNot (dBl (dCall (sp_is_order_of K) (daCons (dBin oIx (dVar 0) (dC (.int 0))) (daCons (dBin oIx (dVar 0) (dVar 1)) daNil))))) (dAnd (dBl (dBin oGt (dVar 1) (dC (.int 0)))) (dNot (dBl (dBin oLt (dBin oIx (dVar 0) (dBin oSub (dVar 1) (dC (.int 1)))) (dBin oIx (dVar 0) (dVar 1))))))) (dRaise (He.ga K "InvalidOrders") "index" (dVar 1)) dNext))))
def m_Roll_init (K : PySem.W.Frag) : DSt := (dSeq (dDrop (dCall (sp_check_orders K) (daCons (dVar 1) daNil))) (dFldSet 0 [He.ga K "Roll"] "lot" (dVar 1)))
def m_Roll_orders (K : PySem.W.Frag) : DSt := (dRet (dFld [He.ga K "Roll"] "lot" (dVar 0)))
def m_L_right (K : PySem.W.Frag) : DSt := (dSeq (dFor (diRng1 (dC (.int 10))) (gN 1) (dSeq (dSet 2 (dIf (dBl (dBin oLt (dVar 1) (dC (.int 9)))) (dCall (sp_L_roster K) (daLend 0 (daCons (dC (.int 6)) (daCons (dC (.int 9)) daNil)))) (dCall (sp_L_many K) (daLend 0 daNil)))) (dSeq (dFor (diRng1 (dCall (sp_L_pick K) (daLend 0 (daCons (dFr (dLst (daCons (dC (.int 0)) (daCons (dC (.int 0)) (daCons (dC (.int 1)) (daCons (dC (.int 1)) (daCons (dC (.int 2)) daNil))))))) daNil)))) (gN 3) (dSet 2 (dCall (sp_L_bent K) (daLend 0 (daCons (dVar 2) daNil))))) (dSeq (dSet 2 (dCall (sp_L_pick K) (daLend 0 (daCons (dBin oAdd (dBin oMul (dFr (dLst (daCons (dVar 2) daNil))) (dC (.int 6))) (dFr (dLst (daCons (dUn oBackI (dVar 2)) (daCons (dFr (dCBO (oneO oList) (daCons (dVar 2) daNil))) (daCons (dTup daNil) (daCons (dCall (sp_L_odd K) (daLend 0 daNil)) daNil))))))) daNil)))) (dSeq (dPar 4 5 (dCall (sp_L_lot_slip K) (daCons (dVar 2) daNil)) (dLam (sp_L_caught K) (dFr (dMake (He.ga K "Roll") (sp_Roll_init K) (daKw 0 1 [0] daNil (daCons (dVar 2) daNil)))))) (dIfS (dOr (dAnd (dBl (dBin oNe (dVar 4) (dFr (dLst daNil)))) (dBl (dBin oNe (dVar 5) (dVar 4)))) (dAnd (dBl (dBin oEq (dVar 4) (dFr (dLst daNil)))) (dOr (dBl (dBin oNe (dBin oIx (dVar 5) (dC (.int 0))) (dC (.str [116, 111, 108, 100])))) (dBl (dBin oNe (dProp (He.ga K "Roll") (sp_Roll_orders K) (dBin oIx (dVar 5) (dC (.int 1)))) (dVar 2)))))) (dRet (dC (.bl false))) dNext)))))) (dRet (dC (.bl true))))
def m_L_jar (K : PySem.W.Frag) : DSt := (dSeq (dSet 2 (dBin oAdd (dBin oMul (dBin oMul (dC (.int 7369)) (dBin oAdd (dVar 1) (dC (.int 5)))) (dBin oAdd (dVar 1) (dC (.int 2)))) (dBin oMul (dC (.int 29)) (dCB (one oLen) (daCons (dVar 0) daNil))))) (dSeq (dFor (diAny (dSl pNo (pSo (dC (.int 4))) (dVar 0))) (gN 3) (dSet 2 (dBin oMod (dCB (one oInt) (daCons (dBin oAdd (dBin oMul (dVar 2) (dC (.int 733))) (dVar 3)) daNil)) (dC (.int 1000000009))))) (dSeq (dSet 4 (dIf (dBl (dBin oLt (dVar 1) (dCB (one oLen) (daCons (dVar 0) daNil)))) (dBin oIx (dVar 0) (dVar 1)) (dC (.int 0)))) (dSeq (dSet 5 (dIf (dOr (dBl (dBin oLt (dVar 4) (dC (.int 0)))) (dBl (dBin oGe (dVar 4) (dBin oPow (dC (.int 10)) (dC (.int 18)))))) (dCB (one oAbs) (daCons (dVar 4) daNil)) (dC (.int 0)))) (dRetO (dLst (daCons (dVar 5) (daCons (dBin oMod (dCB (one oInt) (daCons (dBin oAdd (dBin oAdd (dBin oMul (dVar 2) (dC (.int 8117))) (dBin oMul (dVar 4) (dC (.int 64013)))) (dBin oMul (dC (.int 105019)) (dBin oAdd (dVar 1) (dC (.int 1))))) daNil)) (dC (.int 2147483563))) (daCons (dC (.int 0)) daNil)))))))))
def m_law (K : PySem.W.Frag) : DSt := (dSeq (dFor (diRng1 (dCB (two (oInts maxI)) (daCons (dC (.int 2)) (daCons (dCB (two (oInts minI)) (daCons (dCB (one oLen) (daCons (dVar 0) daNil)) (daCons (dC (.int 5)) daNil))) daNil)))) (gN 1) (dIfS (dNot (dBl (dCallT (sp_L_right K) (dCallO (sp_L_jar K) (daCons (dVar 0) (daCons (dVar 1) daNil)))))) (dRet (dC (.bl false))) dNext)) (dRet (dC (.bl true))))
/-! ### reading on -/
theorem at0 {α : Type} (x : α) (xs : List α) : L2.atI (x :: xs) 0 = some x := by
  unfold L2.atI ixN
  rw [if_pos (by decide), if_pos (by simp only [List.length_cons]; omega)]
  rfl
theorem at1 {α : Type} (x y : α) (xs : List α) : L2.atI (x :: y :: xs) 1 = some y := by
  unfold L2.atI ixN
  rw [if_pos (by decide), if_pos (by simp only [List.length_cons]; omega)]
  rfl
theorem at2 {α : Type} (x y z : α) (xs : List α) : L2.atI (x :: y :: z :: xs) 2 = some z := by
  unfold L2.atI ixN
  rw [if_pos (by decide), if_pos (by simp only [List.length_cons]; omega)]
  rfl
theorem atN {α : Type} (xs : List α) (n : Nat) : L2.atI xs (n : Int) = xs[n]? := by
  unfold L2.atI ixN
  have h0 : (0 : Int) ≤ (n : Int) := by omega
  rw [if_pos h0]
  by_cases h : n < xs.length
  · rw [if_pos (by omega)]
    simp
  · rw [if_neg (by omega)]
    simp
    omega
theorem ix30 : ixN 3 0 = some 0 := rfl
theorem ix31 : ixN 3 1 = some 1 := rfl
theorem ix32 : ixN 3 2 = some 2 := rfl
theorem range_succ (lo : Int) (n : Nat) : rangeD lo (n + 1) = Dt.int lo :: rangeD (lo + 1) n := by
  unfold rangeD
  rw [List.range_succ_eq_map, List.map_cons, List.map_map]
  congr 1
  · simp
  · refine List.map_congr_left fun i _ => ?_
    simp only [Function.comp]
    congr 1
    omega
theorem comp_pure {g : DG} {t : DB} {e : DT} {vs : List Nat} {ρ : En} {R : List Dt → En → Prop} (p : Dt → Bool) (f : Dt → Dt) : ∀ (ds acc : List Dt),
    (∀ d ∈ ds, ∀ (k1 : Dt → En → Prop) (k2 : En → Prop), (if p d = true then k1 (f d) ρ else k2 ρ) → g d ρ (fun ρ1 => t ρ1 (fun k ρ2 => if k = true then e ρ2 (fun x ρ3 => k1 x (wipeD ρ3 vs)) (fun _ _ => False) else k2 (wipeD ρ2 vs)) (fun _ _ => False))) →
    R (acc ++ (ds.filter p).map f) ρ → compL g t e vs ds acc ρ R
  | [], acc, _, h => by
    have h' : R (acc ++ []) ρ := h
    rw [List.append_nil] at h'
    exact h'
  | d :: ds, acc, hs, h => by
    refine hs d List.mem_cons_self (fun x ρ' => compL g t e vs ds (acc ++ [x]) ρ' R) (fun ρ' => compL g t e vs ds acc ρ' R) ?_
    have hs' := fun d' (m : d' ∈ ds) => hs d' (List.mem_cons_of_mem _ m)
    split
    · rename_i q
      refine comp_pure p f ds _ hs' ?_
      rw [List.filter_cons_of_pos q] at h
      simpa using h
    · rename_i q
      refine comp_pure p f ds _ hs' ?_
      rw [List.filter_cons_of_neg q] at h
      exact h
theorem loop_ind {g : DG} {b : DSt} {D : DEn} (J : List Dt → En → Prop) (nil : ∀ ρ, J [] ρ → D.nx ρ) (cons : ∀ d ds ρ (k : En → Prop), J (d :: ds) ρ → (∀ ρ', J ds ρ' → k ρ') → g d ρ (fun ρ1 => b { D with nx := k, ct := k, bk := D.nx } ρ1)) :
    ∀ (ds : List Dt) (ρ : En), J ds ρ → dLoop g b ds D ρ
  | [], ρ, h => nil ρ h
  | d :: ds, ρ, h => cons d ds ρ (dLoop g b ds D) h fun ρ' h' => loop_ind J nil cons ds ρ' h'
theorem cut_map {α β : Type} (f : α → β) (l : List α) (lo hi : Option Int) : cutD (l.map f) lo hi = (cutD l lo hi).map f := by
  unfold cutD
  rw [List.length_map, List.map_take, List.map_drop]
theorem seq_step {a b : DSt} {D : DEn} {ρ : En} (h : ∀ k : En → Prop, (∀ ρ', b D ρ' → k ρ') → a { D with nx := k } ρ) : dSeq a b D ρ := h _ fun _ h => h
theorem shI {n : Nat} {i : Int} : Sh n (.int i) = True := by cases n <;> rfl
theorem shS {n : Nat} {i : List Nat} : Sh n (.str i) = True := by cases n <;> rfl
theorem shB {n : Nat} {i : Bool} : Sh n (.bl i) = True := by cases n <;> rfl
theorem shN {n : Nat} : Sh n .non = True := by cases n <;> rfl
theorem eqI {i j : Int} : eqD (.int i) (.int j) = (i == j) := by simp [eqD]
theorem eqS {i j : List Nat} : eqD (.str i) (.str j) = (i == j) := by simp [eqD]
theorem if_step {t : DB} {a b : DSt} {D : DEn} {ρ : En} (h : ∀ k : Bool → En → Prop, (∀ ρ', a D ρ' → k true ρ') → (∀ ρ', b D ρ' → k false ρ') → t ρ k D.ex) : dIfS t a b D ρ :=
  h (fun k ρ1 => if k = true then a D ρ1 else b D ρ1) (fun ρ' h => by rw [if_pos rfl]; exact h) (fun ρ' h => by rw [if_neg (by decide)]; exact h)
theorem ifv_step {t : DB} {a b : DT} {R : Dt → En → Prop} {U : XP} {ρ : En} (h : ∀ k : Bool → En → Prop, (∀ ρ', a ρ' R U → k true ρ') → (∀ ρ', b ρ' R U → k false ρ') → t ρ k U) : dIf t a b ρ R U :=
  h (fun k ρ1 => if k = true then a ρ1 R U else b ρ1 R U) (fun ρ' h => by rw [if_pos rfl]; exact h) (fun ρ' h => by rw [if_neg (by decide)]; exact h)
theorem beq_case {k : Bool → En → Prop} {a b : Int} {ρ : En} (h1 : a = b → k true ρ) (h2 : a ≠ b → k false ρ) : k (a == b) ρ := by
  by_cases h : a = b
  · rw [beq_iff_eq.mpr h]; exact h1 h
  · rw [beq_eq_false_iff_ne.mpr h]; exact h2 h
theorem cut_pre {α : Type} (xs : List α) (n : Nat) : cutD xs none (some (n : Int)) = xs.take n := by
  unfold cutD
  rw [HT.sIx_none, HT.sIx_nat, List.drop_zero, Nat.sub_zero]
  by_cases h : n ≤ xs.length
  · rw [Nat.min_eq_left h]
  · rw [Nat.min_eq_right (by omega), List.take_length, List.take_of_length_le (by omega)]
theorem cut_suf {α : Type} (xs : List α) (n : Nat) : cutD xs (some (n : Int)) none = xs.drop n := by
  unfold cutD
  rw [HT.sIx_none, HT.sIx_nat]
  by_cases h : n ≤ xs.length
  · rw [Nat.min_eq_left h, List.take_of_length_le (by rw [List.length_drop]; omega)]
  · rw [Nat.min_eq_right (by omega), List.drop_length, List.take_nil, List.drop_of_length_le (by omega)]
/-! ### loops and comprehensions over lists of a kind -/
theorem comp_of {α : Type} {g : DG} {t : DB} {e : DT} {vs : List Nat} {ρ : En} {R : List Dt → En → Prop} (enc : α → Dt) (p : α → Bool) (f : α → Dt) : ∀ (L : List α) (acc : List Dt),
    (∀ c ∈ L, ∀ (k1 : Dt → En → Prop) (k2 : En → Prop), (if p c = true then k1 (f c) ρ else k2 ρ) → g (enc c) ρ (fun ρ1 => t ρ1 (fun k ρ2 => if k = true then e ρ2 (fun x ρ3 => k1 x (wipeD ρ3 vs)) (fun _ _ => False) else k2 (wipeD ρ2 vs)) (fun _ _ => False))) →
    R (acc ++ (L.filter p).map f) ρ → compL g t e vs (L.map enc) acc ρ R
  | [], acc, _, h => by
    have h' : R (acc ++ []) ρ := h
    rw [List.append_nil] at h'
    exact h'
  | d :: ds, acc, hs, h => by
    refine hs d List.mem_cons_self (fun x ρ' => compL g t e vs (ds.map enc) (acc ++ [x]) ρ' R) (fun ρ' => compL g t e vs (ds.map enc) acc ρ' R) ?_
    have hs' := fun d' (m : d' ∈ ds) => hs d' (List.mem_cons_of_mem _ m)
    split
    · rename_i q
      refine comp_of enc p f ds _ hs' ?_
      rw [List.filter_cons_of_pos q] at h
      simpa using h
    · rename_i q
      refine comp_of enc p f ds _ hs' ?_
      rw [List.filter_cons_of_neg q] at h
      exact h
theorem loop_of {α : Type} {g : DG} {b : DSt} {D : DEn} (enc : α → Dt) (L : List α) (J : List α → En → Prop) {ρ : En} (h0 : J [] ρ)
    (step : ∀ (A : List α) (x : α) (B : List α) (ρ : En) (k : En → Prop), A ++ x :: B = L → J A ρ → (∀ ρ', J (A ++ [x]) ρ' → k ρ') → g (enc x) ρ (fun ρ1 => b { D with nx := k, ct := k, bk := D.nx } ρ1))
    (fin : ∀ ρ, J L ρ → D.nx ρ) : dLoop g b (L.map enc) D ρ := by
  refine loop_ind (fun ds ρ => ∃ A B, A ++ B = L ∧ ds = B.map enc ∧ J A ρ) ?_ ?_ _ _ ⟨[], L, rfl, rfl, h0⟩
  · rintro ρ ⟨A, B, e1, e2, hJ⟩
    have : B = [] := List.map_eq_nil_iff.mp e2.symm
    subst this
    rw [List.append_nil] at e1
    subst e1
    exact fin ρ hJ
  · rintro d ds ρ k ⟨A, B, e1, e2, hJ⟩ hk
    cases B with
    | nil => cases e2
    | cons x B =>
      obtain ⟨rfl, rfl⟩ := List.cons.inj e2
      exact step A x B ρ k e1 hJ fun ρ' h' => hk ρ' ⟨A ++ [x], B, by simpa using e1, rfl, h'⟩
theorem loop_range {g : DG} {b : DSt} {D : DEn} (lo : Int) (n : Nat) (J : Nat → En → Prop) {ρ : En} (h0 : J 0 ρ)
    (step : ∀ (i : Nat) (ρ : En) (k : En → Prop), i < n → J i ρ → (∀ ρ', J (i + 1) ρ' → k ρ') → g (.int (lo + (i : Nat))) ρ (fun ρ1 => b { D with nx := k, ct := k, bk := D.nx } ρ1))
    (fin : ∀ ρ, J n ρ → D.nx ρ) : dLoop g b (rangeD lo n) D ρ := by
  have eI : ∀ (A : List Nat) (x : Nat) (B : List Nat), A ++ x :: B = List.range n → x = A.length := fun A x B e => by
    have h1 : (List.range n)[A.length]? = some x := by rw [← e]; simp
    have h2 : A.length < n := by
      have := congrArg List.length e
      rw [List.length_append, List.length_cons, List.length_range] at this
      omega
    rw [List.getElem?_range h2] at h1
    exact (Option.some.inj h1).symm
  refine loop_of (fun i : Nat => Dt.int (lo + (i : Nat))) (List.range n) (fun A ρ => J A.length ρ) h0 (fun A x B ρ k e hJ hk => ?_) fun ρ h => fin ρ (by rw [List.length_range] at h; exact h)
  obtain rfl := eI A x B e
  have lt : A.length < n := by
    have := congrArg List.length e
    rw [List.length_append, List.length_cons, List.length_range] at this
    omega
  exact step _ ρ k lt hJ fun ρ' h => hk ρ' (by rw [List.length_append, List.length_singleton]; exact h)
/-! ### sorting by a key -/
theorem eq_nilL (ds : List Dt) : eqD (.lst ds) (.lst []) = ds.isEmpty := by
  cases ds <;> simp [eqD, eqDs]
/-! ### slots by their places -/
theorem log_w {w : Int} (h0 : 0 < w) (h1 : w ≤ 10 ^ 30) : w.natAbs.log2 < 8000 := by
  have : w.natAbs < 2 ^ 100 := by
    have : (10 : Int) ^ 30 < 2 ^ 100 := by decide
    omega
  exact Nat.lt_trans ((Nat.log2_lt (by omega)).mpr this) (by decide)
theorem math_L_dip (K : PySem.W.Frag) : ∀ args Q U, sp_L_dip K args Q U → m_L_dip K (ends args Q U) (entry (List.length N_L_dip) args) := by
  rintro args Q U ⟨⟨⟨b, p, a, x, c⟩, w⟩, rfl, ⟨h0, h1⟩, hQ⟩
  have h0 : 0 < w := h0
  have h1 : w ≤ 10 ^ 30 := h1
  have fin : ∀ r j, 0 ≤ r → r < w → Q (.d (.int r)) [jr j] := fun r j r0 r1 => hQ (r, j) ⟨r0, r1⟩
  have hw : ∀ i, CDivQ i w := fun i => divq h0 (log_w h0 h1)
  have h2 : ∀ i, CDivQ i 2048 := fun i => divq (by decide) (by decide)
  simp only [m_L_dip, oDivQ, entry, lend, jr, List.map_cons, List.map_nil, List.length_cons, List.length_nil, List.replicate_succ, List.replicate_zero, List.cons_append, List.nil_append, List.append_nil, Nat.reduceAdd, Nat.reduceSub, Nat.reduceMul, Nat.zero_add, dSeq, dNext, dSet, dSetO, dPut, dPar, dPar3, dParOD, dParOO, dParDO, dIfS, dRet, dRetO, dRetN, dDrop, dBin, dUn, dC, dVar, dCB, dCBO, daCons, daNil, daLend, dats, one, two, oneO, dIxO, dOwn1, dOwn2, fIx, fLen, dBl, dTru, dNot, dAnd, dOr, dIf, dAndV, dOrV, dNotV, dChain, dFr, dTup, dLst, dApp, dPopAt, dFor, diRng1, diRng2, diAny, gN, items, itemsD, oAdd, oSub, oMul, oDiv, oMod, oPow, oNeg, oCmp, oLt, oLe, oGt, oGe, oEq, oNe, oIn, oIsN, oNotN, isN, oIx, oLen, lenD, oInt, oAbs, oInts, oBool, oTuple, oAll, oAny, oSum, oSumA, oSl, dSl, pNo, pSo, oSorted, oList, oJoin, dMt1, dCall, dCallO, dCallT, argsOf, lent, opt, truth, MO.toD, Rv.toD, putOuts, putMO, List.getElem?_cons_zero, List.getElem?_cons_succ, List.set_cons_zero, List.set_cons_succ, Option.map_some, dIsi, dNo, at0, at1, at2, ix30, ix31, ix32, ends, outW, dComp, dYes, wipeD, back, dMake, dMeth, dLenSetS, oInD, dDict0, dDPut, dGet, dPar3DDO, dProp, dFld, dFldO, dFldSet, dSortSet, daKw, decide_eq_true_eq, shI, shS, shB, shN, eqI, eqS, true_and, List.contains_nil, beq_iff_eq, ↓reduceIte, Bool.false_eq_true]
  split
  · exact ⟨h0, hw _, fin _ (_, _, _) (Int.emod_nonneg _ (by omega)) (Int.emod_lt_of_pos _ h0)⟩
  · refine ⟨.inr (by decide), .inr (by decide), by decide, h2 _, h0, fin _ (_, _, _) (Int.emod_nonneg _ (by omega)) (Int.emod_lt_of_pos _ h0)⟩
theorem use_dipW {K : PySem.W.Frag} {b : Bool} {p : Addr} {a x c w : Int} {Q : Rv → List MO → Prop} {U : Xn → List MO → Prop} (h0 : 0 < w) (h1 : w ≤ 10 ^ 30) (h : ∀ r (j : Jr), 0 ≤ r → r < w → Q (.d (.int r)) [jr j]) :
    sp_L_dip K [.own b p (.lst [.int a, .int x, .int c]), .dat (.int w)] Q U := ⟨((b, p, a, x, c), w), rfl, ⟨h0, h1⟩, fun y hy => h y.1 y.2 hy.1 hy.2⟩
/-- what is wanted of a draw, by its user -/
theorem use_dip {K : PySem.W.Frag} {b : Bool} {p : Addr} {a x c w : Int} {Q : Rv → List MO → Prop} {U : Xn → List MO → Prop} (h0 : 0 < w) (h1 : w ≤ 1000) (h : ∀ r (j : Jr), 0 ≤ r → r < w → Q (.d (.int r)) [jr j]) :
    sp_L_dip K [.own b p (.lst [.int a, .int x, .int c]), .dat (.int w)] Q U := use_dipW h0 (Int.le_trans h1 (by decide)) h
theorem math_L_jar (K : PySem.W.Frag) : ∀ args Q U, sp_L_jar K args Q U → m_L_jar K (ends args Q U) (entry (List.length N_L_jar) args) := by
  rintro args Q U ⟨⟨xs, k⟩, rfl, ⟨h0, h1, h2⟩, hQ⟩
  have h0 : xs.length ≤ 63 := h0
  have h1 : 0 ≤ k := h1
  have h2 : k ≤ 100 := h2
  have fin : ∀ j, Q (.o (jr j)) [] := fun j => hQ j trivial
  simp only [m_L_jar, entry, lend, jr, List.map_cons, List.map_nil, List.length_cons, List.length_nil, List.replicate_succ, List.replicate_zero, List.cons_append, List.nil_append, List.append_nil, Nat.reduceAdd, Nat.reduceSub, Nat.reduceMul, Nat.zero_add, dSeq, dNext, dSet, dSetO, dPut, dPar, dPar3, dParOD, dParOO, dParDO, dIfS, dRet, dRetO, dRetN, dDrop, dBin, dUn, dC, dVar, dCB, dCBO, daCons, daNil, daLend, dats, one, two, oneO, dIxO, dOwn1, dOwn2, fIx, fLen, dBl, dTru, dNot, dAnd, dOr, dIf, dAndV, dOrV, dNotV, dChain, dFr, dTup, dLst, dApp, dPopAt, dFor, diRng1, diRng2, diAny, gN, items, itemsD, oAdd, oSub, oMul, oDiv, oMod, oPow, oNeg, oCmp, oLt, oLe, oGt, oGe, oEq, oNe, oIn, oIsN, oNotN, isN, oIx, oLen, lenD, oInt, oAbs, oInts, oBool, oTuple, oAll, oAny, oSum, oSumA, oSl, dSl, pNo, pSo, oSorted, oList, oJoin, dMt1, dCall, dCallO, dCallT, argsOf, lent, opt, truth, MO.toD, Rv.toD, putOuts, putMO, List.getElem?_cons_zero, List.getElem?_cons_succ, List.set_cons_zero, List.set_cons_succ, Option.map_some, dIsi, dNo, at0, at1, at2, ix30, ix31, ix32, ends, outW, dComp, dYes, wipeD, back, dMake, dMeth, dLenSetS, oInD, dDict0, dDPut, dGet, dPar3DDO, dProp, dFld, dFldO, dFldSet, dSortSet, daKw, decide_eq_true_eq, shI, shS, shB, shN, eqI, eqS, true_and, List.contains_nil, beq_iff_eq, ↓reduceIte, Bool.false_eq_true]
  refine ⟨.inl (by decide), .inr (by omega), .inl (by decide), ?_⟩
  rw [cut_map]
  refine loop_ind (fun ds ρ => ∃ (ys : List Int) (c : Int) (s : Sl), ds = ys.map Dt.int ∧ ρ = [.dat (.scr (xs.map .int)), .dat (.int k), .dat (.int c), s, .no, .no]) ?_ ?_ _ _ ⟨_, _, _, rfl, rfl⟩
  · rintro ρ ⟨ys, c, s, e, rfl⟩
    have m1 : CMul c 8117 := .inr (by decide)
    have m2 : ∀ z, CMul z 64013 := fun z => .inr (by decide)
    have m3 : ∀ z, CMul 105019 z := fun z => .inl (by decide)
    have pw : CPow 10 18 := by unfold CPow; decide
    have l3 : 3 ≤ sizeLine := kilo_line (by decide)
    simp only [entry, lend, jr, List.map_cons, List.map_nil, List.length_cons, List.length_nil, List.replicate_succ, List.replicate_zero, List.cons_append, List.nil_append, List.append_nil, Nat.reduceAdd, Nat.reduceSub, Nat.reduceMul, Nat.zero_add, dSeq, dNext, dSet, dSetO, dPut, dPar, dPar3, dParOD, dParOO, dParDO, dIfS, dRet, dRetO, dRetN, dDrop, dBin, dUn, dC, dVar, dCB, dCBO, daCons, daNil, daLend, dats, one, two, oneO, dIxO, dOwn1, dOwn2, fIx, fLen, dBl, dTru, dNot, dAnd, dOr, dIf, dAndV, dOrV, dNotV, dChain, dFr, dTup, dLst, dApp, dPopAt, dFor, diRng1, diRng2, diAny, gN, items, itemsD, oAdd, oSub, oMul, oDiv, oMod, oPow, oNeg, oCmp, oLt, oLe, oGt, oGe, oEq, oNe, oIn, oIsN, oNotN, isN, oIx, oLen, lenD, oInt, oAbs, oInts, oBool, oTuple, oAll, oAny, oSum, oSumA, oSl, dSl, pNo, pSo, oSorted, oList, oJoin, dMt1, dCall, dCallO, dCallT, argsOf, lent, opt, truth, MO.toD, Rv.toD, putOuts, putMO, List.getElem?_cons_zero, List.getElem?_cons_succ, List.set_cons_zero, List.set_cons_succ, Option.map_some, dIsi, dNo, at0, at1, at2, ix30, ix31, ix32, ends, outW, dComp, dYes, wipeD, back, dMake, dMeth, dLenSetS, oInD, dDict0, dDPut, dGet, dPar3DDO, dProp, dFld, dFldO, dFldSet, dSortSet, daKw, decide_eq_true_eq, shI, shS, shB, shN, eqI, eqS, true_and, List.contains_nil, beq_iff_eq, ↓reduceIte, Bool.false_eq_true]
    split
    · rename_i hk
      rw [List.length_map] at hk
      have hlt : k.toNat < xs.length := by omega
      have ek : k = ((k.toNat : Nat) : Int) := by omega
      rw [ek, atN, List.getElem?_map, List.getElem?_eq_getElem hlt]
      simp only [entry, lend, jr, List.map_cons, List.map_nil, List.length_cons, List.length_nil, List.replicate_succ, List.replicate_zero, List.cons_append, List.nil_append, List.append_nil, Nat.reduceAdd, Nat.reduceSub, Nat.reduceMul, Nat.zero_add, dSeq, dNext, dSet, dSetO, dPut, dPar, dPar3, dParOD, dParOO, dParDO, dIfS, dRet, dRetO, dRetN, dDrop, dBin, dUn, dC, dVar, dCB, dCBO, daCons, daNil, daLend, dats, one, two, oneO, dIxO, dOwn1, dOwn2, fIx, fLen, dBl, dTru, dNot, dAnd, dOr, dIf, dAndV, dOrV, dNotV, dChain, dFr, dTup, dLst, dApp, dPopAt, dFor, diRng1, diRng2, diAny, gN, items, itemsD, oAdd, oSub, oMul, oDiv, oMod, oPow, oNeg, oCmp, oLt, oLe, oGt, oGe, oEq, oNe, oIn, oIsN, oNotN, isN, oIx, oLen, lenD, oInt, oAbs, oInts, oBool, oTuple, oAll, oAny, oSum, oSumA, oSl, dSl, pNo, pSo, oSorted, oList, oJoin, dMt1, dCall, dCallO, dCallT, argsOf, lent, opt, truth, MO.toD, Rv.toD, putOuts, putMO, List.getElem?_cons_zero, List.getElem?_cons_succ, List.set_cons_zero, List.set_cons_succ, Option.map_some, dIsi, dNo, at0, at1, at2, ix30, ix31, ix32, ends, outW, dComp, dYes, wipeD, back, dMake, dMeth, dLenSetS, oInD, dDict0, dDPut, dGet, dPar3DDO, dProp, dFld, dFldO, dFldSet, dSortSet, daKw, decide_eq_true_eq, shI, shS, shB, shN, eqI, eqS, true_and, List.contains_nil, beq_iff_eq, ↓reduceIte, Bool.false_eq_true]
      repeat' first | exact ⟨m1, m2 _, m3 _, by decide, l3, fin (_, _, _)⟩ | (refine ⟨pw, ?_⟩) | split
    · repeat' first | exact ⟨m1, m2 _, m3 _, by decide, l3, fin (_, _, _)⟩ | (refine ⟨pw, ?_⟩) | split
  · rintro d ds ρ k' ⟨ys, c, s, e, rfl⟩ hk
    cases ys with
    | nil => cases e
    | cons y ys =>
      obtain ⟨rfl, rfl⟩ := List.cons.inj e
      simp only [entry, lend, jr, List.map_cons, List.map_nil, List.length_cons, List.length_nil, List.replicate_succ, List.replicate_zero, List.cons_append, List.nil_append, List.append_nil, Nat.reduceAdd, Nat.reduceSub, Nat.reduceMul, Nat.zero_add, dSeq, dNext, dSet, dSetO, dPut, dPar, dPar3, dParOD, dParOO, dParDO, dIfS, dRet, dRetO, dRetN, dDrop, dBin, dUn, dC, dVar, dCB, dCBO, daCons, daNil, daLend, dats, one, two, oneO, dIxO, dOwn1, dOwn2, fIx, fLen, dBl, dTru, dNot, dAnd, dOr, dIf, dAndV, dOrV, dNotV, dChain, dFr, dTup, dLst, dApp, dPopAt, dFor, diRng1, diRng2, diAny, gN, items, itemsD, oAdd, oSub, oMul, oDiv, oMod, oPow, oNeg, oCmp, oLt, oLe, oGt, oGe, oEq, oNe, oIn, oIsN, oNotN, isN, oIx, oLen, lenD, oInt, oAbs, oInts, oBool, oTuple, oAll, oAny, oSum, oSumA, oSl, dSl, pNo, pSo, oSorted, oList, oJoin, dMt1, dCall, dCallO, dCallT, argsOf, lent, opt, truth, MO.toD, Rv.toD, putOuts, putMO, List.getElem?_cons_zero, List.getElem?_cons_succ, List.set_cons_zero, List.set_cons_succ, Option.map_some, dIsi, dNo, at0, at1, at2, ix30, ix31, ix32, ends, outW, dComp, dYes, wipeD, back, dMake, dMeth, dLenSetS, oInD, dDict0, dDPut, dGet, dPar3DDO, dProp, dFld, dFldO, dFldSet, dSortSet, daKw, decide_eq_true_eq, shI, shS, shB, shN, eqI, eqS, true_and, List.contains_nil, beq_iff_eq, ↓reduceIte, Bool.false_eq_true]
      exact ⟨.inr (by decide), by decide, hk _ ⟨ys, _, _, rfl, rfl⟩⟩
theorem seq_ix {n : Nat} {i : Int} (h0 : 0 ≤ i) (h1 : i < n) : seqIndex? i n = some i.toNat := by
  unfold seqIndex?
  first
    | (rw [if_neg (by omega)]; simp; omega)
    | (simp; omega)
theorem ch_get {L : List Nat} {j : Nat} (h : j < L.length) : (L.map fun c => Dt.str [c])[j]? = some (.str [L[j]]) := by
  rw [List.getElem?_map, List.getElem?_eq_getElem h]
  rfl
theorem ch_erase (L : List Nat) (j : Nat) : (L.map fun c => Dt.str [c]).eraseIdx j = (L.eraseIdx j).map fun c => Dt.str [c] := by
  induction L generalizing j with
  | nil => rfl
  | cons c L ih =>
    cases j with
    | zero => rfl
    | succ j => simpa using ih j
theorem erase_perm {α : Type} {L : List α} {j : Nat} (h : j < L.length) : (L[j] :: L.eraseIdx j).Perm L := by
  induction L generalizing j with
  | nil => simp at h
  | cons c L ih =>
    cases j with
    | zero => exact List.Perm.refl _
    | succ j => exact (List.Perm.swap c _ _).trans ((ih (j := j) (by simpa using h)).cons c)
/-- the shuffling's and the letters' loops: one more is taken -/
theorem take_one {α : Type} {L R M : List α} {j : Nat} (p : (M ++ R).Perm L) (h : j < R.length) : ((M ++ [R[j]]) ++ R.eraseIdx j).Perm L := by
  refine List.Perm.trans ?_ p
  rw [List.append_assoc]
  exact (erase_perm h).append_left M
theorem math_L_shuffled (K : PySem.W.Frag) : ∀ args Q U, sp_L_shuffled K args Q U → m_L_shuffled K (ends args Q U) (entry (List.length N_L_shuffled) args) := by
  rintro args Q U ⟨⟨⟨b, p, j⟩, L⟩, rfl, hL, hQ⟩
  have hL : L.length ≤ 26 := hL
  have fin : ∀ M j, M.Perm L → Q (.d (.str M)) [jr j] := fun M j h => hQ (M, j) h
  simp only [m_L_shuffled, entry, lend, jr, List.map_cons, List.map_nil, List.length_cons, List.length_nil, List.replicate_succ, List.replicate_zero, List.cons_append, List.nil_append, List.append_nil, Nat.reduceAdd, Nat.reduceSub, Nat.reduceMul, Nat.zero_add, dSeq, dNext, dSet, dSetO, dPut, dPar, dPar3, dParOD, dParOO, dParDO, dIfS, dRet, dRetO, dRetN, dDrop, dBin, dUn, dC, dVar, dCB, dCBO, daCons, daNil, daLend, dats, one, two, oneO, dIxO, dOwn1, dOwn2, fIx, fLen, dBl, dTru, dNot, dAnd, dOr, dIf, dAndV, dOrV, dNotV, dChain, dFr, dTup, dLst, dApp, dPopAt, dFor, diRng1, diRng2, diAny, gN, items, itemsD, oAdd, oSub, oMul, oDiv, oMod, oPow, oNeg, oCmp, oLt, oLe, oGt, oGe, oEq, oNe, oIn, oIsN, oNotN, isN, oIx, oLen, lenD, oInt, oAbs, oInts, oBool, oTuple, oAll, oAny, oSum, oSumA, oSl, dSl, pNo, pSo, oSorted, oList, oJoin, dMt1, dCall, dCallO, dCallT, argsOf, lent, opt, truth, MO.toD, Rv.toD, putOuts, putMO, List.getElem?_cons_zero, List.getElem?_cons_succ, List.set_cons_zero, List.set_cons_succ, Option.map_some, dIsi, dNo, at0, at1, at2, ix30, ix31, ix32, ends, outW, dComp, dYes, wipeD, back, dMake, dMeth, dLenSetS, oInD, dDict0, dDPut, dGet, dPar3DDO, dProp, dFld, dFldO, dFldSet, dSortSet, daKw, decide_eq_true_eq, shI, shS, shB, shN, eqI, eqS, true_and, List.contains_nil, beq_iff_eq, ↓reduceIte, Bool.false_eq_true]
  intro q
  refine ⟨by omega, by simp; omega, ?_⟩
  refine loop_ind (fun ds ρ => ∃ (M R : List Nat) (j : Jr) (lo : Int) (s : Sl), ds = rangeD lo R.length ∧ (M ++ R).Perm L ∧ ρ = [.own true p (jr j), .dat (.str L), s, .own false q (.lst (R.map fun c => Dt.str [c])), .dat (.str M)]) ?_ ?_ _ _ ⟨[], L, j, 0, .no, by simp, List.Perm.refl _, rfl⟩
  · rintro ρ ⟨M, R, j, lo, s, e, pm, rfl⟩
    have : R = [] := by
      cases R with
      | nil => rfl
      | cons c R => rw [List.length_cons, range_succ] at e; cases e
    subst this
    rw [List.append_nil] at pm
    simp only [entry, lend, jr, List.map_cons, List.map_nil, List.length_cons, List.length_nil, List.replicate_succ, List.replicate_zero, List.cons_append, List.nil_append, List.append_nil, Nat.reduceAdd, Nat.reduceSub, Nat.reduceMul, Nat.zero_add, dSeq, dNext, dSet, dSetO, dPut, dPar, dPar3, dParOD, dParOO, dParDO, dIfS, dRet, dRetO, dRetN, dDrop, dBin, dUn, dC, dVar, dCB, dCBO, daCons, daNil, daLend, dats, one, two, oneO, dIxO, dOwn1, dOwn2, fIx, fLen, dBl, dTru, dNot, dAnd, dOr, dIf, dAndV, dOrV, dNotV, dChain, dFr, dTup, dLst, dApp, dPopAt, dFor, diRng1, diRng2, diAny, gN, items, itemsD, oAdd, oSub, oMul, oDiv, oMod, oPow, oNeg, oCmp, oLt, oLe, oGt, oGe, oEq, oNe, oIn, oIsN, oNotN, isN, oIx, oLen, lenD, oInt, oAbs, oInts, oBool, oTuple, oAll, oAny, oSum, oSumA, oSl, dSl, pNo, pSo, oSorted, oList, oJoin, dMt1, dCall, dCallO, dCallT, argsOf, lent, opt, truth, MO.toD, Rv.toD, putOuts, putMO, List.getElem?_cons_zero, List.getElem?_cons_succ, List.set_cons_zero, List.set_cons_succ, Option.map_some, dIsi, dNo, at0, at1, at2, ix30, ix31, ix32, ends, outW, dComp, dYes, wipeD, back, dMake, dMeth, dLenSetS, oInD, dDict0, dDPut, dGet, dPar3DDO, dProp, dFld, dFldO, dFldSet, dSortSet, daKw, decide_eq_true_eq, shI, shS, shB, shN, eqI, eqS, true_and, List.contains_nil, beq_iff_eq, ↓reduceIte, Bool.false_eq_true]
    exact fin M j pm
  · rintro d ds ρ k' ⟨M, R, j, lo, s, e, pm, rfl⟩ hk
    cases R with
    | nil => cases e
    | cons c R =>
      rw [List.length_cons, range_succ] at e
      obtain ⟨rfl, rfl⟩ := List.cons.inj e
      have hlen := pm.length_eq
      rw [List.length_append, List.length_cons] at hlen
      simp only [entry, lend, jr, List.map_cons, List.map_nil, List.length_cons, List.length_nil, List.replicate_succ, List.replicate_zero, List.cons_append, List.nil_append, List.append_nil, Nat.reduceAdd, Nat.reduceSub, Nat.reduceMul, Nat.zero_add, dSeq, dNext, dSet, dSetO, dPut, dPar, dPar3, dParOD, dParOO, dParDO, dIfS, dRet, dRetO, dRetN, dDrop, dBin, dUn, dC, dVar, dCB, dCBO, daCons, daNil, daLend, dats, one, two, oneO, dIxO, dOwn1, dOwn2, fIx, fLen, dBl, dTru, dNot, dAnd, dOr, dIf, dAndV, dOrV, dNotV, dChain, dFr, dTup, dLst, dApp, dPopAt, dFor, diRng1, diRng2, diAny, gN, items, itemsD, oAdd, oSub, oMul, oDiv, oMod, oPow, oNeg, oCmp, oLt, oLe, oGt, oGe, oEq, oNe, oIn, oIsN, oNotN, isN, oIx, oLen, lenD, oInt, oAbs, oInts, oBool, oTuple, oAll, oAny, oSum, oSumA, oSl, dSl, pNo, pSo, oSorted, oList, oJoin, dMt1, dCall, dCallO, dCallT, argsOf, lent, opt, truth, MO.toD, Rv.toD, putOuts, putMO, List.getElem?_cons_zero, List.getElem?_cons_succ, List.set_cons_zero, List.set_cons_succ, Option.map_some, dIsi, dNo, at0, at1, at2, ix30, ix31, ix32, ends, outW, dComp, dYes, wipeD, back, dMake, dMeth, dLenSetS, oInD, dDict0, dDPut, dGet, dPar3DDO, dProp, dFld, dFldO, dFldSet, dSortSet, daKw, decide_eq_true_eq, shI, shS, shB, shN, eqI, eqS, true_and, List.contains_nil, beq_iff_eq, ↓reduceIte, Bool.false_eq_true]
      refine use_dip (by first | omega | (simp; done) | (simp; omega)) (by first | omega | (simp; done) | (simp; omega)) fun r j' r0 r1 => ?_
      have r1' : r < (((c :: R).length : Nat) : Int) := by simpa using r1
      simp only [entry, lend, jr, List.map_cons, List.map_nil, List.length_cons, List.length_nil, List.replicate_succ, List.replicate_zero, List.cons_append, List.nil_append, List.append_nil, Nat.reduceAdd, Nat.reduceSub, Nat.reduceMul, Nat.zero_add, dSeq, dNext, dSet, dSetO, dPut, dPar, dPar3, dParOD, dParOO, dParDO, dIfS, dRet, dRetO, dRetN, dDrop, dBin, dUn, dC, dVar, dCB, dCBO, daCons, daNil, daLend, dats, one, two, oneO, dIxO, dOwn1, dOwn2, fIx, fLen, dBl, dTru, dNot, dAnd, dOr, dIf, dAndV, dOrV, dNotV, dChain, dFr, dTup, dLst, dApp, dPopAt, dFor, diRng1, diRng2, diAny, gN, items, itemsD, oAdd, oSub, oMul, oDiv, oMod, oPow, oNeg, oCmp, oLt, oLe, oGt, oGe, oEq, oNe, oIn, oIsN, oNotN, isN, oIx, oLen, lenD, oInt, oAbs, oInts, oBool, oTuple, oAll, oAny, oSum, oSumA, oSl, dSl, pNo, pSo, oSorted, oList, oJoin, dMt1, dCall, dCallO, dCallT, argsOf, lent, opt, truth, MO.toD, Rv.toD, putOuts, putMO, List.getElem?_cons_zero, List.getElem?_cons_succ, List.set_cons_zero, List.set_cons_succ, Option.map_some, dIsi, dNo, at0, at1, at2, ix30, ix31, ix32, ends, outW, dComp, dYes, wipeD, back, dMake, dMeth, dLenSetS, oInD, dDict0, dDPut, dGet, dPar3DDO, dProp, dFld, dFldO, dFldSet, dSortSet, daKw, decide_eq_true_eq, shI, shS, shB, shN, eqI, eqS, true_and, List.contains_nil, beq_iff_eq, ↓reduceIte, Bool.false_eq_true]
      refine ⟨⟨by omega, by simp at r1'; omega⟩, ?_⟩
      have hs : seqIndex? r ((List.map (fun c => Dt.str [c]) R).length + 1) = some r.toNat := seq_ix r0 (by simpa using r1')
      have hr : r.toNat < (c :: R).length := by omega
      have hg := ch_get hr
      have he := ch_erase (c :: R) r.toNat
      simp only [List.map_cons] at hg he
      rw [hs]
      simp only [entry, lend, jr, List.map_cons, List.map_nil, List.length_cons, List.length_nil, List.replicate_succ, List.replicate_zero, List.cons_append, List.nil_append, List.append_nil, Nat.reduceAdd, Nat.reduceSub, Nat.reduceMul, Nat.zero_add, dSeq, dNext, dSet, dSetO, dPut, dPar, dPar3, dParOD, dParOO, dParDO, dIfS, dRet, dRetO, dRetN, dDrop, dBin, dUn, dC, dVar, dCB, dCBO, daCons, daNil, daLend, dats, one, two, oneO, dIxO, dOwn1, dOwn2, fIx, fLen, dBl, dTru, dNot, dAnd, dOr, dIf, dAndV, dOrV, dNotV, dChain, dFr, dTup, dLst, dApp, dPopAt, dFor, diRng1, diRng2, diAny, gN, items, itemsD, oAdd, oSub, oMul, oDiv, oMod, oPow, oNeg, oCmp, oLt, oLe, oGt, oGe, oEq, oNe, oIn, oIsN, oNotN, isN, oIx, oLen, lenD, oInt, oAbs, oInts, oBool, oTuple, oAll, oAny, oSum, oSumA, oSl, dSl, pNo, pSo, oSorted, oList, oJoin, dMt1, dCall, dCallO, dCallT, argsOf, lent, opt, truth, MO.toD, Rv.toD, putOuts, putMO, List.getElem?_cons_zero, List.getElem?_cons_succ, List.set_cons_zero, List.set_cons_succ, Option.map_some, dIsi, dNo, at0, at1, at2, ix30, ix31, ix32, ends, outW, dComp, dYes, wipeD, back, dMake, dMeth, dLenSetS, oInD, dDict0, dDPut, dGet, dPar3DDO, dProp, dFld, dFldO, dFldSet, dSortSet, daKw, decide_eq_true_eq, shI, shS, shB, shN, eqI, eqS, true_and, List.contains_nil, beq_iff_eq, ↓reduceIte, Bool.false_eq_true]
      rw [hg]
      simp only [entry, lend, jr, List.map_cons, List.map_nil, List.length_cons, List.length_nil, List.replicate_succ, List.replicate_zero, List.cons_append, List.nil_append, List.append_nil, Nat.reduceAdd, Nat.reduceSub, Nat.reduceMul, Nat.zero_add, dSeq, dNext, dSet, dSetO, dPut, dPar, dPar3, dParOD, dParOO, dParDO, dIfS, dRet, dRetO, dRetN, dDrop, dBin, dUn, dC, dVar, dCB, dCBO, daCons, daNil, daLend, dats, one, two, oneO, dIxO, dOwn1, dOwn2, fIx, fLen, dBl, dTru, dNot, dAnd, dOr, dIf, dAndV, dOrV, dNotV, dChain, dFr, dTup, dLst, dApp, dPopAt, dFor, diRng1, diRng2, diAny, gN, items, itemsD, oAdd, oSub, oMul, oDiv, oMod, oPow, oNeg, oCmp, oLt, oLe, oGt, oGe, oEq, oNe, oIn, oIsN, oNotN, isN, oIx, oLen, lenD, oInt, oAbs, oInts, oBool, oTuple, oAll, oAny, oSum, oSumA, oSl, dSl, pNo, pSo, oSorted, oList, oJoin, dMt1, dCall, dCallO, dCallT, argsOf, lent, opt, truth, MO.toD, Rv.toD, putOuts, putMO, List.getElem?_cons_zero, List.getElem?_cons_succ, List.set_cons_zero, List.set_cons_succ, Option.map_some, dIsi, dNo, at0, at1, at2, ix30, ix31, ix32, ends, outW, dComp, dYes, wipeD, back, dMake, dMeth, dLenSetS, oInD, dDict0, dDPut, dGet, dPar3DDO, dProp, dFld, dFldO, dFldSet, dSortSet, daKw, decide_eq_true_eq, shI, shS, shB, shN, eqI, eqS, true_and, List.contains_nil, beq_iff_eq, ↓reduceIte, Bool.false_eq_true]
      refine ⟨by unfold Fits; simp; omega, hk _ ⟨M ++ [(c :: R)[r.toNat]], (c :: R).eraseIdx r.toNat, j', lo + 1, .dat (.int lo), ?_, take_one pm hr, ?_⟩⟩
      · rw [List.length_eraseIdx_of_lt hr]
        rfl
      · rw [he]
        rfl
/-! sorted signs -/
theorem one_lt {a b : Nat} : ([a] : List Nat) < [b] ↔ a < b := by
  constructor
  · intro h
    rw [List.cons_lt_cons_iff] at h
    rcases h with h | ⟨_, h⟩
    · exact h
    · exact absurd h (List.not_lt_nil [])
  · intro h
    exact List.cons_lt_cons_iff.mpr (.inl h)
/-- the signs of L in order -/
def ord (L : List Nat) : List Nat := jn [] (srtL (L.map fun c => [c]))
theorem jn_ones : ∀ (L : List Nat), jn [] (L.map fun c => [c]) = L
  | [] => rfl
  | [c] => rfl
  | c :: d :: r => by
    have ih := jn_ones (d :: r)
    show [c] ++ ([] ++ jn [] ((d :: r).map fun c => [c])) = _
    rw [ih]
    rfl
theorem lens_ones : ∀ (L : List Nat), lens (L.map fun c => [c]) = L.length
  | [] => rfl
  | c :: r => by
    show 1 + lens (r.map fun c => [c]) = _
    rw [lens_ones r, List.length_cons]
    omega
theorem srt_ones (L : List Nat) : ∃ M : List Nat, srtL (L.map fun c => [c]) = M.map (fun c => [c]) ∧ M.Perm L ∧ M.Pairwise (· ≤ ·) := by
  have p := srtL_perm (L.map fun c => [c])
  have q := srtL_srt (L.map fun c => [c])
  generalize srtL (L.map fun c => [c]) = S at p q
  have ones : ∀ S : List (List Nat), (∀ x ∈ S, ∃ c, x = [c]) → ∃ M : List Nat, S = M.map fun c => [c] := by
    intro S
    induction S with
    | nil => exact fun _ => ⟨[], rfl⟩
    | cons x S ih =>
      intro h
      obtain ⟨c, rfl⟩ := h x List.mem_cons_self
      obtain ⟨M, rfl⟩ := ih fun y m => h y (List.mem_cons_of_mem _ m)
      exact ⟨c :: M, rfl⟩
  obtain ⟨M, rfl⟩ := ones S fun x m => by
    obtain ⟨c, _, rfl⟩ := List.mem_map.mp (p.mem_iff.mp m)
    exact ⟨c, rfl⟩
  refine ⟨M, rfl, ?_, ?_⟩
  · have := p.map (fun l : List Nat => l.headD 0)
    rw [List.map_map, List.map_map] at this
    have id1 : ∀ L : List Nat, L.map ((fun l : List Nat => l.headD 0) ∘ fun c => [c]) = L := fun L => (List.map_congr_left fun _ _ => rfl).trans (List.map_id L)
    rw [id1, id1] at this
    exact this
  · have q' : (M.map fun c => [c]).Pairwise fun a b => ¬ b < a := q
    rw [List.pairwise_map] at q'
    exact q'.imp fun h => Nat.le_of_not_lt fun z => h (one_lt.mpr z)
theorem ord_perm (L : List Nat) : (ord L).Perm L := by
  obtain ⟨M, e, p, _⟩ := srt_ones L
  unfold ord
  rw [e, jn_ones]
  exact p
theorem ord_le (L : List Nat) : (ord L).Pairwise (· ≤ ·) := by
  obtain ⟨M, e, _, q⟩ := srt_ones L
  unfold ord
  rw [e, jn_ones]
  exact q
theorem ord_lt {L : List Nat} (h : L.Nodup) : (ord L).Pairwise (· < ·) := by
  have n := (ord_perm L).nodup_iff.mpr h
  have q := ord_le L
  exact (List.pairwise_and_iff.mpr ⟨q, n⟩).imp fun ⟨a, b⟩ => Nat.lt_of_le_of_ne a b
theorem strsD_ones (L : List Nat) : strsD (L.map fun c => Dt.str [c]) = some (L.map fun c => [c]) := by
  have := strsD_map (L.map fun c => [c])
  rw [List.map_map] at this
  exact this
/-- ''.join(sorted(..)) of single signs -/
theorem join_srt (L : List Nat) (h : L.length ≤ 1000) {k : Dt → Prop} (q : k (.str (ord L))) : Fits (lens (srtL (L.map fun c => [c])) + (srtL (L.map fun c => [c])).length * ([] : List Nat).length) ∧ k (.str (jn [] (srtL (L.map fun c => [c])))) := by
  refine ⟨?_, q⟩
  obtain ⟨M, e, p, _⟩ := srt_ones L
  have := p.length_eq
  rw [e, lens_ones, List.length_nil]
  unfold Fits
  omega
theorem alpha_small : ∀ c ∈ alpha, small c = true := by decide
theorem alpha_nodup : alpha.Nodup := by decide
theorem math_L_letters (K : PySem.W.Frag) : ∀ args Q U, sp_L_letters K args Q U → m_L_letters K (ends args Q U) (entry (List.length N_L_letters) args) := by
  rintro args Q U ⟨⟨⟨b, p, j⟩, n⟩, rfl, hn, hQ⟩
  have hn : n ≤ 11 := hn
  have fin : ∀ (L : List Nat) j, L.length = n → L.Pairwise (· < ·) → (∀ c ∈ L, small c = true) → Q (.d (.str L)) [jr j] := fun L j h1 h2 h3 => hQ (L, j) ⟨h1, h2, h3⟩
  simp only [m_L_letters, entry, lend, jr, List.map_cons, List.map_nil, List.length_cons, List.length_nil, List.replicate_succ, List.replicate_zero, List.cons_append, List.nil_append, List.append_nil, Nat.reduceAdd, Nat.reduceSub, Nat.reduceMul, Nat.zero_add, dSeq, dNext, dSet, dSetO, dPut, dPar, dPar3, dParOD, dParOO, dParDO, dIfS, dRet, dRetO, dRetN, dDrop, dBin, dUn, dC, dVar, dCB, dCBO, daCons, daNil, daLend, dats, one, two, oneO, dIxO, dOwn1, dOwn2, fIx, fLen, dBl, dTru, dNot, dAnd, dOr, dIf, dAndV, dOrV, dNotV, dChain, dFr, dTup, dLst, dApp, dPopAt, dFor, diRng1, diRng2, diAny, gN, items, itemsD, oAdd, oSub, oMul, oDiv, oMod, oPow, oNeg, oCmp, oLt, oLe, oGt, oGe, oEq, oNe, oIn, oIsN, oNotN, isN, oIx, oLen, lenD, oInt, oAbs, oInts, oBool, oTuple, oAll, oAny, oSum, oSumA, oSl, dSl, pNo, pSo, oSorted, oList, oJoin, dMt1, dCall, dCallO, dCallT, argsOf, lent, opt, truth, MO.toD, Rv.toD, putOuts, putMO, List.getElem?_cons_zero, List.getElem?_cons_succ, List.set_cons_zero, List.set_cons_succ, Option.map_some, dIsi, dNo, at0, at1, at2, ix30, ix31, ix32, ends, outW, dComp, dYes, wipeD, back, dMake, dMeth, dLenSetS, oInD, dDict0, dDPut, dGet, dPar3DDO, dProp, dFld, dFldO, dFldSet, dSortSet, daKw, decide_eq_true_eq, shI, shS, shB, shN, eqI, eqS, true_and, List.contains_nil, beq_iff_eq, ↓reduceIte, Bool.false_eq_true]
  intro q
  refine ⟨kilo_line (by decide), fun q2 => ⟨by omega, by omega, ?_⟩⟩
  refine loop_ind (fun ds ρ => ∃ (M R : List Nat) (j : Jr) (lo : Int) (s : Sl), ds = rangeD lo (n - M.length) ∧ M.length ≤ n ∧ (M ++ R).Perm alpha ∧ ρ = [.own true p (jr j), .dat (.int n), s, .own false q (.lst (R.map fun c => Dt.str [c])), .own false q2 (.lst (M.map fun c => Dt.str [c]))]) ?_ ?_ _ _ ⟨[], alpha, j, 0, .no, by simp, by simp, List.Perm.refl _, rfl⟩
  · rintro ρ ⟨M, R, j, lo, s, e, ml, pm, rfl⟩
    have ml : M.length = n := by
      cases h : n - M.length with
      | zero => omega
      | succ z => rw [h, range_succ] at e; cases e
    have nd : M.Nodup := (List.nodup_append.mp (pm.nodup_iff.mpr alpha_nodup)).1
    simp only [entry, lend, jr, List.map_cons, List.map_nil, List.length_cons, List.length_nil, List.replicate_succ, List.replicate_zero, List.cons_append, List.nil_append, List.append_nil, Nat.reduceAdd, Nat.reduceSub, Nat.reduceMul, Nat.zero_add, dSeq, dNext, dSet, dSetO, dPut, dPar, dPar3, dParOD, dParOO, dParDO, dIfS, dRet, dRetO, dRetN, dDrop, dBin, dUn, dC, dVar, dCB, dCBO, daCons, daNil, daLend, dats, one, two, oneO, dIxO, dOwn1, dOwn2, fIx, fLen, dBl, dTru, dNot, dAnd, dOr, dIf, dAndV, dOrV, dNotV, dChain, dFr, dTup, dLst, dApp, dPopAt, dFor, diRng1, diRng2, diAny, gN, items, itemsD, oAdd, oSub, oMul, oDiv, oMod, oPow, oNeg, oCmp, oLt, oLe, oGt, oGe, oEq, oNe, oIn, oIsN, oNotN, isN, oIx, oLen, lenD, oInt, oAbs, oInts, oBool, oTuple, oAll, oAny, oSum, oSumA, oSl, dSl, pNo, pSo, oSorted, oList, oJoin, dMt1, dCall, dCallO, dCallT, argsOf, lent, opt, truth, MO.toD, Rv.toD, putOuts, putMO, List.getElem?_cons_zero, List.getElem?_cons_succ, List.set_cons_zero, List.set_cons_succ, Option.map_some, dIsi, dNo, at0, at1, at2, ix30, ix31, ix32, ends, outW, dComp, dYes, wipeD, back, dMake, dMeth, dLenSetS, oInD, dDict0, dDPut, dGet, dPar3DDO, dProp, dFld, dFldO, dFldSet, dSortSet, daKw, decide_eq_true_eq, shI, shS, shB, shN, eqI, eqS, true_and, List.contains_nil, beq_iff_eq, ↓reduceIte, Bool.false_eq_true]
    rw [strsD_ones]
    simp only [entry, lend, jr, List.map_cons, List.map_nil, List.length_cons, List.length_nil, List.replicate_succ, List.replicate_zero, List.cons_append, List.nil_append, List.append_nil, Nat.reduceAdd, Nat.reduceSub, Nat.reduceMul, Nat.zero_add, dSeq, dNext, dSet, dSetO, dPut, dPar, dPar3, dParOD, dParOO, dParDO, dIfS, dRet, dRetO, dRetN, dDrop, dBin, dUn, dC, dVar, dCB, dCBO, daCons, daNil, daLend, dats, one, two, oneO, dIxO, dOwn1, dOwn2, fIx, fLen, dBl, dTru, dNot, dAnd, dOr, dIf, dAndV, dOrV, dNotV, dChain, dFr, dTup, dLst, dApp, dPopAt, dFor, diRng1, diRng2, diAny, gN, items, itemsD, oAdd, oSub, oMul, oDiv, oMod, oPow, oNeg, oCmp, oLt, oLe, oGt, oGe, oEq, oNe, oIn, oIsN, oNotN, isN, oIx, oLen, lenD, oInt, oAbs, oInts, oBool, oTuple, oAll, oAny, oSum, oSumA, oSl, dSl, pNo, pSo, oSorted, oList, oJoin, dMt1, dCall, dCallO, dCallT, argsOf, lent, opt, truth, MO.toD, Rv.toD, putOuts, putMO, List.getElem?_cons_zero, List.getElem?_cons_succ, List.set_cons_zero, List.set_cons_succ, Option.map_some, dIsi, dNo, at0, at1, at2, ix30, ix31, ix32, ends, outW, dComp, dYes, wipeD, back, dMake, dMeth, dLenSetS, oInD, dDict0, dDPut, dGet, dPar3DDO, dProp, dFld, dFldO, dFldSet, dSortSet, daKw, decide_eq_true_eq, shI, shS, shB, shN, eqI, eqS, true_and, List.contains_nil, beq_iff_eq, ↓reduceIte, Bool.false_eq_true]
    refine ⟨by rw [List.length_map]; omega, ?_⟩
    rw [strsD_map]
    simp only [entry, lend, jr, List.map_cons, List.map_nil, List.length_cons, List.length_nil, List.replicate_succ, List.replicate_zero, List.cons_append, List.nil_append, List.append_nil, Nat.reduceAdd, Nat.reduceSub, Nat.reduceMul, Nat.zero_add, dSeq, dNext, dSet, dSetO, dPut, dPar, dPar3, dParOD, dParOO, dParDO, dIfS, dRet, dRetO, dRetN, dDrop, dBin, dUn, dC, dVar, dCB, dCBO, daCons, daNil, daLend, dats, one, two, oneO, dIxO, dOwn1, dOwn2, fIx, fLen, dBl, dTru, dNot, dAnd, dOr, dIf, dAndV, dOrV, dNotV, dChain, dFr, dTup, dLst, dApp, dPopAt, dFor, diRng1, diRng2, diAny, gN, items, itemsD, oAdd, oSub, oMul, oDiv, oMod, oPow, oNeg, oCmp, oLt, oLe, oGt, oGe, oEq, oNe, oIn, oIsN, oNotN, isN, oIx, oLen, lenD, oInt, oAbs, oInts, oBool, oTuple, oAll, oAny, oSum, oSumA, oSl, dSl, pNo, pSo, oSorted, oList, oJoin, dMt1, dCall, dCallO, dCallT, argsOf, lent, opt, truth, MO.toD, Rv.toD, putOuts, putMO, List.getElem?_cons_zero, List.getElem?_cons_succ, List.set_cons_zero, List.set_cons_succ, Option.map_some, dIsi, dNo, at0, at1, at2, ix30, ix31, ix32, ends, outW, dComp, dYes, wipeD, back, dMake, dMeth, dLenSetS, oInD, dDict0, dDPut, dGet, dPar3DDO, dProp, dFld, dFldO, dFldSet, dSortSet, daKw, decide_eq_true_eq, shI, shS, shB, shN, eqI, eqS, true_and, List.contains_nil, beq_iff_eq, ↓reduceIte, Bool.false_eq_true]
    refine join_srt M (by omega) (k := fun d => Q (.d d) [jr j]) (fin _ j ?_ (ord_lt nd) fun c hc => alpha_small c (pm.mem_iff.mp (List.mem_append_left _ ((ord_perm M).mem_iff.mp hc))))
    rw [(ord_perm M).length_eq, ml]
  · rintro d ds ρ k' ⟨M, R, j, lo, s, e, ml, pm, rfl⟩ hk
    have hlen := pm.length_eq
    rw [List.length_append, show alpha.length = 11 from rfl] at hlen
    cases h : n - M.length with
    | zero => rw [h] at e; cases e
    | succ z =>
      rw [h, range_succ] at e
      obtain ⟨rfl, rfl⟩ := List.cons.inj e
      simp only [entry, lend, jr, List.map_cons, List.map_nil, List.length_cons, List.length_nil, List.replicate_succ, List.replicate_zero, List.cons_append, List.nil_append, List.append_nil, Nat.reduceAdd, Nat.reduceSub, Nat.reduceMul, Nat.zero_add, dSeq, dNext, dSet, dSetO, dPut, dPar, dPar3, dParOD, dParOO, dParDO, dIfS, dRet, dRetO, dRetN, dDrop, dBin, dUn, dC, dVar, dCB, dCBO, daCons, daNil, daLend, dats, one, two, oneO, dIxO, dOwn1, dOwn2, fIx, fLen, dBl, dTru, dNot, dAnd, dOr, dIf, dAndV, dOrV, dNotV, dChain, dFr, dTup, dLst, dApp, dPopAt, dFor, diRng1, diRng2, diAny, gN, items, itemsD, oAdd, oSub, oMul, oDiv, oMod, oPow, oNeg, oCmp, oLt, oLe, oGt, oGe, oEq, oNe, oIn, oIsN, oNotN, isN, oIx, oLen, lenD, oInt, oAbs, oInts, oBool, oTuple, oAll, oAny, oSum, oSumA, oSl, dSl, pNo, pSo, oSorted, oList, oJoin, dMt1, dCall, dCallO, dCallT, argsOf, lent, opt, truth, MO.toD, Rv.toD, putOuts, putMO, List.getElem?_cons_zero, List.getElem?_cons_succ, List.set_cons_zero, List.set_cons_succ, Option.map_some, dIsi, dNo, at0, at1, at2, ix30, ix31, ix32, ends, outW, dComp, dYes, wipeD, back, dMake, dMeth, dLenSetS, oInD, dDict0, dDPut, dGet, dPar3DDO, dProp, dFld, dFldO, dFldSet, dSortSet, daKw, decide_eq_true_eq, shI, shS, shB, shN, eqI, eqS, true_and, List.contains_nil, beq_iff_eq, ↓reduceIte, Bool.false_eq_true]
      refine use_dip (by first | omega | (simp; done) | (simp; omega)) (by first | omega | (simp; done) | (simp; omega)) fun r j' r0 r1 => ?_
      have r1' : r < ((R.length : Nat) : Int) := by simpa using r1
      simp only [entry, lend, jr, List.map_cons, List.map_nil, List.length_cons, List.length_nil, List.replicate_succ, List.replicate_zero, List.cons_append, List.nil_append, List.append_nil, Nat.reduceAdd, Nat.reduceSub, Nat.reduceMul, Nat.zero_add, dSeq, dNext, dSet, dSetO, dPut, dPar, dPar3, dParOD, dParOO, dParDO, dIfS, dRet, dRetO, dRetN, dDrop, dBin, dUn, dC, dVar, dCB, dCBO, daCons, daNil, daLend, dats, one, two, oneO, dIxO, dOwn1, dOwn2, fIx, fLen, dBl, dTru, dNot, dAnd, dOr, dIf, dAndV, dOrV, dNotV, dChain, dFr, dTup, dLst, dApp, dPopAt, dFor, diRng1, diRng2, diAny, gN, items, itemsD, oAdd, oSub, oMul, oDiv, oMod, oPow, oNeg, oCmp, oLt, oLe, oGt, oGe, oEq, oNe, oIn, oIsN, oNotN, isN, oIx, oLen, lenD, oInt, oAbs, oInts, oBool, oTuple, oAll, oAny, oSum, oSumA, oSl, dSl, pNo, pSo, oSorted, oList, oJoin, dMt1, dCall, dCallO, dCallT, argsOf, lent, opt, truth, MO.toD, Rv.toD, putOuts, putMO, List.getElem?_cons_zero, List.getElem?_cons_succ, List.set_cons_zero, List.set_cons_succ, Option.map_some, dIsi, dNo, at0, at1, at2, ix30, ix31, ix32, ends, outW, dComp, dYes, wipeD, back, dMake, dMeth, dLenSetS, oInD, dDict0, dDPut, dGet, dPar3DDO, dProp, dFld, dFldO, dFldSet, dSortSet, daKw, decide_eq_true_eq, shI, shS, shB, shN, eqI, eqS, true_and, List.contains_nil, beq_iff_eq, ↓reduceIte, Bool.false_eq_true]
      refine ⟨⟨by omega, by omega⟩, ?_⟩
      have hr : r.toNat < R.length := by omega
      have hs : seqIndex? r (List.map (fun c => Dt.str [c]) R).length = some r.toNat := seq_ix r0 (by simpa using r1')
      rw [hs]
      simp only [entry, lend, jr, List.map_cons, List.map_nil, List.length_cons, List.length_nil, List.replicate_succ, List.replicate_zero, List.cons_append, List.nil_append, List.append_nil, Nat.reduceAdd, Nat.reduceSub, Nat.reduceMul, Nat.zero_add, dSeq, dNext, dSet, dSetO, dPut, dPar, dPar3, dParOD, dParOO, dParDO, dIfS, dRet, dRetO, dRetN, dDrop, dBin, dUn, dC, dVar, dCB, dCBO, daCons, daNil, daLend, dats, one, two, oneO, dIxO, dOwn1, dOwn2, fIx, fLen, dBl, dTru, dNot, dAnd, dOr, dIf, dAndV, dOrV, dNotV, dChain, dFr, dTup, dLst, dApp, dPopAt, dFor, diRng1, diRng2, diAny, gN, items, itemsD, oAdd, oSub, oMul, oDiv, oMod, oPow, oNeg, oCmp, oLt, oLe, oGt, oGe, oEq, oNe, oIn, oIsN, oNotN, isN, oIx, oLen, lenD, oInt, oAbs, oInts, oBool, oTuple, oAll, oAny, oSum, oSumA, oSl, dSl, pNo, pSo, oSorted, oList, oJoin, dMt1, dCall, dCallO, dCallT, argsOf, lent, opt, truth, MO.toD, Rv.toD, putOuts, putMO, List.getElem?_cons_zero, List.getElem?_cons_succ, List.set_cons_zero, List.set_cons_succ, Option.map_some, dIsi, dNo, at0, at1, at2, ix30, ix31, ix32, ends, outW, dComp, dYes, wipeD, back, dMake, dMeth, dLenSetS, oInD, dDict0, dDPut, dGet, dPar3DDO, dProp, dFld, dFldO, dFldSet, dSortSet, daKw, decide_eq_true_eq, shI, shS, shB, shN, eqI, eqS, true_and, List.contains_nil, beq_iff_eq, ↓reduceIte, Bool.false_eq_true]
      rw [ch_get hr]
      simp only [entry, lend, jr, List.map_cons, List.map_nil, List.length_cons, List.length_nil, List.replicate_succ, List.replicate_zero, List.cons_append, List.nil_append, List.append_nil, Nat.reduceAdd, Nat.reduceSub, Nat.reduceMul, Nat.zero_add, dSeq, dNext, dSet, dSetO, dPut, dPar, dPar3, dParOD, dParOO, dParDO, dIfS, dRet, dRetO, dRetN, dDrop, dBin, dUn, dC, dVar, dCB, dCBO, daCons, daNil, daLend, dats, one, two, oneO, dIxO, dOwn1, dOwn2, fIx, fLen, dBl, dTru, dNot, dAnd, dOr, dIf, dAndV, dOrV, dNotV, dChain, dFr, dTup, dLst, dApp, dPopAt, dFor, diRng1, diRng2, diAny, gN, items, itemsD, oAdd, oSub, oMul, oDiv, oMod, oPow, oNeg, oCmp, oLt, oLe, oGt, oGe, oEq, oNe, oIn, oIsN, oNotN, isN, oIx, oLen, lenD, oInt, oAbs, oInts, oBool, oTuple, oAll, oAny, oSum, oSumA, oSl, dSl, pNo, pSo, oSorted, oList, oJoin, dMt1, dCall, dCallO, dCallT, argsOf, lent, opt, truth, MO.toD, Rv.toD, putOuts, putMO, List.getElem?_cons_zero, List.getElem?_cons_succ, List.set_cons_zero, List.set_cons_succ, Option.map_some, dIsi, dNo, at0, at1, at2, ix30, ix31, ix32, ends, outW, dComp, dYes, wipeD, back, dMake, dMeth, dLenSetS, oInD, dDict0, dDPut, dGet, dPar3DDO, dProp, dFld, dFldO, dFldSet, dSortSet, daKw, decide_eq_true_eq, shI, shS, shB, shN, eqI, eqS, true_and, List.contains_nil, beq_iff_eq, ↓reduceIte, Bool.false_eq_true]
      refine ⟨by unfold Fits; simp; omega, hk _ ⟨M ++ [R[r.toNat]], R.eraseIdx r.toNat, j', lo + 1, .dat (.int lo), ?_, by simp; omega, take_one pm hr, ?_⟩⟩
      · rw [List.length_append, List.length_singleton, show n - (M.length + 1) = z by omega]
      · rw [ch_erase, List.map_append]
        rfl
theorem use_letters {K : PySem.W.Frag} {b : Bool} {p : Addr} {j : Jr} {n : Nat} {Q : Rv → List MO → Prop} {U : Xn → List MO → Prop} (hn : n ≤ 11) (h : ∀ (L : List Nat) (j : Jr), L.length = n → L.Pairwise (· < ·) → (∀ c ∈ L, small c = true) → Q (.d (.str L)) [jr j]) :
    sp_L_letters K [.own b p (jr j), .dat (.int n)] Q U := ⟨((b, p, j), n), rfl, hn, fun y hy => h y.1 y.2 hy.1 hy.2.1 hy.2.2⟩
theorem use_shuffled {K : PySem.W.Frag} {b : Bool} {p : Addr} {j : Jr} {L : List Nat} {Q : Rv → List MO → Prop} {U : Xn → List MO → Prop} (hn : L.length ≤ 26) (h : ∀ (M : List Nat) (j : Jr), M.Perm L → Q (.d (.str M)) [jr j]) :
    sp_L_shuffled K [.own b p (jr j), .dat (.str L)] Q U := ⟨((b, p, j), L), rfl, hn, fun y hy => h y.1 y.2 hy⟩
theorem use_hill {K : PySem.W.Frag} {b : Bool} {p : Addr} {j : Jr} {L : List Nat} {Q : Rv → List MO → Prop} {U : Xn → List MO → Prop} (h0 : 0 < L.length) (hn : L.length ≤ 26) (h : ∀ (M : List Nat) (j : Jr), M.Perm L → Steps L M → Q (.d (.str M)) [jr j]) :
    sp_L_hill K [.own b p (jr j), .dat (.str L)] Q U := ⟨((b, p, j), L), rfl, ⟨h0, hn⟩, fun y hy => h y.1 y.2 hy.1 hy.2⟩
theorem use_lot {K : PySem.W.Frag} {b : Bool} {p : Addr} {j : Jr} {L : List Nat} {m : Nat} {Q : Rv → List MO → Prop} {U : Xn → List MO → Prop} (h0 : 2 ≤ L.length) (hn : L.length ≤ 26) (m0 : 0 < m) (m1 : m ≤ 40) (h : ∀ (lot : List (List Nat)) (j : Jr), Lot L m lot → Q (.d (.tup (stL lot))) [jr j]) :
    sp_L_lot_of K [.own b p (jr j), .dat (.str L), .dat (.int m)] Q U := ⟨((b, p, j), (L, m)), rfl, ⟨h0, hn, m0, m1⟩, fun y hy => h y.1 y.2 hy⟩
theorem math_L_roster (K : PySem.W.Frag) : ∀ args Q U, sp_L_roster K args Q U → m_L_roster K (ends args Q U) (entry (List.length N_L_roster) args) := by
  rintro args Q U ⟨⟨⟨b, p, j⟩, n, m⟩, rfl, ⟨h0, h1, h2, h3⟩, hQ⟩
  have h0 : 3 ≤ n := h0
  have h1 : n ≤ 6 := h1
  have fin : ∀ L lot j, Things L → Lot L m lot → Q (.d (.tup (stL lot))) [jr j] := fun L lot j a b => hQ ((L, lot), j) ⟨a, b⟩
  simp only [m_L_roster, entry, lend, jr, List.map_cons, List.map_nil, List.length_cons, List.length_nil, List.replicate_succ, List.replicate_zero, List.cons_append, List.nil_append, List.append_nil, Nat.reduceAdd, Nat.reduceSub, Nat.reduceMul, Nat.zero_add, dSeq, dNext, dSet, dSetO, dPut, dPar, dPar3, dParOD, dParOO, dParDO, dIfS, dRet, dRetO, dRetN, dDrop, dBin, dUn, dC, dVar, dCB, dCBO, daCons, daNil, daLend, dats, one, two, oneO, dIxO, dOwn1, dOwn2, fIx, fLen, dBl, dTru, dNot, dAnd, dOr, dIf, dAndV, dOrV, dNotV, dChain, dFr, dTup, dLst, dApp, dPopAt, dFor, diRng1, diRng2, diAny, gN, items, itemsD, oAdd, oSub, oMul, oDiv, oMod, oPow, oNeg, oCmp, oLt, oLe, oGt, oGe, oEq, oNe, oIn, oIsN, oNotN, isN, oIx, oLen, lenD, oInt, oAbs, oInts, oBool, oTuple, oAll, oAny, oSum, oSumA, oSl, dSl, pNo, pSo, oSorted, oList, oJoin, dMt1, dCall, dCallO, dCallT, argsOf, lent, opt, truth, MO.toD, Rv.toD, putOuts, putMO, List.getElem?_cons_zero, List.getElem?_cons_succ, List.set_cons_zero, List.set_cons_succ, Option.map_some, dIsi, dNo, at0, at1, at2, ix30, ix31, ix32, ends, outW, dComp, dYes, wipeD, back, dMake, dMeth, dLenSetS, oInD, dDict0, dDPut, dGet, dPar3DDO, dProp, dFld, dFldO, dFldSet, dSortSet, daKw, decide_eq_true_eq, shI, shS, shB, shN, eqI, eqS, true_and, List.contains_nil, beq_iff_eq, ↓reduceIte, Bool.false_eq_true]
  refine use_dip (by omega) (by omega) fun r j' r0 r1 => ?_
  simp only [entry, lend, jr, List.map_cons, List.map_nil, List.length_cons, List.length_nil, List.replicate_succ, List.replicate_zero, List.cons_append, List.nil_append, List.append_nil, Nat.reduceAdd, Nat.reduceSub, Nat.reduceMul, Nat.zero_add, dSeq, dNext, dSet, dSetO, dPut, dPar, dPar3, dParOD, dParOO, dParDO, dIfS, dRet, dRetO, dRetN, dDrop, dBin, dUn, dC, dVar, dCB, dCBO, daCons, daNil, daLend, dats, one, two, oneO, dIxO, dOwn1, dOwn2, fIx, fLen, dBl, dTru, dNot, dAnd, dOr, dIf, dAndV, dOrV, dNotV, dChain, dFr, dTup, dLst, dApp, dPopAt, dFor, diRng1, diRng2, diAny, gN, items, itemsD, oAdd, oSub, oMul, oDiv, oMod, oPow, oNeg, oCmp, oLt, oLe, oGt, oGe, oEq, oNe, oIn, oIsN, oNotN, isN, oIx, oLen, lenD, oInt, oAbs, oInts, oBool, oTuple, oAll, oAny, oSum, oSumA, oSl, dSl, pNo, pSo, oSorted, oList, oJoin, dMt1, dCall, dCallO, dCallT, argsOf, lent, opt, truth, MO.toD, Rv.toD, putOuts, putMO, List.getElem?_cons_zero, List.getElem?_cons_succ, List.set_cons_zero, List.set_cons_succ, Option.map_some, dIsi, dNo, at0, at1, at2, ix30, ix31, ix32, ends, outW, dComp, dYes, wipeD, back, dMake, dMeth, dLenSetS, oInD, dDict0, dDPut, dGet, dPar3DDO, dProp, dFld, dFldO, dFldSet, dSortSet, daKw, decide_eq_true_eq, shI, shS, shB, shN, eqI, eqS, true_and, List.contains_nil, beq_iff_eq, ↓reduceIte, Bool.false_eq_true]
  have e : 3 + r = ((3 + r.toNat : Nat) : Int) := by omega
  rw [e]
  refine use_letters (j := (_, _, _)) (by omega) fun L j2 l1 l2 l3 => ?_
  simp only [entry, lend, jr, List.map_cons, List.map_nil, List.length_cons, List.length_nil, List.replicate_succ, List.replicate_zero, List.cons_append, List.nil_append, List.append_nil, Nat.reduceAdd, Nat.reduceSub, Nat.reduceMul, Nat.zero_add, dSeq, dNext, dSet, dSetO, dPut, dPar, dPar3, dParOD, dParOO, dParDO, dIfS, dRet, dRetO, dRetN, dDrop, dBin, dUn, dC, dVar, dCB, dCBO, daCons, daNil, daLend, dats, one, two, oneO, dIxO, dOwn1, dOwn2, fIx, fLen, dBl, dTru, dNot, dAnd, dOr, dIf, dAndV, dOrV, dNotV, dChain, dFr, dTup, dLst, dApp, dPopAt, dFor, diRng1, diRng2, diAny, gN, items, itemsD, oAdd, oSub, oMul, oDiv, oMod, oPow, oNeg, oCmp, oLt, oLe, oGt, oGe, oEq, oNe, oIn, oIsN, oNotN, isN, oIx, oLen, lenD, oInt, oAbs, oInts, oBool, oTuple, oAll, oAny, oSum, oSumA, oSl, dSl, pNo, pSo, oSorted, oList, oJoin, dMt1, dCall, dCallO, dCallT, argsOf, lent, opt, truth, MO.toD, Rv.toD, putOuts, putMO, List.getElem?_cons_zero, List.getElem?_cons_succ, List.set_cons_zero, List.set_cons_succ, Option.map_some, dIsi, dNo, at0, at1, at2, ix30, ix31, ix32, ends, outW, dComp, dYes, wipeD, back, dMake, dMeth, dLenSetS, oInD, dDict0, dDPut, dGet, dPar3DDO, dProp, dFld, dFldO, dFldSet, dSortSet, daKw, decide_eq_true_eq, shI, shS, shB, shN, eqI, eqS, true_and, List.contains_nil, beq_iff_eq, ↓reduceIte, Bool.false_eq_true]
  refine use_lot (j := (_, _, _)) (by omega) (by omega) h2 h3 fun lot j3 hl => ?_
  simp only [entry, lend, jr, List.map_cons, List.map_nil, List.length_cons, List.length_nil, List.replicate_succ, List.replicate_zero, List.cons_append, List.nil_append, List.append_nil, Nat.reduceAdd, Nat.reduceSub, Nat.reduceMul, Nat.zero_add, dSeq, dNext, dSet, dSetO, dPut, dPar, dPar3, dParOD, dParOO, dParDO, dIfS, dRet, dRetO, dRetN, dDrop, dBin, dUn, dC, dVar, dCB, dCBO, daCons, daNil, daLend, dats, one, two, oneO, dIxO, dOwn1, dOwn2, fIx, fLen, dBl, dTru, dNot, dAnd, dOr, dIf, dAndV, dOrV, dNotV, dChain, dFr, dTup, dLst, dApp, dPopAt, dFor, diRng1, diRng2, diAny, gN, items, itemsD, oAdd, oSub, oMul, oDiv, oMod, oPow, oNeg, oCmp, oLt, oLe, oGt, oGe, oEq, oNe, oIn, oIsN, oNotN, isN, oIx, oLen, lenD, oInt, oAbs, oInts, oBool, oTuple, oAll, oAny, oSum, oSumA, oSl, dSl, pNo, pSo, oSorted, oList, oJoin, dMt1, dCall, dCallO, dCallT, argsOf, lent, opt, truth, MO.toD, Rv.toD, putOuts, putMO, List.getElem?_cons_zero, List.getElem?_cons_succ, List.set_cons_zero, List.set_cons_succ, Option.map_some, dIsi, dNo, at0, at1, at2, ix30, ix31, ix32, ends, outW, dComp, dYes, wipeD, back, dMake, dMeth, dLenSetS, oInD, dDict0, dDPut, dGet, dPar3DDO, dProp, dFld, dFldO, dFldSet, dSortSet, daKw, decide_eq_true_eq, shI, shS, shB, shN, eqI, eqS, true_and, List.contains_nil, beq_iff_eq, ↓reduceIte, Bool.false_eq_true]
  exact fin L lot j3 ⟨l2, l3, by omega, by omega⟩ hl
theorem steps_add {L M : List Nat} {x i j : Nat} (h : Steps L M) (p : (M ++ [x]).Perm ((L.drop i).take j)) : Steps L (M ++ [x]) := fun n => by
  by_cases q : n ≤ M.length
  · rw [List.take_append_of_le_length q]
    exact h n
  · rw [List.take_of_length_le (by rw [List.length_append, List.length_singleton]; omega)]
    exact ⟨i, j, p⟩
theorem steps_nil (L : List Nat) : Steps L [] := fun n => ⟨0, 0, by rw [List.take_nil]; exact .refl _⟩
theorem cut_grow {L : List Nat} {a h : Nat} (ah : a < h) (hl : h < L.length) : (((L.drop a).take (h - a)) ++ [L[h]]).Perm ((L.drop a).take (h + 1 - a)) := by
  have e : h + 1 - a = (h - a) + 1 := by omega
  rw [e, List.take_add_one, List.getElem?_drop, show a + (h - a) = h by omega, List.getElem?_eq_getElem hl]
  exact List.Perm.refl _
theorem cut_down {L : List Nat} {a h : Nat} (ah : a + 1 < h) (hl : h ≤ L.length) : (((L.drop (a + 1)).take (h - (a + 1))) ++ [L[a]'(by omega)]).Perm ((L.drop a).take (h - a)) := by
  have e : h - a = (h - (a + 1)) + 1 := by omega
  rw [List.drop_eq_getElem_cons (show a < L.length by omega), e, List.take_succ_cons]
  exact List.perm_append_singleton _ _
theorem math_L_hill (K : PySem.W.Frag) : ∀ args Q U, sp_L_hill K args Q U → m_L_hill K (ends args Q U) (entry (List.length N_L_hill) args) := by
  rintro args Q U ⟨⟨⟨b, p, j⟩, L⟩, rfl, ⟨h0, h1⟩, hQ⟩
  have h0 : 0 < L.length := h0
  have h1 : L.length ≤ 26 := h1
  have fin : ∀ M j, M.Perm L → Steps L M → Q (.d (.str M)) [jr j] := fun M j h st => hQ (M, j) ⟨h, st⟩
  unfold m_L_hill
  refine seq_step fun k1 hk1 => ?_
  simp only [entry, lend, jr, List.map_cons, List.map_nil, List.length_cons, List.length_nil, List.replicate_succ, List.replicate_zero, List.cons_append, List.nil_append, List.append_nil, Nat.reduceAdd, Nat.reduceSub, Nat.reduceMul, Nat.zero_add, dNext, dSet, dSetO, dPut, dPar, dPar3, dParOD, dParOO, dParDO, dRet, dRetO, dRetN, dDrop, dBin, dUn, dC, dVar, dCB, dCBO, daCons, daNil, daLend, dats, one, two, oneO, dIxO, dOwn1, dOwn2, fIx, fLen, dBl, dTru, dNot, dAnd, dOr, dAndV, dOrV, dNotV, dChain, dFr, dTup, dLst, dApp, dPopAt, dFor, diRng1, diRng2, diAny, gN, items, itemsD, oAdd, oSub, oMul, oDiv, oMod, oPow, oNeg, oCmp, oLt, oLe, oGt, oGe, oEq, oNe, oIn, oIsN, oNotN, isN, oIx, oLen, lenD, oInt, oAbs, oInts, oBool, oTuple, oAll, oAny, oSum, oSumA, oSl, dSl, pNo, pSo, oSorted, oList, oJoin, dMt1, dCall, dCallO, dCallT, argsOf, lent, opt, truth, MO.toD, Rv.toD, putOuts, putMO, List.getElem?_cons_zero, List.getElem?_cons_succ, List.set_cons_zero, List.set_cons_succ, Option.map_some, dIsi, dNo, at0, at1, at2, ix30, ix31, ix32, dComp, dYes, wipeD, back, dMake, dMeth, dLenSetS, oInD, dDict0, dDPut, dGet, dPar3DDO, dProp, dFld, dFldO, dFldSet, dSortSet, daKw, decide_eq_true_eq, shI, shS, shB, shN, eqI, eqS, true_and, List.contains_nil, beq_iff_eq, ↓reduceIte, Bool.false_eq_true]
  refine use_dip (by omega) (by omega) fun r j' r0 r1 => ?_
  obtain ⟨n, rfl⟩ : ∃ n : Nat, r = n := ⟨r.toNat, by omega⟩
  have hn : n < L.length := by omega
  have hat : L2.atI L (n : Int) = some L[n] := by rw [atN, List.getElem?_eq_getElem hn]
  simp only [entry, lend, jr, List.map_cons, List.map_nil, List.length_cons, List.length_nil, List.replicate_succ, List.replicate_zero, List.cons_append, List.nil_append, List.append_nil, Nat.reduceAdd, Nat.reduceSub, Nat.reduceMul, Nat.zero_add, dNext, dSet, dSetO, dPut, dPar, dPar3, dParOD, dParOO, dParDO, dRet, dRetO, dRetN, dDrop, dBin, dUn, dC, dVar, dCB, dCBO, daCons, daNil, daLend, dats, one, two, oneO, dIxO, dOwn1, dOwn2, fIx, fLen, dBl, dTru, dNot, dAnd, dOr, dAndV, dOrV, dNotV, dChain, dFr, dTup, dLst, dApp, dPopAt, dFor, diRng1, diRng2, diAny, gN, items, itemsD, oAdd, oSub, oMul, oDiv, oMod, oPow, oNeg, oCmp, oLt, oLe, oGt, oGe, oEq, oNe, oIn, oIsN, oNotN, isN, oIx, oLen, lenD, oInt, oAbs, oInts, oBool, oTuple, oAll, oAny, oSum, oSumA, oSl, dSl, pNo, pSo, oSorted, oList, oJoin, dMt1, dCall, dCallO, dCallT, argsOf, lent, opt, truth, MO.toD, Rv.toD, putOuts, putMO, List.getElem?_cons_zero, List.getElem?_cons_succ, List.set_cons_zero, List.set_cons_succ, Option.map_some, dIsi, dNo, at0, at1, at2, ix30, ix31, ix32, dComp, dYes, wipeD, back, dMake, dMeth, dLenSetS, oInD, dDict0, dDPut, dGet, dPar3DDO, dProp, dFld, dFldO, dFldSet, dSortSet, daKw, decide_eq_true_eq, shI, shS, shB, shN, eqI, eqS, true_and, List.contains_nil, beq_iff_eq, ↓reduceIte, Bool.false_eq_true]
  refine hk1 _ (seq_step fun k2 hk2 => ?_)
  simp only [hat, entry, lend, jr, List.map_cons, List.map_nil, List.length_cons, List.length_nil, List.replicate_succ, List.replicate_zero, List.cons_append, List.nil_append, List.append_nil, Nat.reduceAdd, Nat.reduceSub, Nat.reduceMul, Nat.zero_add, dNext, dSet, dSetO, dPut, dPar, dPar3, dParOD, dParOO, dParDO, dRet, dRetO, dRetN, dDrop, dBin, dUn, dC, dVar, dCB, dCBO, daCons, daNil, daLend, dats, one, two, oneO, dIxO, dOwn1, dOwn2, fIx, fLen, dBl, dTru, dNot, dAnd, dOr, dAndV, dOrV, dNotV, dChain, dFr, dTup, dLst, dApp, dPopAt, dFor, diRng1, diRng2, diAny, gN, items, itemsD, oAdd, oSub, oMul, oDiv, oMod, oPow, oNeg, oCmp, oLt, oLe, oGt, oGe, oEq, oNe, oIn, oIsN, oNotN, isN, oIx, oLen, lenD, oInt, oAbs, oInts, oBool, oTuple, oAll, oAny, oSum, oSumA, oSl, dSl, pNo, pSo, oSorted, oList, oJoin, dMt1, dCall, dCallO, dCallT, argsOf, lent, opt, truth, MO.toD, Rv.toD, putOuts, putMO, List.getElem?_cons_zero, List.getElem?_cons_succ, List.set_cons_zero, List.set_cons_succ, Option.map_some, dIsi, dNo, at0, at1, at2, ix30, ix31, ix32, dComp, dYes, wipeD, back, dMake, dMeth, dLenSetS, oInD, dDict0, dDPut, dGet, dPar3DDO, dProp, dFld, dFldO, dFldSet, dSortSet, daKw, decide_eq_true_eq, shI, shS, shB, shN, eqI, eqS, true_and, List.contains_nil, beq_iff_eq, ↓reduceIte, Bool.false_eq_true]
  refine hk2 _ (seq_step fun k3 hk3 => ?_)
  simp only [entry, lend, jr, List.map_cons, List.map_nil, List.length_cons, List.length_nil, List.replicate_succ, List.replicate_zero, List.cons_append, List.nil_append, List.append_nil, Nat.reduceAdd, Nat.reduceSub, Nat.reduceMul, Nat.zero_add, dNext, dSet, dSetO, dPut, dPar, dPar3, dParOD, dParOO, dParDO, dRet, dRetO, dRetN, dDrop, dBin, dUn, dC, dVar, dCB, dCBO, daCons, daNil, daLend, dats, one, two, oneO, dIxO, dOwn1, dOwn2, fIx, fLen, dBl, dTru, dNot, dAnd, dOr, dAndV, dOrV, dNotV, dChain, dFr, dTup, dLst, dApp, dPopAt, dFor, diRng1, diRng2, diAny, gN, items, itemsD, oAdd, oSub, oMul, oDiv, oMod, oPow, oNeg, oCmp, oLt, oLe, oGt, oGe, oEq, oNe, oIn, oIsN, oNotN, isN, oIx, oLen, lenD, oInt, oAbs, oInts, oBool, oTuple, oAll, oAny, oSum, oSumA, oSl, dSl, pNo, pSo, oSorted, oList, oJoin, dMt1, dCall, dCallO, dCallT, argsOf, lent, opt, truth, MO.toD, Rv.toD, putOuts, putMO, List.getElem?_cons_zero, List.getElem?_cons_succ, List.set_cons_zero, List.set_cons_succ, Option.map_some, dIsi, dNo, at0, at1, at2, ix30, ix31, ix32, dComp, dYes, wipeD, back, dMake, dMeth, dLenSetS, oInD, dDict0, dDPut, dGet, dPar3DDO, dProp, dFld, dFldO, dFldSet, dSortSet, daKw, decide_eq_true_eq, shI, shS, shB, shN, eqI, eqS, true_and, List.contains_nil, beq_iff_eq, ↓reduceIte, Bool.false_eq_true]
  refine ⟨by omega, by omega, ?_⟩
  refine loop_ind (fun ds ρ => ∃ (M : List Nat) (a h : Nat) (j : Jr) (lo : Int) (s : Sl), ds = rangeD lo (L.length - (h - a)) ∧ a < h ∧ h ≤ L.length ∧ M.Perm ((L.drop a).take (h - a)) ∧ Steps L M ∧ ρ = [.own true p (jr j), .dat (.str L), .dat (.int n), s, .dat (.int ((a : Int) - 1)), .dat (.int h), .dat (.str M)]) ?_ ?_ _ _
    ⟨[L[n]], n, n + 1, j', 0, .no, ?_, by omega, by omega, ?_, ?_, ?_⟩
  · rintro ρ ⟨M, a, h, j, lo, s, e, ah, hl, pm, st, rfl⟩
    have full : L.length - (h - a) = 0 := by
      cases q : L.length - (h - a) with
      | zero => rfl
      | succ z => rw [q, range_succ] at e; cases e
    have a0 : a = 0 := by omega
    have hL : h = L.length := by omega
    subst a0 hL
    rw [List.drop_zero, Nat.sub_zero, List.take_length] at pm
    refine hk3 _ ?_
    simp only [entry, lend, jr, List.map_cons, List.map_nil, List.length_cons, List.length_nil, List.replicate_succ, List.replicate_zero, List.cons_append, List.nil_append, List.append_nil, Nat.reduceAdd, Nat.reduceSub, Nat.reduceMul, Nat.zero_add, dSeq, dNext, dSet, dSetO, dPut, dPar, dPar3, dParOD, dParOO, dParDO, dIfS, dRet, dRetO, dRetN, dDrop, dBin, dUn, dC, dVar, dCB, dCBO, daCons, daNil, daLend, dats, one, two, oneO, dIxO, dOwn1, dOwn2, fIx, fLen, dBl, dTru, dNot, dAnd, dOr, dIf, dAndV, dOrV, dNotV, dChain, dFr, dTup, dLst, dApp, dPopAt, dFor, diRng1, diRng2, diAny, gN, items, itemsD, oAdd, oSub, oMul, oDiv, oMod, oPow, oNeg, oCmp, oLt, oLe, oGt, oGe, oEq, oNe, oIn, oIsN, oNotN, isN, oIx, oLen, lenD, oInt, oAbs, oInts, oBool, oTuple, oAll, oAny, oSum, oSumA, oSl, dSl, pNo, pSo, oSorted, oList, oJoin, dMt1, dCall, dCallO, dCallT, argsOf, lent, opt, truth, MO.toD, Rv.toD, putOuts, putMO, List.getElem?_cons_zero, List.getElem?_cons_succ, List.set_cons_zero, List.set_cons_succ, Option.map_some, dIsi, dNo, at0, at1, at2, ix30, ix31, ix32, ends, outW, dComp, dYes, wipeD, back, dMake, dMeth, dLenSetS, oInD, dDict0, dDPut, dGet, dPar3DDO, dProp, dFld, dFldO, dFldSet, dSortSet, daKw, decide_eq_true_eq, shI, shS, shB, shN, eqI, eqS, true_and, List.contains_nil, beq_iff_eq, ↓reduceIte, Bool.false_eq_true]
    exact fin M j pm st
  · rintro d ds ρ k' ⟨M, a, h, j, lo, s, e, ah, hl, pm, st, rfl⟩ hk
    cases q : L.length - (h - a) with
    | zero => rw [q] at e; cases e
    | succ z =>
      rw [q, range_succ] at e
      obtain ⟨rfl, rfl⟩ := List.cons.inj e
      have ml : M.length = h - a := by
        rw [pm.length_eq, List.length_take, List.length_drop]
        omega
      have low : ∀ j, 0 < a → k' [.own true p (jr j), .dat (.str L), .dat (.int n), .dat (.int lo), .dat (.int ((a : Int) - 1 - 1)), .dat (.int h), .dat (.str (M ++ [L[a - 1]]))] := fun j a0 => by
        refine hk _ ⟨M ++ [L[a - 1]], a - 1, h, j, lo + 1, .dat (.int lo), ?_, by omega, hl, ?_, ?_, ?_⟩
        · rw [show L.length - (h - (a - 1)) = z by omega]
        · obtain ⟨a', rfl⟩ : ∃ a', a = a' + 1 := ⟨a - 1, by omega⟩
          exact (pm.append_right _).trans (cut_down ah hl)
        · obtain ⟨a', rfl⟩ : ∃ a', a = a' + 1 := ⟨a - 1, by omega⟩
          exact steps_add st ((pm.append_right _).trans (cut_down ah hl))
        · rw [show ((a : Int) - 1 - 1) = (((a - 1 : Nat) : Int) - 1) by omega]
      have high : ∀ j, h < L.length → (hh : h < L.length) → k' [.own true p (jr j), .dat (.str L), .dat (.int n), .dat (.int lo), .dat (.int ((a : Int) - 1)), .dat (.int ((h : Int) + 1)), .dat (.str (M ++ [L[h]]))] := fun j _ hh => by
        refine hk _ ⟨M ++ [L[h]], a, h + 1, j, lo + 1, .dat (.int lo), ?_, by omega, by omega, (pm.append_right _).trans (cut_grow ah hh), steps_add st ((pm.append_right _).trans (cut_grow ah hh)), ?_⟩
        · rw [show L.length - (h + 1 - a) = z by omega]
        · rfl
      have doLow : ∀ j, 0 < a → opt (L2.atI L ((a : Int) - 1)) (fun c => Fits (M.length + 1) ∧ k' [.own true p (jr j), .dat (.str L), .dat (.int n), .dat (.int lo), .dat (.int ((a : Int) - 1 - 1)), .dat (.int h), .dat (.str (M ++ [c]))]) := fun j a0 => by
        rw [show ((a : Int) - 1) = ((a - 1 : Nat) : Int) by omega, atN, List.getElem?_eq_getElem (by omega)]
        refine ⟨by unfold Fits; omega, ?_⟩
        have := low j a0
        rw [show ((a : Int) - 1) = ((a - 1 : Nat) : Int) by omega] at this
        exact this
      have doHigh : ∀ j, h < L.length → opt (L2.atI L (h : Int)) (fun c => Fits (M.length + 1) ∧ k' [.own true p (jr j), .dat (.str L), .dat (.int n), .dat (.int lo), .dat (.int ((a : Int) - 1)), .dat (.int ((h : Int) + 1)), .dat (.str (M ++ [c]))]) := fun j hh => by
        rw [atN, List.getElem?_eq_getElem hh]
        exact ⟨by unfold Fits; omega, high j hh hh⟩
      refine if_step fun kb kt kf => ?_
      have hT : ∀ j, 0 < a → kb true [.own true p (jr j), .dat (.str L), .dat (.int n), .dat (.int lo), .dat (.int ((a : Int) - 1)), .dat (.int h), .dat (.str M)] := fun j a0 => by
        refine kt _ ?_
        simp only [entry, lend, jr, List.map_cons, List.map_nil, List.length_cons, List.length_nil, List.replicate_succ, List.replicate_zero, List.cons_append, List.nil_append, List.append_nil, Nat.reduceAdd, Nat.reduceSub, Nat.reduceMul, Nat.zero_add, dNext, dSet, dSetO, dPut, dPar, dPar3, dParOD, dParOO, dParDO, dRet, dRetO, dRetN, dDrop, dBin, dUn, dC, dVar, dCB, dCBO, daCons, daNil, daLend, dats, one, two, oneO, dIxO, dOwn1, dOwn2, fIx, fLen, dBl, dTru, dNot, dAnd, dOr, dAndV, dOrV, dNotV, dChain, dFr, dTup, dLst, dApp, dPopAt, dFor, diRng1, diRng2, diAny, gN, items, itemsD, oAdd, oSub, oMul, oDiv, oMod, oPow, oNeg, oCmp, oLt, oLe, oGt, oGe, oEq, oNe, oIn, oIsN, oNotN, isN, oIx, oLen, lenD, oInt, oAbs, oInts, oBool, oTuple, oAll, oAny, oSum, oSumA, oSl, dSl, pNo, pSo, oSorted, oList, oJoin, dMt1, dCall, dCallO, dCallT, argsOf, lent, opt, truth, MO.toD, Rv.toD, putOuts, putMO, List.getElem?_cons_zero, List.getElem?_cons_succ, List.set_cons_zero, List.set_cons_succ, Option.map_some, dIsi, dNo, at0, at1, at2, ix30, ix31, ix32, dComp, dYes, wipeD, back, dMake, dMeth, dLenSetS, oInD, dDict0, dDPut, dGet, dPar3DDO, dProp, dFld, dFldO, dFldSet, dSortSet, daKw, decide_eq_true_eq, shI, shS, shB, shN, eqI, eqS, true_and, List.contains_nil, beq_iff_eq, ↓reduceIte, Bool.false_eq_true]
        exact doLow j a0
      have hF : ∀ j, h < L.length → kb false [.own true p (jr j), .dat (.str L), .dat (.int n), .dat (.int lo), .dat (.int ((a : Int) - 1)), .dat (.int h), .dat (.str M)] := fun j hh => by
        refine kf _ ?_
        simp only [entry, lend, jr, List.map_cons, List.map_nil, List.length_cons, List.length_nil, List.replicate_succ, List.replicate_zero, List.cons_append, List.nil_append, List.append_nil, Nat.reduceAdd, Nat.reduceSub, Nat.reduceMul, Nat.zero_add, dNext, dSet, dSetO, dPut, dPar, dPar3, dParOD, dParOO, dParDO, dRet, dRetO, dRetN, dDrop, dBin, dUn, dC, dVar, dCB, dCBO, daCons, daNil, daLend, dats, one, two, oneO, dIxO, dOwn1, dOwn2, fIx, fLen, dBl, dTru, dNot, dAnd, dOr, dAndV, dOrV, dNotV, dChain, dFr, dTup, dLst, dApp, dPopAt, dFor, diRng1, diRng2, diAny, gN, items, itemsD, oAdd, oSub, oMul, oDiv, oMod, oPow, oNeg, oCmp, oLt, oLe, oGt, oGe, oEq, oNe, oIn, oIsN, oNotN, isN, oIx, oLen, lenD, oInt, oAbs, oInts, oBool, oTuple, oAll, oAny, oSum, oSumA, oSl, dSl, pNo, pSo, oSorted, oList, oJoin, dMt1, dCall, dCallO, dCallT, argsOf, lent, opt, truth, MO.toD, Rv.toD, putOuts, putMO, List.getElem?_cons_zero, List.getElem?_cons_succ, List.set_cons_zero, List.set_cons_succ, Option.map_some, dIsi, dNo, at0, at1, at2, ix30, ix31, ix32, dComp, dYes, wipeD, back, dMake, dMeth, dLenSetS, oInD, dDict0, dDPut, dGet, dPar3DDO, dProp, dFld, dFldO, dFldSet, dSortSet, daKw, decide_eq_true_eq, shI, shS, shB, shN, eqI, eqS, true_and, List.contains_nil, beq_iff_eq, ↓reduceIte, Bool.false_eq_true]
        exact doHigh j hh
      simp only [entry, lend, jr, List.map_cons, List.map_nil, List.length_cons, List.length_nil, List.replicate_succ, List.replicate_zero, List.cons_append, List.nil_append, List.append_nil, Nat.reduceAdd, Nat.reduceSub, Nat.reduceMul, Nat.zero_add, dNext, dSet, dSetO, dPut, dPar, dPar3, dParOD, dParOO, dParDO, dRet, dRetO, dRetN, dDrop, dBin, dUn, dC, dVar, dCB, dCBO, daCons, daNil, daLend, dats, one, two, oneO, dIxO, dOwn1, dOwn2, fIx, fLen, dBl, dTru, dNot, dAnd, dOr, dAndV, dOrV, dNotV, dChain, dFr, dTup, dLst, dApp, dPopAt, dFor, diRng1, diRng2, diAny, gN, items, itemsD, oAdd, oSub, oMul, oDiv, oMod, oPow, oNeg, oCmp, oLt, oLe, oGt, oGe, oEq, oNe, oIn, oIsN, oNotN, isN, oIx, oLen, lenD, oInt, oAbs, oInts, oBool, oTuple, oAll, oAny, oSum, oSumA, oSl, dSl, pNo, pSo, oSorted, oList, oJoin, dMt1, dCall, dCallO, dCallT, argsOf, lent, opt, truth, MO.toD, Rv.toD, putOuts, putMO, List.getElem?_cons_zero, List.getElem?_cons_succ, List.set_cons_zero, List.set_cons_succ, Option.map_some, dIsi, dNo, at0, at1, at2, ix30, ix31, ix32, dComp, dYes, wipeD, back, dMake, dMeth, dLenSetS, oInD, dDict0, dDPut, dGet, dPar3DDO, dProp, dFld, dFldO, dFldSet, dSortSet, daKw, decide_eq_true_eq, shI, shS, shB, shN, eqI, eqS, true_and, List.contains_nil, beq_iff_eq, ↓reduceIte, Bool.false_eq_true]
      split
      · exact hT j (by omega)
      · split
        · refine use_dip (by omega) (by omega) fun r j' r0 r1 => ?_
          simp only [entry, lend, jr, List.map_cons, List.map_nil, List.length_cons, List.length_nil, List.replicate_succ, List.replicate_zero, List.cons_append, List.nil_append, List.append_nil, Nat.reduceAdd, Nat.reduceSub, Nat.reduceMul, Nat.zero_add, dNext, dSet, dSetO, dPut, dPar, dPar3, dParOD, dParOO, dParDO, dRet, dRetO, dRetN, dDrop, dBin, dUn, dC, dVar, dCB, dCBO, daCons, daNil, daLend, dats, one, two, oneO, dIxO, dOwn1, dOwn2, fIx, fLen, dBl, dTru, dNot, dAnd, dOr, dAndV, dOrV, dNotV, dChain, dFr, dTup, dLst, dApp, dPopAt, dFor, diRng1, diRng2, diAny, gN, items, itemsD, oAdd, oSub, oMul, oDiv, oMod, oPow, oNeg, oCmp, oLt, oLe, oGt, oGe, oEq, oNe, oIn, oIsN, oNotN, isN, oIx, oLen, lenD, oInt, oAbs, oInts, oBool, oTuple, oAll, oAny, oSum, oSumA, oSl, dSl, pNo, pSo, oSorted, oList, oJoin, dMt1, dCall, dCallO, dCallT, argsOf, lent, opt, truth, MO.toD, Rv.toD, putOuts, putMO, List.getElem?_cons_zero, List.getElem?_cons_succ, List.set_cons_zero, List.set_cons_succ, Option.map_some, dIsi, dNo, at0, at1, at2, ix30, ix31, ix32, dComp, dYes, wipeD, back, dMake, dMeth, dLenSetS, oInD, dDict0, dDPut, dGet, dPar3DDO, dProp, dFld, dFldO, dFldSet, dSortSet, daKw, decide_eq_true_eq, shI, shS, shB, shN, eqI, eqS, true_and, List.contains_nil, beq_iff_eq, ↓reduceIte, Bool.false_eq_true]
          refine beq_case (fun _ => hT j' (by omega)) (fun _ => hF j' (by omega))
        · exact hF j (by omega)
  · rw [show L.length - (n + 1 - n) = L.length - 1 by omega]
    congr 1
    omega
  · rw [List.drop_eq_getElem_cons hn, show n + 1 - n = 0 + 1 by omega, List.take_succ_cons, List.take_zero]
  · have := steps_add (x := L[n]) (i := n) (j := 1) (steps_nil L) (by rw [List.drop_eq_getElem_cons hn, List.take_succ_cons, List.take_zero]; exact .refl _)
    exact this
  · rfl
theorem math_L_lot_of (K : PySem.W.Frag) : ∀ args Q U, sp_L_lot_of K args Q U → m_L_lot_of K (ends args Q U) (entry (List.length N_L_lot_of) args) := by
  rintro args Q U ⟨⟨⟨b, p, j⟩, L, m⟩, rfl, ⟨h0, h1, h2, h3⟩, hQ⟩
  have h0 : 2 ≤ L.length := h0
  have h1 : L.length ≤ 26 := h1
  have h2 : 0 < m := h2
  have h3 : m ≤ 40 := h3
  have fin : ∀ lot j, Lot L m lot → Q (.d (.tup (stL lot))) [jr j] := fun lot j a => hQ (lot, j) a
  unfold m_L_lot_of
  refine seq_step fun k1 hk1 => ?_
  simp only [entry, lend, jr, List.map_cons, List.map_nil, List.length_cons, List.length_nil, List.replicate_succ, List.replicate_zero, List.cons_append, List.nil_append, List.append_nil, Nat.reduceAdd, Nat.reduceSub, Nat.reduceMul, Nat.zero_add, dNext, dSet, dSetO, dPut, dPar, dPar3, dParOD, dParOO, dParDO, dRet, dRetO, dRetN, dDrop, dBin, dUn, dC, dVar, dCB, dCBO, daCons, daNil, daLend, dats, one, two, oneO, dIxO, dOwn1, dOwn2, fIx, fLen, dBl, dTru, dNot, dAnd, dOr, dAndV, dOrV, dNotV, dChain, dFr, dTup, dLst, dApp, dPopAt, dFor, diRng1, diRng2, diAny, gN, items, itemsD, oAdd, oSub, oMul, oDiv, oMod, oPow, oNeg, oCmp, oLt, oLe, oGt, oGe, oEq, oNe, oIn, oIsN, oNotN, isN, oIx, oLen, lenD, oInt, oAbs, oInts, oBool, oTuple, oAll, oAny, oSum, oSumA, oSl, dSl, pNo, pSo, oSorted, oList, oJoin, dMt1, dCall, dCallO, dCallT, argsOf, lent, opt, truth, MO.toD, Rv.toD, putOuts, putMO, List.getElem?_cons_zero, List.getElem?_cons_succ, List.set_cons_zero, List.set_cons_succ, Option.map_some, dIsi, dNo, at0, at1, at2, ix30, ix31, ix32, dComp, dYes, wipeD, back, dMake, dMeth, dLenSetS, oInD, dDict0, dDPut, dGet, dPar3DDO, dProp, dFld, dFldO, dFldSet, dSortSet, daKw, decide_eq_true_eq, shI, shS, shB, shN, eqI, eqS, true_and, List.contains_nil, beq_iff_eq, ↓reduceIte, Bool.false_eq_true]
  refine use_dip (by omega) (by omega) fun r j' r0 r1 => ?_
  simp only [entry, lend, jr, List.map_cons, List.map_nil, List.length_cons, List.length_nil, List.replicate_succ, List.replicate_zero, List.cons_append, List.nil_append, List.append_nil, Nat.reduceAdd, Nat.reduceSub, Nat.reduceMul, Nat.zero_add, dNext, dSet, dSetO, dPut, dPar, dPar3, dParOD, dParOO, dParDO, dRet, dRetO, dRetN, dDrop, dBin, dUn, dC, dVar, dCB, dCBO, daCons, daNil, daLend, dats, one, two, oneO, dIxO, dOwn1, dOwn2, fIx, fLen, dBl, dTru, dNot, dAnd, dOr, dAndV, dOrV, dNotV, dChain, dFr, dTup, dLst, dApp, dPopAt, dFor, diRng1, diRng2, diAny, gN, items, itemsD, oAdd, oSub, oMul, oDiv, oMod, oPow, oNeg, oCmp, oLt, oLe, oGt, oGe, oEq, oNe, oIn, oIsN, oNotN, isN, oIx, oLen, lenD, oInt, oAbs, oInts, oBool, oTuple, oAll, oAny, oSum, oSumA, oSl, dSl, pNo, pSo, oSorted, oList, oJoin, dMt1, dCall, dCallO, dCallT, argsOf, lent, opt, truth, MO.toD, Rv.toD, putOuts, putMO, List.getElem?_cons_zero, List.getElem?_cons_succ, List.set_cons_zero, List.set_cons_succ, Option.map_some, dIsi, dNo, at0, at1, at2, ix30, ix31, ix32, dComp, dYes, wipeD, back, dMake, dMeth, dLenSetS, oInD, dDict0, dDPut, dGet, dPar3DDO, dProp, dFld, dFldO, dFldSet, dSortSet, daKw, decide_eq_true_eq, shI, shS, shB, shN, eqI, eqS, true_and, List.contains_nil, beq_iff_eq, ↓reduceIte, Bool.false_eq_true]
  refine ⟨kilo_line (by decide), fun q => hk1 _ (seq_step fun k2 hk2 => ?_)⟩
  simp only [entry, lend, jr, List.map_cons, List.map_nil, List.length_cons, List.length_nil, List.replicate_succ, List.replicate_zero, List.cons_append, List.nil_append, List.append_nil, Nat.reduceAdd, Nat.reduceSub, Nat.reduceMul, Nat.zero_add, dNext, dSet, dSetO, dPut, dPar, dPar3, dParOD, dParOO, dParDO, dRet, dRetO, dRetN, dDrop, dBin, dUn, dC, dVar, dCB, dCBO, daCons, daNil, daLend, dats, one, two, oneO, dIxO, dOwn1, dOwn2, fIx, fLen, dBl, dTru, dNot, dAnd, dOr, dAndV, dOrV, dNotV, dChain, dFr, dTup, dLst, dApp, dPopAt, dFor, diRng1, diRng2, diAny, gN, items, itemsD, oAdd, oSub, oMul, oDiv, oMod, oPow, oNeg, oCmp, oLt, oLe, oGt, oGe, oEq, oNe, oIn, oIsN, oNotN, isN, oIx, oLen, lenD, oInt, oAbs, oInts, oBool, oTuple, oAll, oAny, oSum, oSumA, oSl, dSl, pNo, pSo, oSorted, oList, oJoin, dMt1, dCall, dCallO, dCallT, argsOf, lent, opt, truth, MO.toD, Rv.toD, putOuts, putMO, List.getElem?_cons_zero, List.getElem?_cons_succ, List.set_cons_zero, List.set_cons_succ, Option.map_some, dIsi, dNo, at0, at1, at2, ix30, ix31, ix32, dComp, dYes, wipeD, back, dMake, dMeth, dLenSetS, oInD, dDict0, dDPut, dGet, dPar3DDO, dProp, dFld, dFldO, dFldSet, dSortSet, daKw, decide_eq_true_eq, shI, shS, shB, shN, eqI, eqS, true_and, List.contains_nil, beq_iff_eq, ↓reduceIte, Bool.false_eq_true]
  refine use_shuffled (j := (_, _, _)) h1 fun S j2 pS => ?_
  simp only [entry, lend, jr, List.map_cons, List.map_nil, List.length_cons, List.length_nil, List.replicate_succ, List.replicate_zero, List.cons_append, List.nil_append, List.append_nil, Nat.reduceAdd, Nat.reduceSub, Nat.reduceMul, Nat.zero_add, dNext, dSet, dSetO, dPut, dPar, dPar3, dParOD, dParOO, dParDO, dRet, dRetO, dRetN, dDrop, dBin, dUn, dC, dVar, dCB, dCBO, daCons, daNil, daLend, dats, one, two, oneO, dIxO, dOwn1, dOwn2, fIx, fLen, dBl, dTru, dNot, dAnd, dOr, dAndV, dOrV, dNotV, dChain, dFr, dTup, dLst, dApp, dPopAt, dFor, diRng1, diRng2, diAny, gN, items, itemsD, oAdd, oSub, oMul, oDiv, oMod, oPow, oNeg, oCmp, oLt, oLe, oGt, oGe, oEq, oNe, oIn, oIsN, oNotN, isN, oIx, oLen, lenD, oInt, oAbs, oInts, oBool, oTuple, oAll, oAny, oSum, oSumA, oSl, dSl, pNo, pSo, oSorted, oList, oJoin, dMt1, dCall, dCallO, dCallT, argsOf, lent, opt, truth, MO.toD, Rv.toD, putOuts, putMO, List.getElem?_cons_zero, List.getElem?_cons_succ, List.set_cons_zero, List.set_cons_succ, Option.map_some, dIsi, dNo, at0, at1, at2, ix30, ix31, ix32, dComp, dYes, wipeD, back, dMake, dMeth, dLenSetS, oInD, dDict0, dDPut, dGet, dPar3DDO, dProp, dFld, dFldO, dFldSet, dSortSet, daKw, decide_eq_true_eq, shI, shS, shB, shN, eqI, eqS, true_and, List.contains_nil, beq_iff_eq, ↓reduceIte, Bool.false_eq_true]
  refine hk2 _ (seq_step fun k3 hk3 => ?_)
  simp only [entry, lend, jr, List.map_cons, List.map_nil, List.length_cons, List.length_nil, List.replicate_succ, List.replicate_zero, List.cons_append, List.nil_append, List.append_nil, Nat.reduceAdd, Nat.reduceSub, Nat.reduceMul, Nat.zero_add, dNext, dSet, dSetO, dPut, dPar, dPar3, dParOD, dParOO, dParDO, dRet, dRetO, dRetN, dDrop, dBin, dUn, dC, dVar, dCB, dCBO, daCons, daNil, daLend, dats, one, two, oneO, dIxO, dOwn1, dOwn2, fIx, fLen, dBl, dTru, dNot, dAnd, dOr, dAndV, dOrV, dNotV, dChain, dFr, dTup, dLst, dApp, dPopAt, dFor, diRng1, diRng2, diAny, gN, items, itemsD, oAdd, oSub, oMul, oDiv, oMod, oPow, oNeg, oCmp, oLt, oLe, oGt, oGe, oEq, oNe, oIn, oIsN, oNotN, isN, oIx, oLen, lenD, oInt, oAbs, oInts, oBool, oTuple, oAll, oAny, oSum, oSumA, oSl, dSl, pNo, pSo, oSorted, oList, oJoin, dMt1, dCall, dCallO, dCallT, argsOf, lent, opt, truth, MO.toD, Rv.toD, putOuts, putMO, List.getElem?_cons_zero, List.getElem?_cons_succ, List.set_cons_zero, List.set_cons_succ, Option.map_some, dIsi, dNo, at0, at1, at2, ix30, ix31, ix32, dComp, dYes, wipeD, back, dMake, dMeth, dLenSetS, oInD, dDict0, dDPut, dGet, dPar3DDO, dProp, dFld, dFldO, dFldSet, dSortSet, daKw, decide_eq_true_eq, shI, shS, shB, shN, eqI, eqS, true_and, List.contains_nil, beq_iff_eq, ↓reduceIte, Bool.false_eq_true]
  refine use_dip (by omega) (by omega) fun c j3 c0 c1 => ?_
  simp only [entry, lend, jr, List.map_cons, List.map_nil, List.length_cons, List.length_nil, List.replicate_succ, List.replicate_zero, List.cons_append, List.nil_append, List.append_nil, Nat.reduceAdd, Nat.reduceSub, Nat.reduceMul, Nat.zero_add, dNext, dSet, dSetO, dPut, dPar, dPar3, dParOD, dParOO, dParDO, dRet, dRetO, dRetN, dDrop, dBin, dUn, dC, dVar, dCB, dCBO, daCons, daNil, daLend, dats, one, two, oneO, dIxO, dOwn1, dOwn2, fIx, fLen, dBl, dTru, dNot, dAnd, dOr, dAndV, dOrV, dNotV, dChain, dFr, dTup, dLst, dApp, dPopAt, dFor, diRng1, diRng2, diAny, gN, items, itemsD, oAdd, oSub, oMul, oDiv, oMod, oPow, oNeg, oCmp, oLt, oLe, oGt, oGe, oEq, oNe, oIn, oIsN, oNotN, isN, oIx, oLen, lenD, oInt, oAbs, oInts, oBool, oTuple, oAll, oAny, oSum, oSumA, oSl, dSl, pNo, pSo, oSorted, oList, oJoin, dMt1, dCall, dCallO, dCallT, argsOf, lent, opt, truth, MO.toD, Rv.toD, putOuts, putMO, List.getElem?_cons_zero, List.getElem?_cons_succ, List.set_cons_zero, List.set_cons_succ, Option.map_some, dIsi, dNo, at0, at1, at2, ix30, ix31, ix32, dComp, dYes, wipeD, back, dMake, dMeth, dLenSetS, oInD, dDict0, dDPut, dGet, dPar3DDO, dProp, dFld, dFldO, dFldSet, dSortSet, daKw, decide_eq_true_eq, shI, shS, shB, shN, eqI, eqS, true_and, List.contains_nil, beq_iff_eq, ↓reduceIte, Bool.false_eq_true]
  refine ⟨by omega, by omega, ?_⟩
  refine loop_ind (fun ds ρ => ∃ (N : List (List Nat)) (S : List Nat) (z : Nat) (j : Jr) (lo : Int) (s s7 s8 s9 : Sl), ds = rangeD lo z ∧ N.length + z ≤ m ∧ 0 < N.length + z ∧ (∀ l ∈ N, l.Perm L) ∧ S.Perm L ∧ ρ = [.own true p (jr j), .dat (.str L), .dat (.int m), .dat (.str S), s, .dat (.int r), .own false q (.lst (stL N)), s7, s8, s9]) ?_ ?_ _ _
    ⟨[], S, (1 + c).toNat, j3, 0, .no, .no, .no, .no, ?_, ?_, ?_, ?_, pS, rfl⟩
  · rintro ρ ⟨N, S, z, j, lo, s, s7, s8, s9, e, h1', h2', hN, pS, rfl⟩
    have z0 : z = 0 := by
      cases z with
      | zero => rfl
      | succ z => rw [range_succ] at e; cases e
    subst z0
    refine hk3 _ ?_
    simp only [entry, lend, jr, List.map_cons, List.map_nil, List.length_cons, List.length_nil, List.replicate_succ, List.replicate_zero, List.cons_append, List.nil_append, List.append_nil, Nat.reduceAdd, Nat.reduceSub, Nat.reduceMul, Nat.zero_add, dSeq, dNext, dSet, dSetO, dPut, dPar, dPar3, dParOD, dParOO, dParDO, dIfS, dRet, dRetO, dRetN, dDrop, dBin, dUn, dC, dVar, dCB, dCBO, daCons, daNil, daLend, dats, one, two, oneO, dIxO, dOwn1, dOwn2, fIx, fLen, dBl, dTru, dNot, dAnd, dOr, dIf, dAndV, dOrV, dNotV, dChain, dFr, dTup, dLst, dApp, dPopAt, dFor, diRng1, diRng2, diAny, gN, items, itemsD, oAdd, oSub, oMul, oDiv, oMod, oPow, oNeg, oCmp, oLt, oLe, oGt, oGe, oEq, oNe, oIn, oIsN, oNotN, isN, oIx, oLen, lenD, oInt, oAbs, oInts, oBool, oTuple, oAll, oAny, oSum, oSumA, oSl, dSl, pNo, pSo, oSorted, oList, oJoin, dMt1, dCall, dCallO, dCallT, argsOf, lent, opt, truth, MO.toD, Rv.toD, putOuts, putMO, List.getElem?_cons_zero, List.getElem?_cons_succ, List.set_cons_zero, List.set_cons_succ, Option.map_some, dIsi, dNo, at0, at1, at2, ix30, ix31, ix32, ends, outW, dComp, dYes, wipeD, back, dMake, dMeth, dLenSetS, oInD, dDict0, dDPut, dGet, dPar3DDO, dProp, dFld, dFldO, dFldSet, dSortSet, daKw, decide_eq_true_eq, shI, shS, shB, shN, eqI, eqS, true_and, List.contains_nil, beq_iff_eq, ↓reduceIte, Bool.false_eq_true]
    rw [show strsD (stL N) = some N from strsD_map N]
    simp only [entry, lend, jr, List.map_cons, List.map_nil, List.length_cons, List.length_nil, List.replicate_succ, List.replicate_zero, List.cons_append, List.nil_append, List.append_nil, Nat.reduceAdd, Nat.reduceSub, Nat.reduceMul, Nat.zero_add, dSeq, dNext, dSet, dSetO, dPut, dPar, dPar3, dParOD, dParOO, dParDO, dIfS, dRet, dRetO, dRetN, dDrop, dBin, dUn, dC, dVar, dCB, dCBO, daCons, daNil, daLend, dats, one, two, oneO, dIxO, dOwn1, dOwn2, fIx, fLen, dBl, dTru, dNot, dAnd, dOr, dIf, dAndV, dOrV, dNotV, dChain, dFr, dTup, dLst, dApp, dPopAt, dFor, diRng1, diRng2, diAny, gN, items, itemsD, oAdd, oSub, oMul, oDiv, oMod, oPow, oNeg, oCmp, oLt, oLe, oGt, oGe, oEq, oNe, oIn, oIsN, oNotN, isN, oIx, oLen, lenD, oInt, oAbs, oInts, oBool, oTuple, oAll, oAny, oSum, oSumA, oSl, dSl, pNo, pSo, oSorted, oList, oJoin, dMt1, dCall, dCallO, dCallT, argsOf, lent, opt, truth, MO.toD, Rv.toD, putOuts, putMO, List.getElem?_cons_zero, List.getElem?_cons_succ, List.set_cons_zero, List.set_cons_succ, Option.map_some, dIsi, dNo, at0, at1, at2, ix30, ix31, ix32, ends, outW, dComp, dYes, wipeD, back, dMake, dMeth, dLenSetS, oInD, dDict0, dDPut, dGet, dPar3DDO, dProp, dFld, dFldO, dFldSet, dSortSet, daKw, decide_eq_true_eq, shI, shS, shB, shN, eqI, eqS, true_and, List.contains_nil, beq_iff_eq, ↓reduceIte, Bool.false_eq_true]
    have ne : N ≠ [] := fun e => by rw [e] at h2'; simp at h2'
    have pw : (srtL (dd N)).Pairwise (· < ·) := by
      have q1 := srtL_srt (dd N)
      have q2 := (srtL_perm (dd N)).nodup_iff.mpr (dd_nodup N [] List.nodup_nil)
      exact (List.pairwise_and_iff.mpr ⟨q1, q2⟩).imp fun {a b} ⟨x, y⟩ => by
        rcases Classical.em (a < b) with h | h
        · exact h
        · exact absurd (leL_anti x h) y
    have mem : ∀ l, l ∈ srtL (dd N) ↔ l ∈ N := fun l => by
      rw [(srtL_perm (dd N)).mem_iff]
      have := dd_mem l N []
      unfold dd
      simpa using this
    refine ⟨by omega, fin _ j ⟨fun e => ?_, ?_, fun l hl => hN l ((mem l).mp hl), pw⟩⟩
    · obtain ⟨x, N', rfl⟩ := List.exists_cons_of_ne_nil ne
      have := (mem x).mpr List.mem_cons_self
      rw [e] at this
      cases this
    · rw [(srtL_perm (dd N)).length_eq]
      have := dd_len N []
      simp only [List.length_nil] at this
      unfold dd
      omega
  · rintro d ds ρ k' ⟨N, S, z, j, lo, s, s7, s8, s9, e, h1', h2', hN, pS, rfl⟩ hk
    cases z with
    | zero => cases e
    | succ z =>
      rw [range_succ] at e
      obtain ⟨rfl, rfl⟩ := List.cons.inj e
      refine seq_step fun k4 hk4 => ?_
      have lS : S.length = L.length := pS.length_eq
      have fin7 : ∀ j M, M.Perm L → k4 [.own true p (jr j), .dat (.str L), .dat (.int m), .dat (.str S), .dat (.int lo), .dat (.int r), .own false q (.lst (stL N)), .dat (.str M), s8, s9] := fun j M pM => by
        refine hk4 _ (seq_step fun k5 hk5 => ?_)
        have fin8 : ∀ j S' M t8 t9, S'.Perm L → M.Perm L → k5 [.own true p (jr j), .dat (.str L), .dat (.int m), .dat (.str S'), .dat (.int lo), .dat (.int r), .own false q (.lst (stL N)), .dat (.str M), t8, t9] := fun j S' M t8 t9 pS' pM => by
          refine hk5 _ ?_
          simp only [entry, lend, jr, List.map_cons, List.map_nil, List.length_cons, List.length_nil, List.replicate_succ, List.replicate_zero, List.cons_append, List.nil_append, List.append_nil, Nat.reduceAdd, Nat.reduceSub, Nat.reduceMul, Nat.zero_add, dNext, dSet, dSetO, dPut, dPar, dPar3, dParOD, dParOO, dParDO, dRet, dRetO, dRetN, dDrop, dBin, dUn, dC, dVar, dCB, dCBO, daCons, daNil, daLend, dats, one, two, oneO, dIxO, dOwn1, dOwn2, fIx, fLen, dBl, dTru, dNot, dAnd, dOr, dAndV, dOrV, dNotV, dChain, dFr, dTup, dLst, dApp, dPopAt, dFor, diRng1, diRng2, diAny, gN, items, itemsD, oAdd, oSub, oMul, oDiv, oMod, oPow, oNeg, oCmp, oLt, oLe, oGt, oGe, oEq, oNe, oIn, oIsN, oNotN, isN, oIx, oLen, lenD, oInt, oAbs, oInts, oBool, oTuple, oAll, oAny, oSum, oSumA, oSl, dSl, pNo, pSo, oSorted, oList, oJoin, dMt1, dCall, dCallO, dCallT, argsOf, lent, opt, truth, MO.toD, Rv.toD, putOuts, putMO, List.getElem?_cons_zero, List.getElem?_cons_succ, List.set_cons_zero, List.set_cons_succ, Option.map_some, dIsi, dNo, at0, at1, at2, ix30, ix31, ix32, dComp, dYes, wipeD, back, dMake, dMeth, dLenSetS, oInD, dDict0, dDPut, dGet, dPar3DDO, dProp, dFld, dFldO, dFldSet, dSortSet, daKw, decide_eq_true_eq, shI, shS, shB, shN, eqI, eqS, true_and, List.contains_nil, beq_iff_eq, ↓reduceIte, Bool.false_eq_true]
          refine ⟨by unfold Fits stL; rw [List.length_map]; omega, hk _ ⟨N ++ [M], S', z, j, lo + 1, .dat (.int lo), .dat (.str M), t8, t9, rfl, ?_, ?_, ?_, pS', ?_⟩⟩
          · rw [List.length_append, List.length_singleton]; omega
          · rw [List.length_append, List.length_singleton]; omega
          · intro l hl
            rcases List.mem_append.mp hl with h | h
            · exact hN l h
            · rw [List.mem_singleton.mp h]; exact pM
          · unfold stL
            rw [List.map_append]
            rfl
        refine if_step fun kb kt kf => ?_
        simp only [entry, lend, jr, List.map_cons, List.map_nil, List.length_cons, List.length_nil, List.replicate_succ, List.replicate_zero, List.cons_append, List.nil_append, List.append_nil, Nat.reduceAdd, Nat.reduceSub, Nat.reduceMul, Nat.zero_add, dNext, dSet, dSetO, dPut, dPar, dPar3, dParOD, dParOO, dParDO, dRet, dRetO, dRetN, dDrop, dBin, dUn, dC, dVar, dCB, dCBO, daCons, daNil, daLend, dats, one, two, oneO, dIxO, dOwn1, dOwn2, fIx, fLen, dBl, dTru, dNot, dAnd, dOr, dAndV, dOrV, dNotV, dChain, dFr, dTup, dLst, dApp, dPopAt, dFor, diRng1, diRng2, diAny, gN, items, itemsD, oAdd, oSub, oMul, oDiv, oMod, oPow, oNeg, oCmp, oLt, oLe, oGt, oGe, oEq, oNe, oIn, oIsN, oNotN, isN, oIx, oLen, lenD, oInt, oAbs, oInts, oBool, oTuple, oAll, oAny, oSum, oSumA, oSl, dSl, pNo, pSo, oSorted, oList, oJoin, dMt1, dCall, dCallO, dCallT, argsOf, lent, opt, truth, MO.toD, Rv.toD, putOuts, putMO, List.getElem?_cons_zero, List.getElem?_cons_succ, List.set_cons_zero, List.set_cons_succ, Option.map_some, dIsi, dNo, at0, at1, at2, ix30, ix31, ix32, dComp, dYes, wipeD, back, dMake, dMeth, dLenSetS, oInD, dDict0, dDPut, dGet, dPar3DDO, dProp, dFld, dFldO, dFldSet, dSortSet, daKw, decide_eq_true_eq, shI, shS, shB, shN, eqI, eqS, true_and, List.contains_nil, beq_iff_eq, ↓reduceIte, Bool.false_eq_true]
        refine beq_case (fun _ => kt _ (seq_step fun k6 hk6 => ?_)) (fun _ => kf _ ?_)
        · simp only [entry, lend, jr, List.map_cons, List.map_nil, List.length_cons, List.length_nil, List.replicate_succ, List.replicate_zero, List.cons_append, List.nil_append, List.append_nil, Nat.reduceAdd, Nat.reduceSub, Nat.reduceMul, Nat.zero_add, dNext, dSet, dSetO, dPut, dPar, dPar3, dParOD, dParOO, dParDO, dRet, dRetO, dRetN, dDrop, dBin, dUn, dC, dVar, dCB, dCBO, daCons, daNil, daLend, dats, one, two, oneO, dIxO, dOwn1, dOwn2, fIx, fLen, dBl, dTru, dNot, dAnd, dOr, dAndV, dOrV, dNotV, dChain, dFr, dTup, dLst, dApp, dPopAt, dFor, diRng1, diRng2, diAny, gN, items, itemsD, oAdd, oSub, oMul, oDiv, oMod, oPow, oNeg, oCmp, oLt, oLe, oGt, oGe, oEq, oNe, oIn, oIsN, oNotN, isN, oIx, oLen, lenD, oInt, oAbs, oInts, oBool, oTuple, oAll, oAny, oSum, oSumA, oSl, dSl, pNo, pSo, oSorted, oList, oJoin, dMt1, dCall, dCallO, dCallT, argsOf, lent, opt, truth, MO.toD, Rv.toD, putOuts, putMO, List.getElem?_cons_zero, List.getElem?_cons_succ, List.set_cons_zero, List.set_cons_succ, Option.map_some, dIsi, dNo, at0, at1, at2, ix30, ix31, ix32, dComp, dYes, wipeD, back, dMake, dMeth, dLenSetS, oInD, dDict0, dDPut, dGet, dPar3DDO, dProp, dFld, dFldO, dFldSet, dSortSet, daKw, decide_eq_true_eq, shI, shS, shB, shN, eqI, eqS, true_and, List.contains_nil, beq_iff_eq, ↓reduceIte, Bool.false_eq_true]
          refine use_dip (by omega) (by omega) fun c j' c0 c1 => ?_
          simp only [entry, lend, jr, List.map_cons, List.map_nil, List.length_cons, List.length_nil, List.replicate_succ, List.replicate_zero, List.cons_append, List.nil_append, List.append_nil, Nat.reduceAdd, Nat.reduceSub, Nat.reduceMul, Nat.zero_add, dNext, dSet, dSetO, dPut, dPar, dPar3, dParOD, dParOO, dParDO, dRet, dRetO, dRetN, dDrop, dBin, dUn, dC, dVar, dCB, dCBO, daCons, daNil, daLend, dats, one, two, oneO, dIxO, dOwn1, dOwn2, fIx, fLen, dBl, dTru, dNot, dAnd, dOr, dAndV, dOrV, dNotV, dChain, dFr, dTup, dLst, dApp, dPopAt, dFor, diRng1, diRng2, diAny, gN, items, itemsD, oAdd, oSub, oMul, oDiv, oMod, oPow, oNeg, oCmp, oLt, oLe, oGt, oGe, oEq, oNe, oIn, oIsN, oNotN, isN, oIx, oLen, lenD, oInt, oAbs, oInts, oBool, oTuple, oAll, oAny, oSum, oSumA, oSl, dSl, pNo, pSo, oSorted, oList, oJoin, dMt1, dCall, dCallO, dCallT, argsOf, lent, opt, truth, MO.toD, Rv.toD, putOuts, putMO, List.getElem?_cons_zero, List.getElem?_cons_succ, List.set_cons_zero, List.set_cons_succ, Option.map_some, dIsi, dNo, at0, at1, at2, ix30, ix31, ix32, dComp, dYes, wipeD, back, dMake, dMeth, dLenSetS, oInD, dDict0, dDPut, dGet, dPar3DDO, dProp, dFld, dFldO, dFldSet, dSortSet, daKw, decide_eq_true_eq, shI, shS, shB, shN, eqI, eqS, true_and, List.contains_nil, beq_iff_eq, ↓reduceIte, Bool.false_eq_true]
          refine hk6 _ (seq_step fun k7 hk7 => ?_)
          obtain ⟨c, rfl⟩ : ∃ n : Nat, c = n := ⟨c.toNat, by omega⟩
          have a1 : L2.atI S ((c : Int) + 1) = some (S[c + 1]'(by omega)) := by rw [show (c : Int) + 1 = ((c + 1 : Nat) : Int) by omega, atN, List.getElem?_eq_getElem]
          have a2 : L2.atI S (c : Int) = some (S[c]'(by omega)) := by rw [atN, List.getElem?_eq_getElem]
          simp only [a1, a2, entry, lend, jr, List.map_cons, List.map_nil, List.length_cons, List.length_nil, List.replicate_succ, List.replicate_zero, List.cons_append, List.nil_append, List.append_nil, Nat.reduceAdd, Nat.reduceSub, Nat.reduceMul, Nat.zero_add, dNext, dSet, dSetO, dPut, dPar, dPar3, dParOD, dParOO, dParDO, dRet, dRetO, dRetN, dDrop, dBin, dUn, dC, dVar, dCB, dCBO, daCons, daNil, daLend, dats, one, two, oneO, dIxO, dOwn1, dOwn2, fIx, fLen, dBl, dTru, dNot, dAnd, dOr, dAndV, dOrV, dNotV, dChain, dFr, dTup, dLst, dApp, dPopAt, dFor, diRng1, diRng2, diAny, gN, items, itemsD, oAdd, oSub, oMul, oDiv, oMod, oPow, oNeg, oCmp, oLt, oLe, oGt, oGe, oEq, oNe, oIn, oIsN, oNotN, isN, oIx, oLen, lenD, oInt, oAbs, oInts, oBool, oTuple, oAll, oAny, oSum, oSumA, oSl, dSl, pNo, pSo, oSorted, oList, oJoin, dMt1, dCall, dCallO, dCallT, argsOf, lent, opt, truth, MO.toD, Rv.toD, putOuts, putMO, List.getElem?_cons_zero, List.getElem?_cons_succ, List.set_cons_zero, List.set_cons_succ, Option.map_some, dIsi, dNo, at0, at1, at2, ix30, ix31, ix32, dComp, dYes, wipeD, back, dMake, dMeth, dLenSetS, oInD, dDict0, dDPut, dGet, dPar3DDO, dProp, dFld, dFldO, dFldSet, dSortSet, daKw, decide_eq_true_eq, shI, shS, shB, shN, eqI, eqS, true_and, List.contains_nil, beq_iff_eq, ↓reduceIte, Bool.false_eq_true]
          refine ⟨by unfold Fits; simp, hk7 _ (seq_step fun k8 hk8 => ?_)⟩
          have e2 : ((c : Int) + 2) = ((c + 2 : Nat) : Int) := by omega
          simp only [e2, cut_pre, cut_suf, entry, lend, jr, List.map_cons, List.map_nil, List.length_cons, List.length_nil, List.replicate_succ, List.replicate_zero, List.cons_append, List.nil_append, List.append_nil, Nat.reduceAdd, Nat.reduceSub, Nat.reduceMul, Nat.zero_add, dNext, dSet, dSetO, dPut, dPar, dPar3, dParOD, dParOO, dParDO, dRet, dRetO, dRetN, dDrop, dBin, dUn, dC, dVar, dCB, dCBO, daCons, daNil, daLend, dats, one, two, oneO, dIxO, dOwn1, dOwn2, fIx, fLen, dBl, dTru, dNot, dAnd, dOr, dAndV, dOrV, dNotV, dChain, dFr, dTup, dLst, dApp, dPopAt, dFor, diRng1, diRng2, diAny, gN, items, itemsD, oAdd, oSub, oMul, oDiv, oMod, oPow, oNeg, oCmp, oLt, oLe, oGt, oGe, oEq, oNe, oIn, oIsN, oNotN, isN, oIx, oLen, lenD, oInt, oAbs, oInts, oBool, oTuple, oAll, oAny, oSum, oSumA, oSl, dSl, pNo, pSo, oSorted, oList, oJoin, dMt1, dCall, dCallO, dCallT, argsOf, lent, opt, truth, MO.toD, Rv.toD, putOuts, putMO, List.getElem?_cons_zero, List.getElem?_cons_succ, List.set_cons_zero, List.set_cons_succ, Option.map_some, dIsi, dNo, at0, at1, at2, ix30, ix31, ix32, dComp, dYes, wipeD, back, dMake, dMeth, dLenSetS, oInD, dDict0, dDPut, dGet, dPar3DDO, dProp, dFld, dFldO, dFldSet, dSortSet, daKw, decide_eq_true_eq, shI, shS, shB, shN, eqI, eqS, true_and, List.contains_nil, beq_iff_eq, ↓reduceIte, Bool.false_eq_true]
          have pS' : (S.take c ++ [S[c + 1]'(by omega), S[c]'(by omega)] ++ S.drop (c + 2)).Perm L := by
            refine List.Perm.trans ?_ pS
            have e : S = S.take c ++ ([S[c]'(by omega), S[c + 1]'(by omega)] ++ S.drop (c + 2)) := by
              conv => lhs; rw [← List.take_append_drop c S, List.drop_eq_getElem_cons (show c < S.length by omega), List.drop_eq_getElem_cons (show c + 1 < S.length by omega)]
              rfl
            conv => rhs; rw [e]
            rw [List.append_assoc]
            exact (List.Perm.append_right _ (List.Perm.swap _ _ _)).append_left _
          have l2 := pS'.length_eq
          rw [List.length_append] at l2
          refine ⟨by unfold Fits; rw [List.length_append] at l2; simp only [List.length_cons, List.length_nil] at l2; omega, by unfold Fits; omega, hk8 _ ?_⟩
          simp only [entry, lend, jr, List.map_cons, List.map_nil, List.length_cons, List.length_nil, List.replicate_succ, List.replicate_zero, List.cons_append, List.nil_append, List.append_nil, Nat.reduceAdd, Nat.reduceSub, Nat.reduceMul, Nat.zero_add, dNext, dSet, dSetO, dPut, dPar, dPar3, dParOD, dParOO, dParDO, dRet, dRetO, dRetN, dDrop, dBin, dUn, dC, dVar, dCB, dCBO, daCons, daNil, daLend, dats, one, two, oneO, dIxO, dOwn1, dOwn2, fIx, fLen, dBl, dTru, dNot, dAnd, dOr, dAndV, dOrV, dNotV, dChain, dFr, dTup, dLst, dApp, dPopAt, dFor, diRng1, diRng2, diAny, gN, items, itemsD, oAdd, oSub, oMul, oDiv, oMod, oPow, oNeg, oCmp, oLt, oLe, oGt, oGe, oEq, oNe, oIn, oIsN, oNotN, isN, oIx, oLen, lenD, oInt, oAbs, oInts, oBool, oTuple, oAll, oAny, oSum, oSumA, oSl, dSl, pNo, pSo, oSorted, oList, oJoin, dMt1, dCall, dCallO, dCallT, argsOf, lent, opt, truth, MO.toD, Rv.toD, putOuts, putMO, List.getElem?_cons_zero, List.getElem?_cons_succ, List.set_cons_zero, List.set_cons_succ, Option.map_some, dIsi, dNo, at0, at1, at2, ix30, ix31, ix32, dComp, dYes, wipeD, back, dMake, dMeth, dLenSetS, oInD, dDict0, dDPut, dGet, dPar3DDO, dProp, dFld, dFldO, dFldSet, dSortSet, daKw, decide_eq_true_eq, shI, shS, shB, shN, eqI, eqS, true_and, List.contains_nil, beq_iff_eq, ↓reduceIte, Bool.false_eq_true]
          exact fin8 j' _ _ _ _ pS' pS'
        · simp only [entry, lend, jr, List.map_cons, List.map_nil, List.length_cons, List.length_nil, List.replicate_succ, List.replicate_zero, List.cons_append, List.nil_append, List.append_nil, Nat.reduceAdd, Nat.reduceSub, Nat.reduceMul, Nat.zero_add, dNext, dSet, dSetO, dPut, dPar, dPar3, dParOD, dParOO, dParDO, dRet, dRetO, dRetN, dDrop, dBin, dUn, dC, dVar, dCB, dCBO, daCons, daNil, daLend, dats, one, two, oneO, dIxO, dOwn1, dOwn2, fIx, fLen, dBl, dTru, dNot, dAnd, dOr, dAndV, dOrV, dNotV, dChain, dFr, dTup, dLst, dApp, dPopAt, dFor, diRng1, diRng2, diAny, gN, items, itemsD, oAdd, oSub, oMul, oDiv, oMod, oPow, oNeg, oCmp, oLt, oLe, oGt, oGe, oEq, oNe, oIn, oIsN, oNotN, isN, oIx, oLen, lenD, oInt, oAbs, oInts, oBool, oTuple, oAll, oAny, oSum, oSumA, oSl, dSl, pNo, pSo, oSorted, oList, oJoin, dMt1, dCall, dCallO, dCallT, argsOf, lent, opt, truth, MO.toD, Rv.toD, putOuts, putMO, List.getElem?_cons_zero, List.getElem?_cons_succ, List.set_cons_zero, List.set_cons_succ, Option.map_some, dIsi, dNo, at0, at1, at2, ix30, ix31, ix32, dComp, dYes, wipeD, back, dMake, dMeth, dLenSetS, oInD, dDict0, dDPut, dGet, dPar3DDO, dProp, dFld, dFldO, dFldSet, dSortSet, daKw, decide_eq_true_eq, shI, shS, shB, shN, eqI, eqS, true_and, List.contains_nil, beq_iff_eq, ↓reduceIte, Bool.false_eq_true]
          exact fin8 j S M _ _ pS pM
      refine ifv_step fun kb kt kf => ?_
      have hT : ∀ j, kb true [.own true p (jr j), .dat (.str L), .dat (.int m), .dat (.str S), .dat (.int lo), .dat (.int r), .own false q (.lst (stL N)), s7, s8, s9] := fun j => by
        refine kt _ ?_
        simp only [entry, lend, jr, List.map_cons, List.map_nil, List.length_cons, List.length_nil, List.replicate_succ, List.replicate_zero, List.cons_append, List.nil_append, List.append_nil, Nat.reduceAdd, Nat.reduceSub, Nat.reduceMul, Nat.zero_add, dNext, dSet, dSetO, dPut, dPar, dPar3, dParOD, dParOO, dParDO, dRet, dRetO, dRetN, dDrop, dBin, dUn, dC, dVar, dCB, dCBO, daCons, daNil, daLend, dats, one, two, oneO, dIxO, dOwn1, dOwn2, fIx, fLen, dBl, dTru, dNot, dAnd, dOr, dAndV, dOrV, dNotV, dChain, dFr, dTup, dLst, dApp, dPopAt, dFor, diRng1, diRng2, diAny, gN, items, itemsD, oAdd, oSub, oMul, oDiv, oMod, oPow, oNeg, oCmp, oLt, oLe, oGt, oGe, oEq, oNe, oIn, oIsN, oNotN, isN, oIx, oLen, lenD, oInt, oAbs, oInts, oBool, oTuple, oAll, oAny, oSum, oSumA, oSl, dSl, pNo, pSo, oSorted, oList, oJoin, dMt1, dCall, dCallO, dCallT, argsOf, lent, opt, truth, MO.toD, Rv.toD, putOuts, putMO, List.getElem?_cons_zero, List.getElem?_cons_succ, List.set_cons_zero, List.set_cons_succ, Option.map_some, dIsi, dNo, at0, at1, at2, ix30, ix31, ix32, dComp, dYes, wipeD, back, dMake, dMeth, dLenSetS, oInD, dDict0, dDPut, dGet, dPar3DDO, dProp, dFld, dFldO, dFldSet, dSortSet, daKw, decide_eq_true_eq, shI, shS, shB, shN, eqI, eqS, true_and, List.contains_nil, beq_iff_eq, ↓reduceIte, Bool.false_eq_true]
        exact use_shuffled (j := j) h1 fun M j' pM => fin7 j' M pM
      have hF : ∀ j, kb false [.own true p (jr j), .dat (.str L), .dat (.int m), .dat (.str S), .dat (.int lo), .dat (.int r), .own false q (.lst (stL N)), s7, s8, s9] := fun j => by
        refine kf _ ?_
        simp only [entry, lend, jr, List.map_cons, List.map_nil, List.length_cons, List.length_nil, List.replicate_succ, List.replicate_zero, List.cons_append, List.nil_append, List.append_nil, Nat.reduceAdd, Nat.reduceSub, Nat.reduceMul, Nat.zero_add, dNext, dSet, dSetO, dPut, dPar, dPar3, dParOD, dParOO, dParDO, dRet, dRetO, dRetN, dDrop, dBin, dUn, dC, dVar, dCB, dCBO, daCons, daNil, daLend, dats, one, two, oneO, dIxO, dOwn1, dOwn2, fIx, fLen, dBl, dTru, dNot, dAnd, dOr, dAndV, dOrV, dNotV, dChain, dFr, dTup, dLst, dApp, dPopAt, dFor, diRng1, diRng2, diAny, gN, items, itemsD, oAdd, oSub, oMul, oDiv, oMod, oPow, oNeg, oCmp, oLt, oLe, oGt, oGe, oEq, oNe, oIn, oIsN, oNotN, isN, oIx, oLen, lenD, oInt, oAbs, oInts, oBool, oTuple, oAll, oAny, oSum, oSumA, oSl, dSl, pNo, pSo, oSorted, oList, oJoin, dMt1, dCall, dCallO, dCallT, argsOf, lent, opt, truth, MO.toD, Rv.toD, putOuts, putMO, List.getElem?_cons_zero, List.getElem?_cons_succ, List.set_cons_zero, List.set_cons_succ, Option.map_some, dIsi, dNo, at0, at1, at2, ix30, ix31, ix32, dComp, dYes, wipeD, back, dMake, dMeth, dLenSetS, oInD, dDict0, dDPut, dGet, dPar3DDO, dProp, dFld, dFldO, dFldSet, dSortSet, daKw, decide_eq_true_eq, shI, shS, shB, shN, eqI, eqS, true_and, List.contains_nil, beq_iff_eq, ↓reduceIte, Bool.false_eq_true]
        exact use_hill (j := j) (by omega) (by omega) fun M j' pM _ => fin7 j' M (pM.trans pS)
      simp only [entry, lend, jr, List.map_cons, List.map_nil, List.length_cons, List.length_nil, List.replicate_succ, List.replicate_zero, List.cons_append, List.nil_append, List.append_nil, Nat.reduceAdd, Nat.reduceSub, Nat.reduceMul, Nat.zero_add, dNext, dSet, dSetO, dPut, dPar, dPar3, dParOD, dParOO, dParDO, dRet, dRetO, dRetN, dDrop, dBin, dUn, dC, dVar, dCB, dCBO, daCons, daNil, daLend, dats, one, two, oneO, dIxO, dOwn1, dOwn2, fIx, fLen, dBl, dTru, dNot, dAnd, dOr, dAndV, dOrV, dNotV, dChain, dFr, dTup, dLst, dApp, dPopAt, dFor, diRng1, diRng2, diAny, gN, items, itemsD, oAdd, oSub, oMul, oDiv, oMod, oPow, oNeg, oCmp, oLt, oLe, oGt, oGe, oEq, oNe, oIn, oIsN, oNotN, isN, oIx, oLen, lenD, oInt, oAbs, oInts, oBool, oTuple, oAll, oAny, oSum, oSumA, oSl, dSl, pNo, pSo, oSorted, oList, oJoin, dMt1, dCall, dCallO, dCallT, argsOf, lent, opt, truth, MO.toD, Rv.toD, putOuts, putMO, List.getElem?_cons_zero, List.getElem?_cons_succ, List.set_cons_zero, List.set_cons_succ, Option.map_some, dIsi, dNo, at0, at1, at2, ix30, ix31, ix32, dComp, dYes, wipeD, back, dMake, dMeth, dLenSetS, oInD, dDict0, dDPut, dGet, dPar3DDO, dProp, dFld, dFldO, dFldSet, dSortSet, daKw, decide_eq_true_eq, shI, shS, shB, shN, eqI, eqS, true_and, List.contains_nil, beq_iff_eq, ↓reduceIte, Bool.false_eq_true]
      split
      · exact hT j
      · refine use_dip (by omega) (by omega) fun c j' c0 c1 => ?_
        simp only [entry, lend, jr, List.map_cons, List.map_nil, List.length_cons, List.length_nil, List.replicate_succ, List.replicate_zero, List.cons_append, List.nil_append, List.append_nil, Nat.reduceAdd, Nat.reduceSub, Nat.reduceMul, Nat.zero_add, dNext, dSet, dSetO, dPut, dPar, dPar3, dParOD, dParOO, dParDO, dRet, dRetO, dRetN, dDrop, dBin, dUn, dC, dVar, dCB, dCBO, daCons, daNil, daLend, dats, one, two, oneO, dIxO, dOwn1, dOwn2, fIx, fLen, dBl, dTru, dNot, dAnd, dOr, dAndV, dOrV, dNotV, dChain, dFr, dTup, dLst, dApp, dPopAt, dFor, diRng1, diRng2, diAny, gN, items, itemsD, oAdd, oSub, oMul, oDiv, oMod, oPow, oNeg, oCmp, oLt, oLe, oGt, oGe, oEq, oNe, oIn, oIsN, oNotN, isN, oIx, oLen, lenD, oInt, oAbs, oInts, oBool, oTuple, oAll, oAny, oSum, oSumA, oSl, dSl, pNo, pSo, oSorted, oList, oJoin, dMt1, dCall, dCallO, dCallT, argsOf, lent, opt, truth, MO.toD, Rv.toD, putOuts, putMO, List.getElem?_cons_zero, List.getElem?_cons_succ, List.set_cons_zero, List.set_cons_succ, Option.map_some, dIsi, dNo, at0, at1, at2, ix30, ix31, ix32, dComp, dYes, wipeD, back, dMake, dMeth, dLenSetS, oInD, dDict0, dDPut, dGet, dPar3DDO, dProp, dFld, dFldO, dFldSet, dSortSet, daKw, decide_eq_true_eq, shI, shS, shB, shN, eqI, eqS, true_and, List.contains_nil, beq_iff_eq, ↓reduceIte, Bool.false_eq_true]
        exact beq_case (fun _ => hT j') (fun _ => hF j')
  · simp
  · simp; omega
  · simp; omega
  · intro l hl; cases hl

theorem let_of {c : Nat} (h : small c = true) : c ∈ LET := by
  unfold small at h
  rw [Bool.and_eq_true, decide_eq_true_eq, decide_eq_true_eq] at h
  have : ∀ c < 123, 97 ≤ c → c ∈ LET := by decide
  exact this c (by omega) h.1
theorem chk_true {L : List Nat} (nd : L.Nodup) (sm : ∀ c ∈ L, small c = true) : chk L = true := by
  unfold chk
  rw [List.all_eq_true]
  intro i hi
  have hi : i < L.length := by simpa using hi
  unfold okAt
  rw [List.getElem?_eq_getElem hi]
  have h1 := let_of (sm L[i] (List.getElem_mem hi))
  have h2 : L[i] ∉ L.take i := fun m => by
    have e : L = L.take i ++ L[i] :: L.drop (i + 1) := by rw [← List.drop_eq_getElem_cons hi, List.take_append_drop]
    rw [e] at nd
    exact (List.nodup_append.mp nd).2.2 _ m _ List.mem_cons_self rfl
  simp [h1, h2]
theorem isB_str (L : List Nat) (Cs : List Addr) : isB .str Cs (.str L) = some true := rfl
theorem isB_tup (L : List Dt) (Cs : List Addr) : isB .tup Cs (.tup L) = some true := rfl
theorem map_range (n : Nat) (f : Dt → Dt) : ((rangeD 0 n).filter fun _ => true).map f = (List.range n).map fun i : Nat => f (.int (i : Int)) := by
  unfold rangeD
  rw [List.filter_eq_self.mpr (fun _ _ => rfl), List.map_map]
  refine List.map_congr_left fun i _ => ?_
  simp
theorem math_are_letters (K : PySem.W.Frag) : ∀ args Q U, sp_are_letters K args Q U → m_are_letters K (ends args Q U) (entry (List.length N_are_letters) args) := by
  rintro args Q U ⟨⟨x, lo, hi⟩, rfl, hx, hQ⟩
  have hx : noIns x := hx
  have fin : Q (.d (.bl (areL x lo hi))) [] := hQ () trivial
  unfold m_are_letters
  refine seq_step fun k1 hk1 => if_step fun kb kt kf => ?_
  have no : areL x lo hi = false → kb true [.dat x, .dat (.int lo), .dat (.int hi), .no] := fun e => by
    refine kt _ ?_
    simp only [entry, lend, jr, List.map_cons, List.map_nil, List.length_cons, List.length_nil, List.replicate_succ, List.replicate_zero, List.cons_append, List.nil_append, List.append_nil, Nat.reduceAdd, Nat.reduceSub, Nat.reduceMul, Nat.zero_add, dSeq, dNext, dSet, dSetO, dPut, dPar, dPar3, dParOD, dParOO, dParDO, dIfS, dRet, dRetO, dRetN, dDrop, dBin, dUn, dC, dVar, dCB, dCBO, daCons, daNil, daLend, dats, one, two, oneO, dIxO, dOwn1, dOwn2, fIx, fLen, dBl, dTru, dNot, dAnd, dOr, dIf, dAndV, dOrV, dNotV, dChain, dFr, dTup, dLst, dApp, dPopAt, dFor, diRng1, diRng2, diAny, gN, items, itemsD, oAdd, oSub, oMul, oDiv, oMod, oPow, oNeg, oCmp, oLt, oLe, oGt, oGe, oEq, oNe, oIn, oIsN, oNotN, isN, oIx, oLen, lenD, oInt, oAbs, oInts, oBool, oTuple, oAll, oAny, oSum, oSumA, oSl, dSl, pNo, pSo, oSorted, oList, oJoin, dMt1, dCall, dCallO, dCallT, argsOf, lent, opt, truth, MO.toD, Rv.toD, putOuts, putMO, List.getElem?_cons_zero, List.getElem?_cons_succ, List.set_cons_zero, List.set_cons_succ, Option.map_some, dIsi, dNo, at0, at1, at2, ix30, ix31, ix32, ends, outW, dComp, dYes, wipeD, back, dMake, dMeth, dLenSetS, oInD, dDict0, dDPut, dGet, dPar3DDO, dProp, dFld, dFldO, dFldSet, dSortSet, daKw, decide_eq_true_eq, shI, shS, shB, shN, eqI, eqS, true_and, List.contains_nil, beq_iff_eq, ↓reduceIte, Bool.false_eq_true]
    rw [e] at fin
    exact fin
  have nos : isB .str [] x = some false → areL x lo hi = false → dOr (dNot (dBl (dIsi (isB .str []) (dVar 0)))) (dNot (dBl (dChain oLe oLe (dVar 1) (dCB (one oLen) (daCons (dVar 0) daNil)) (dVar 2)))) [.dat x, .dat (.int lo), .dat (.int hi), .no] kb
      ({ nx := k1, rt := (ends [Sl.dat x, Sl.dat (Dt.int lo), Sl.dat (Dt.int hi)] Q U).rt, bk := (ends [Sl.dat x, Sl.dat (Dt.int lo), Sl.dat (Dt.int hi)] Q U).bk, ct := (ends [Sl.dat x, Sl.dat (Dt.int lo), Sl.dat (Dt.int hi)] Q U).ct, ex := (ends [Sl.dat x, Sl.dat (Dt.int lo), Sl.dat (Dt.int hi)] Q U).ex } : DEn).ex := fun e1 e2 => by
    simp only [e1, entry, lend, jr, List.map_cons, List.map_nil, List.length_cons, List.length_nil, List.replicate_succ, List.replicate_zero, List.cons_append, List.nil_append, List.append_nil, Nat.reduceAdd, Nat.reduceSub, Nat.reduceMul, Nat.zero_add, dNext, dSet, dSetO, dPut, dPar, dPar3, dParOD, dParOO, dParDO, dRet, dRetO, dRetN, dDrop, dBin, dUn, dC, dVar, dCB, dCBO, daCons, daNil, daLend, dats, one, two, oneO, dIxO, dOwn1, dOwn2, fIx, fLen, dBl, dTru, dNot, dAnd, dOr, dAndV, dOrV, dNotV, dChain, dFr, dTup, dLst, dApp, dPopAt, dFor, diRng1, diRng2, diAny, gN, items, itemsD, oAdd, oSub, oMul, oDiv, oMod, oPow, oNeg, oCmp, oLt, oLe, oGt, oGe, oEq, oNe, oIn, oIsN, oNotN, isN, oIx, oLen, lenD, oInt, oAbs, oInts, oBool, oTuple, oAll, oAny, oSum, oSumA, oSl, dSl, pNo, pSo, oSorted, oList, oJoin, dMt1, dCall, dCallO, dCallT, argsOf, lent, opt, truth, MO.toD, Rv.toD, putOuts, putMO, List.getElem?_cons_zero, List.getElem?_cons_succ, List.set_cons_zero, List.set_cons_succ, Option.map_some, dIsi, dNo, at0, at1, at2, ix30, ix31, ix32, dComp, dYes, wipeD, back, dMake, dMeth, dLenSetS, oInD, dDict0, dDPut, dGet, dPar3DDO, dProp, dFld, dFldO, dFldSet, dSortSet, daKw, decide_eq_true_eq, shI, shS, shB, shN, eqI, eqS, true_and, List.contains_nil, beq_iff_eq, ↓reduceIte, Bool.false_eq_true]
    exact no e2
  cases x with
  | str L =>
    have hL : L.length ≤ 100000 := hx
    have yes : lo ≤ L.length → (L.length : Int) ≤ hi → kb false [.dat (.str L), .dat (.int lo), .dat (.int hi), .no] := fun c1 c2 => by
      have ea : areL (.str L) lo hi = chk L := by
        show (decide (lo ≤ L.length) && decide ((L.length : Int) ≤ hi) && chk L) = chk L
        rw [decide_eq_true c1, decide_eq_true c2]
        rfl
      refine kf _ (hk1 _ ?_)
      simp only [entry, lend, jr, List.map_cons, List.map_nil, List.length_cons, List.length_nil, List.replicate_succ, List.replicate_zero, List.cons_append, List.nil_append, List.append_nil, Nat.reduceAdd, Nat.reduceSub, Nat.reduceMul, Nat.zero_add, dSeq, dNext, dSet, dSetO, dPut, dPar, dPar3, dParOD, dParOO, dParDO, dIfS, dRet, dRetO, dRetN, dDrop, dBin, dUn, dC, dVar, dCB, dCBO, daCons, daNil, daLend, dats, one, two, oneO, dIxO, dOwn1, dOwn2, fIx, fLen, dBl, dTru, dNot, dAnd, dOr, dIf, dAndV, dOrV, dNotV, dChain, dFr, dTup, dLst, dApp, dPopAt, dFor, diRng1, diRng2, diAny, gN, items, itemsD, oAdd, oSub, oMul, oDiv, oMod, oPow, oNeg, oCmp, oLt, oLe, oGt, oGe, oEq, oNe, oIn, oIsN, oNotN, isN, oIx, oLen, lenD, oInt, oAbs, oInts, oBool, oTuple, oAll, oAny, oSum, oSumA, oSl, dSl, pNo, pSo, oSorted, oList, oJoin, dMt1, dCall, dCallO, dCallT, argsOf, lent, opt, truth, MO.toD, Rv.toD, putOuts, putMO, List.getElem?_cons_zero, List.getElem?_cons_succ, List.set_cons_zero, List.set_cons_succ, Option.map_some, dIsi, dNo, at0, at1, at2, ix30, ix31, ix32, ends, outW, dComp, dYes, wipeD, back, dMake, dMeth, dLenSetS, oInD, dDict0, dDPut, dGet, dPar3DDO, dProp, dFld, dFldO, dFldSet, dSortSet, daKw, decide_eq_true_eq, shI, shS, shB, shN, eqI, eqS, true_and, List.contains_nil, beq_iff_eq, ↓reduceIte, Bool.false_eq_true]
      refine ⟨by omega, by omega, by unfold rangeD; simp; exact (show Fits _ from by unfold Fits; omega).line, ?_⟩
      refine comp_pure (fun _ => true) (fun d => match d with | .int i => .bl (okAt L i.toNat) | _ => .non) _ _ ?_ ?_
      · intro d hd k2 k3 h
        unfold rangeD at hd
        obtain ⟨i, hil, rfl⟩ := List.mem_map.mp hd
        have hil : i < L.length := by simpa using hil
        have at_ : L2.atI L ((0 : Int) + (i : Int)) = some L[i] := by rw [Int.zero_add, atN, List.getElem?_eq_getElem hil]
        have at2 : okAt L i = (decide (L[i] ∈ LET) && !decide (L[i] ∈ L.take i)) := by
          unfold okAt
          rw [List.getElem?_eq_getElem hil]
        have h' : k2 (.bl (okAt L i)) [.dat (.str L), .dat (.int lo), .dat (.int hi), .no] := by simpa using h
        rw [at2] at h'
        have cp : cutD L none (some ((0 : Int) + (i : Int))) = L.take i := by rw [Int.zero_add, cut_pre]
        by_cases m : L[i] ∈ LET
        · have e1 : decide (L[i] ∈ LET) = true := decide_eq_true m
          rw [e1] at h'
          unfold LET at e1
          simp only [at_, e1, cp, Bool.false_xor, Bool.true_xor, entry, lend, jr, List.map_cons, List.map_nil, List.length_cons, List.length_nil, List.replicate_succ, List.replicate_zero, List.cons_append, List.nil_append, List.append_nil, Nat.reduceAdd, Nat.reduceSub, Nat.reduceMul, Nat.zero_add, dSeq, dNext, dSet, dSetO, dPut, dPar, dPar3, dParOD, dParOO, dParDO, dIfS, dRet, dRetO, dRetN, dDrop, dBin, dUn, dC, dVar, dCB, dCBO, daCons, daNil, daLend, dats, one, two, oneO, dIxO, dOwn1, dOwn2, fIx, fLen, dBl, dTru, dNot, dAnd, dOr, dIf, dAndV, dOrV, dNotV, dChain, dFr, dTup, dLst, dApp, dPopAt, dFor, diRng1, diRng2, diAny, gN, items, itemsD, oAdd, oSub, oMul, oDiv, oMod, oPow, oNeg, oCmp, oLt, oLe, oGt, oGe, oEq, oNe, oIn, oIsN, oNotN, isN, oIx, oLen, lenD, oInt, oAbs, oInts, oBool, oTuple, oAll, oAny, oSum, oSumA, oSl, dSl, pNo, pSo, oSorted, oList, oJoin, dMt1, dCall, dCallO, dCallT, argsOf, lent, opt, truth, MO.toD, Rv.toD, putOuts, putMO, List.getElem?_cons_zero, List.getElem?_cons_succ, List.set_cons_zero, List.set_cons_succ, Option.map_some, dIsi, dNo, at0, at1, at2, ix30, ix31, ix32, ends, outW, dComp, dYes, wipeD, back, dMake, dMeth, dLenSetS, oInD, dDict0, dDPut, dGet, dPar3DDO, dProp, dFld, dFldO, dFldSet, dSortSet, daKw, decide_eq_true_eq, shI, shS, shB, shN, eqI, eqS, true_and, List.contains_nil, beq_iff_eq, ↓reduceIte, Bool.false_eq_true]
          exact h'
        · have e1 : decide (L[i] ∈ LET) = false := decide_eq_false m
          rw [e1] at h'
          unfold LET at e1
          simp only [at_, e1, cp, Bool.false_xor, Bool.true_xor, entry, lend, jr, List.map_cons, List.map_nil, List.length_cons, List.length_nil, List.replicate_succ, List.replicate_zero, List.cons_append, List.nil_append, List.append_nil, Nat.reduceAdd, Nat.reduceSub, Nat.reduceMul, Nat.zero_add, dSeq, dNext, dSet, dSetO, dPut, dPar, dPar3, dParOD, dParOO, dParDO, dIfS, dRet, dRetO, dRetN, dDrop, dBin, dUn, dC, dVar, dCB, dCBO, daCons, daNil, daLend, dats, one, two, oneO, dIxO, dOwn1, dOwn2, fIx, fLen, dBl, dTru, dNot, dAnd, dOr, dIf, dAndV, dOrV, dNotV, dChain, dFr, dTup, dLst, dApp, dPopAt, dFor, diRng1, diRng2, diAny, gN, items, itemsD, oAdd, oSub, oMul, oDiv, oMod, oPow, oNeg, oCmp, oLt, oLe, oGt, oGe, oEq, oNe, oIn, oIsN, oNotN, isN, oIx, oLen, lenD, oInt, oAbs, oInts, oBool, oTuple, oAll, oAny, oSum, oSumA, oSl, dSl, pNo, pSo, oSorted, oList, oJoin, dMt1, dCall, dCallO, dCallT, argsOf, lent, opt, truth, MO.toD, Rv.toD, putOuts, putMO, List.getElem?_cons_zero, List.getElem?_cons_succ, List.set_cons_zero, List.set_cons_succ, Option.map_some, dIsi, dNo, at0, at1, at2, ix30, ix31, ix32, ends, outW, dComp, dYes, wipeD, back, dMake, dMeth, dLenSetS, oInD, dDict0, dDPut, dGet, dPar3DDO, dProp, dFld, dFldO, dFldSet, dSortSet, daKw, decide_eq_true_eq, shI, shS, shB, shN, eqI, eqS, true_and, List.contains_nil, beq_iff_eq, ↓reduceIte, Bool.false_eq_true]
          exact h'
      · rw [List.nil_append, map_range]
        have e : (List.range L.length).map (fun i : Nat => (match (Dt.int (i : Int)) with | .int i => Dt.bl (okAt L i.toNat) | _ => .non)) = ((List.range L.length).map (okAt L)).map Dt.bl := by
          rw [List.map_map]
          refine List.map_congr_left fun i _ => ?_
          simp
        have e2 : ((L.length : Int)).toNat = L.length := by omega
        rw [e2, e]
        simp only [entry, lend, jr, List.map_cons, List.map_nil, List.length_cons, List.length_nil, List.replicate_succ, List.replicate_zero, List.cons_append, List.nil_append, List.append_nil, Nat.reduceAdd, Nat.reduceSub, Nat.reduceMul, Nat.zero_add, dSeq, dNext, dSet, dSetO, dPut, dPar, dPar3, dParOD, dParOO, dParDO, dIfS, dRet, dRetO, dRetN, dDrop, dBin, dUn, dC, dVar, dCB, dCBO, daCons, daNil, daLend, dats, one, two, oneO, dIxO, dOwn1, dOwn2, fIx, fLen, dBl, dTru, dNot, dAnd, dOr, dIf, dAndV, dOrV, dNotV, dChain, dFr, dTup, dLst, dApp, dPopAt, dFor, diRng1, diRng2, diAny, gN, items, itemsD, oAdd, oSub, oMul, oDiv, oMod, oPow, oNeg, oCmp, oLt, oLe, oGt, oGe, oEq, oNe, oIn, oIsN, oNotN, isN, oIx, oLen, lenD, oInt, oAbs, oInts, oBool, oTuple, oAll, oAny, oSum, oSumA, oSl, dSl, pNo, pSo, oSorted, oList, oJoin, dMt1, dCall, dCallO, dCallT, argsOf, lent, opt, truth, MO.toD, Rv.toD, putOuts, putMO, List.getElem?_cons_zero, List.getElem?_cons_succ, List.set_cons_zero, List.set_cons_succ, Option.map_some, dIsi, dNo, at0, at1, at2, ix30, ix31, ix32, ends, outW, dComp, dYes, wipeD, back, dMake, dMeth, dLenSetS, oInD, dDict0, dDPut, dGet, dPar3DDO, dProp, dFld, dFldO, dFldSet, dSortSet, daKw, decide_eq_true_eq, shI, shS, shB, shN, eqI, eqS, true_and, List.contains_nil, beq_iff_eq, ↓reduceIte, Bool.false_eq_true]
        rw [bls_map]
        simp only [entry, lend, jr, List.map_cons, List.map_nil, List.length_cons, List.length_nil, List.replicate_succ, List.replicate_zero, List.cons_append, List.nil_append, List.append_nil, Nat.reduceAdd, Nat.reduceSub, Nat.reduceMul, Nat.zero_add, dSeq, dNext, dSet, dSetO, dPut, dPar, dPar3, dParOD, dParOO, dParDO, dIfS, dRet, dRetO, dRetN, dDrop, dBin, dUn, dC, dVar, dCB, dCBO, daCons, daNil, daLend, dats, one, two, oneO, dIxO, dOwn1, dOwn2, fIx, fLen, dBl, dTru, dNot, dAnd, dOr, dIf, dAndV, dOrV, dNotV, dChain, dFr, dTup, dLst, dApp, dPopAt, dFor, diRng1, diRng2, diAny, gN, items, itemsD, oAdd, oSub, oMul, oDiv, oMod, oPow, oNeg, oCmp, oLt, oLe, oGt, oGe, oEq, oNe, oIn, oIsN, oNotN, isN, oIx, oLen, lenD, oInt, oAbs, oInts, oBool, oTuple, oAll, oAny, oSum, oSumA, oSl, dSl, pNo, pSo, oSorted, oList, oJoin, dMt1, dCall, dCallO, dCallT, argsOf, lent, opt, truth, MO.toD, Rv.toD, putOuts, putMO, List.getElem?_cons_zero, List.getElem?_cons_succ, List.set_cons_zero, List.set_cons_succ, Option.map_some, dIsi, dNo, at0, at1, at2, ix30, ix31, ix32, ends, outW, dComp, dYes, wipeD, back, dMake, dMeth, dLenSetS, oInD, dDict0, dDPut, dGet, dPar3DDO, dProp, dFld, dFldO, dFldSet, dSortSet, daKw, decide_eq_true_eq, shI, shS, shB, shN, eqI, eqS, true_and, List.contains_nil, beq_iff_eq, ↓reduceIte, Bool.false_eq_true]
        rw [ea] at fin
        have e3 : ((List.range L.length).map (okAt L)).all id = chk L := by
          unfold chk
          rw [List.all_map]
          rfl
        rw [e3]
        exact fin
    have nope : ¬ (lo ≤ L.length ∧ (L.length : Int) ≤ hi) → areL (.str L) lo hi = false := fun n => by
      show (decide (lo ≤ L.length) && decide ((L.length : Int) ≤ hi) && chk L) = false
      by_cases c1 : lo ≤ L.length
      · rw [decide_eq_false fun c2 => n ⟨c1, c2⟩, Bool.and_false, Bool.false_and]
      · rw [decide_eq_false c1, Bool.false_and, Bool.false_and]
    by_cases c1 : lo ≤ L.length
    · by_cases c2 : (L.length : Int) ≤ hi
      · simp only [isB_str, decide_eq_true c1, decide_eq_true c2, Bool.not_true, Bool.false_eq_true, if_false, entry, lend, jr, List.map_cons, List.map_nil, List.length_cons, List.length_nil, List.replicate_succ, List.replicate_zero, List.cons_append, List.nil_append, List.append_nil, Nat.reduceAdd, Nat.reduceSub, Nat.reduceMul, Nat.zero_add, dNext, dSet, dSetO, dPut, dPar, dPar3, dParOD, dParOO, dParDO, dRet, dRetO, dRetN, dDrop, dBin, dUn, dC, dVar, dCB, dCBO, daCons, daNil, daLend, dats, one, two, oneO, dIxO, dOwn1, dOwn2, fIx, fLen, dBl, dTru, dNot, dAnd, dOr, dAndV, dOrV, dNotV, dChain, dFr, dTup, dLst, dApp, dPopAt, dFor, diRng1, diRng2, diAny, gN, items, itemsD, oAdd, oSub, oMul, oDiv, oMod, oPow, oNeg, oCmp, oLt, oLe, oGt, oGe, oEq, oNe, oIn, oIsN, oNotN, isN, oIx, oLen, lenD, oInt, oAbs, oInts, oBool, oTuple, oAll, oAny, oSum, oSumA, oSl, dSl, pNo, pSo, oSorted, oList, oJoin, dMt1, dCall, dCallO, dCallT, argsOf, lent, opt, truth, MO.toD, Rv.toD, putOuts, putMO, List.getElem?_cons_zero, List.getElem?_cons_succ, List.set_cons_zero, List.set_cons_succ, Option.map_some, dIsi, dNo, at0, at1, at2, ix30, ix31, ix32, dComp, dYes, wipeD, back, dMake, dMeth, dLenSetS, oInD, dDict0, dDPut, dGet, dPar3DDO, dProp, dFld, dFldO, dFldSet, dSortSet, daKw, decide_eq_true_eq, shI, shS, shB, shN, eqI, eqS, true_and, List.contains_nil, beq_iff_eq, ↓reduceIte, Bool.false_eq_true]
        exact yes c1 c2
      · simp only [isB_str, decide_eq_true c1, decide_eq_false c2, Bool.not_true, Bool.not_false, Bool.false_eq_true, if_false, entry, lend, jr, List.map_cons, List.map_nil, List.length_cons, List.length_nil, List.replicate_succ, List.replicate_zero, List.cons_append, List.nil_append, List.append_nil, Nat.reduceAdd, Nat.reduceSub, Nat.reduceMul, Nat.zero_add, dNext, dSet, dSetO, dPut, dPar, dPar3, dParOD, dParOO, dParDO, dRet, dRetO, dRetN, dDrop, dBin, dUn, dC, dVar, dCB, dCBO, daCons, daNil, daLend, dats, one, two, oneO, dIxO, dOwn1, dOwn2, fIx, fLen, dBl, dTru, dNot, dAnd, dOr, dAndV, dOrV, dNotV, dChain, dFr, dTup, dLst, dApp, dPopAt, dFor, diRng1, diRng2, diAny, gN, items, itemsD, oAdd, oSub, oMul, oDiv, oMod, oPow, oNeg, oCmp, oLt, oLe, oGt, oGe, oEq, oNe, oIn, oIsN, oNotN, isN, oIx, oLen, lenD, oInt, oAbs, oInts, oBool, oTuple, oAll, oAny, oSum, oSumA, oSl, dSl, pNo, pSo, oSorted, oList, oJoin, dMt1, dCall, dCallO, dCallT, argsOf, lent, opt, truth, MO.toD, Rv.toD, putOuts, putMO, List.getElem?_cons_zero, List.getElem?_cons_succ, List.set_cons_zero, List.set_cons_succ, Option.map_some, dIsi, dNo, at0, at1, at2, ix30, ix31, ix32, dComp, dYes, wipeD, back, dMake, dMeth, dLenSetS, oInD, dDict0, dDPut, dGet, dPar3DDO, dProp, dFld, dFldO, dFldSet, dSortSet, daKw, decide_eq_true_eq, shI, shS, shB, shN, eqI, eqS, true_and, List.contains_nil, beq_iff_eq, ↓reduceIte, Bool.false_eq_true]
        exact no (nope fun ⟨_, z⟩ => c2 z)
    · simp only [isB_str, decide_eq_false c1, Bool.not_true, Bool.not_false, Bool.false_eq_true, if_false, entry, lend, jr, List.map_cons, List.map_nil, List.length_cons, List.length_nil, List.replicate_succ, List.replicate_zero, List.cons_append, List.nil_append, List.append_nil, Nat.reduceAdd, Nat.reduceSub, Nat.reduceMul, Nat.zero_add, dNext, dSet, dSetO, dPut, dPar, dPar3, dParOD, dParOO, dParDO, dRet, dRetO, dRetN, dDrop, dBin, dUn, dC, dVar, dCB, dCBO, daCons, daNil, daLend, dats, one, two, oneO, dIxO, dOwn1, dOwn2, fIx, fLen, dBl, dTru, dNot, dAnd, dOr, dAndV, dOrV, dNotV, dChain, dFr, dTup, dLst, dApp, dPopAt, dFor, diRng1, diRng2, diAny, gN, items, itemsD, oAdd, oSub, oMul, oDiv, oMod, oPow, oNeg, oCmp, oLt, oLe, oGt, oGe, oEq, oNe, oIn, oIsN, oNotN, isN, oIx, oLen, lenD, oInt, oAbs, oInts, oBool, oTuple, oAll, oAny, oSum, oSumA, oSl, dSl, pNo, pSo, oSorted, oList, oJoin, dMt1, dCall, dCallO, dCallT, argsOf, lent, opt, truth, MO.toD, Rv.toD, putOuts, putMO, List.getElem?_cons_zero, List.getElem?_cons_succ, List.set_cons_zero, List.set_cons_succ, Option.map_some, dIsi, dNo, at0, at1, at2, ix30, ix31, ix32, dComp, dYes, wipeD, back, dMake, dMeth, dLenSetS, oInD, dDict0, dDPut, dGet, dPar3DDO, dProp, dFld, dFldO, dFldSet, dSortSet, daKw, decide_eq_true_eq, shI, shS, shB, shN, eqI, eqS, true_and, List.contains_nil, beq_iff_eq, ↓reduceIte, Bool.false_eq_true]
      exact no (nope fun ⟨z, _⟩ => c1 z)
  | non => exact nos rfl rfl
  | bl _ => exact nos rfl rfl
  | int _ => exact nos rfl rfl
  | tup _ => exact nos rfl rfl
  | lst _ => exact nos rfl rfl
  | scr _ => exact nos rfl rfl
  | dct _ => exact nos rfl rfl
  | ins _ _ => exact hx.elim
theorem use_F {α : Type} {A : α → List Sl} {C : α → Prop} {R : α → Dt} {Q : Rv → List MO → Prop} {U : Xn → List MO → Prop} (x : α) (c : C x) (h : Q (.d (R x)) []) : SpF A C R (A x) Q U := ⟨x, rfl, c, fun _ _ => h⟩
theorem math_is_order (K : PySem.W.Frag) : ∀ args Q U, sp_is_order K args Q U → m_is_order K (ends args Q U) (entry (List.length N_is_order) args) := by
  rintro args Q U ⟨x, rfl, hx, hQ⟩
  simp only [m_is_order, entry, lend, jr, List.map_cons, List.map_nil, List.length_cons, List.length_nil, List.replicate_succ, List.replicate_zero, List.cons_append, List.nil_append, List.append_nil, Nat.reduceAdd, Nat.reduceSub, Nat.reduceMul, Nat.zero_add, dSeq, dNext, dSet, dSetO, dPut, dPar, dPar3, dParOD, dParOO, dParDO, dIfS, dRet, dRetO, dRetN, dDrop, dBin, dUn, dC, dVar, dCB, dCBO, daCons, daNil, daLend, dats, one, two, oneO, dIxO, dOwn1, dOwn2, fIx, fLen, dBl, dTru, dNot, dAnd, dOr, dIf, dAndV, dOrV, dNotV, dChain, dFr, dTup, dLst, dApp, dPopAt, dFor, diRng1, diRng2, diAny, gN, items, itemsD, oAdd, oSub, oMul, oDiv, oMod, oPow, oNeg, oCmp, oLt, oLe, oGt, oGe, oEq, oNe, oIn, oIsN, oNotN, isN, oIx, oLen, lenD, oInt, oAbs, oInts, oBool, oTuple, oAll, oAny, oSum, oSumA, oSl, dSl, pNo, pSo, oSorted, oList, oJoin, dMt1, dCall, dCallO, dCallT, argsOf, lent, opt, truth, MO.toD, Rv.toD, putOuts, putMO, List.getElem?_cons_zero, List.getElem?_cons_succ, List.set_cons_zero, List.set_cons_succ, Option.map_some, dIsi, dNo, at0, at1, at2, ix30, ix31, ix32, ends, outW, dComp, dYes, wipeD, back, dMake, dMeth, dLenSetS, oInD, dDict0, dDPut, dGet, dPar3DDO, dProp, dFld, dFldO, dFldSet, dSortSet, daKw, decide_eq_true_eq, shI, shS, shB, shN, eqI, eqS, true_and, List.contains_nil, beq_iff_eq, ↓reduceIte, Bool.false_eq_true]
  exact use_F (x, (3 : Int), (6 : Int)) hx (hQ () trivial)
theorem eqDs_str : ∀ a b : List (List Nat), eqDs (a.map Dt.str) (b.map Dt.str) = (a == b)
  | [], [] => by simp [eqDs]
  | [], _ :: _ => by simp [eqDs]
  | _ :: _, [] => by simp [eqDs]
  | x :: a, y :: b => by
    rw [List.map_cons, List.map_cons, eqDs, eqDs_str a b, eqS]
    rfl
theorem sh_strs (n : Nat) (a : List (List Nat)) : ∀ d ∈ a.map Dt.str, Sh n d := fun d hd => by
  obtain ⟨x, _, rfl⟩ := List.mem_map.mp hd
  rw [shS]
  trivial
theorem eq_lst {a b : List (List Nat)} : eqD (.lst (a.map Dt.str)) (.lst (b.map Dt.str)) = (a == b) := by rw [eqD, eqDs_str]
theorem eq_tup {a b : List (List Nat)} : eqD (.tup (a.map Dt.str)) (.tup (b.map Dt.str)) = (a == b) := by rw [eqD, eqDs_str]
theorem areL_len {x : Dt} (h : areL x 3 6 = true) : ∃ M, x = .str M ∧ M.length ≤ 6 := by
  cases x with
  | str M =>
    have h' : (decide ((3 : Int) ≤ M.length) && decide ((M.length : Int) ≤ 6) && chk M) = true := h
    rw [Bool.and_eq_true, Bool.and_eq_true, decide_eq_true_eq, decide_eq_true_eq] at h'
    exact ⟨M, rfl, by omega⟩
  | _ => cases h
theorem math_is_order_of (K : PySem.W.Frag) : ∀ args Q U, sp_is_order_of K args Q U → m_is_order_of K (ends args Q U) (entry (List.length N_is_order_of) args) := by
  rintro args Q U ⟨⟨L, x⟩, rfl, ⟨hl, hx⟩, hQ⟩
  have hl : L.length < 64 := hl
  have fin : Q (.d (.bl (isOO L x))) [] := hQ () trivial
  simp only [m_is_order_of, entry, lend, jr, List.map_cons, List.map_nil, List.length_cons, List.length_nil, List.replicate_succ, List.replicate_zero, List.cons_append, List.nil_append, List.append_nil, Nat.reduceAdd, Nat.reduceSub, Nat.reduceMul, Nat.zero_add, dSeq, dNext, dSet, dSetO, dPut, dPar, dPar3, dParOD, dParOO, dParDO, dIfS, dRet, dRetO, dRetN, dDrop, dBin, dUn, dC, dVar, dCB, dCBO, daCons, daNil, daLend, dats, one, two, oneO, dIxO, dOwn1, dOwn2, fIx, fLen, dBl, dTru, dNot, dAnd, dOr, dIf, dAndV, dOrV, dNotV, dChain, dFr, dTup, dLst, dApp, dPopAt, dFor, diRng1, diRng2, diAny, gN, items, itemsD, oAdd, oSub, oMul, oDiv, oMod, oPow, oNeg, oCmp, oLt, oLe, oGt, oGe, oEq, oNe, oIn, oIsN, oNotN, isN, oIx, oLen, lenD, oInt, oAbs, oInts, oBool, oTuple, oAll, oAny, oSum, oSumA, oSl, dSl, pNo, pSo, oSorted, oList, oJoin, dMt1, dCall, dCallO, dCallT, argsOf, lent, opt, truth, MO.toD, Rv.toD, putOuts, putMO, List.getElem?_cons_zero, List.getElem?_cons_succ, List.set_cons_zero, List.set_cons_succ, Option.map_some, dIsi, dNo, at0, at1, at2, ix30, ix31, ix32, ends, outW, dComp, dYes, wipeD, back, dMake, dMeth, dLenSetS, oInD, dDict0, dDPut, dGet, dPar3DDO, dProp, dFld, dFldO, dFldSet, dSortSet, daKw, decide_eq_true_eq, shI, shS, shB, shN, eqI, eqS, true_and, List.contains_nil, beq_iff_eq, ↓reduceIte, Bool.false_eq_true]
  refine use_F x hx ?_
  simp only [entry, lend, jr, List.map_cons, List.map_nil, List.length_cons, List.length_nil, List.replicate_succ, List.replicate_zero, List.cons_append, List.nil_append, List.append_nil, Nat.reduceAdd, Nat.reduceSub, Nat.reduceMul, Nat.zero_add, dSeq, dNext, dSet, dSetO, dPut, dPar, dPar3, dParOD, dParOO, dParDO, dIfS, dRet, dRetO, dRetN, dDrop, dBin, dUn, dC, dVar, dCB, dCBO, daCons, daNil, daLend, dats, one, two, oneO, dIxO, dOwn1, dOwn2, fIx, fLen, dBl, dTru, dNot, dAnd, dOr, dIf, dAndV, dOrV, dNotV, dChain, dFr, dTup, dLst, dApp, dPopAt, dFor, diRng1, diRng2, diAny, gN, items, itemsD, oAdd, oSub, oMul, oDiv, oMod, oPow, oNeg, oCmp, oLt, oLe, oGt, oGe, oEq, oNe, oIn, oIsN, oNotN, isN, oIx, oLen, lenD, oInt, oAbs, oInts, oBool, oTuple, oAll, oAny, oSum, oSumA, oSl, dSl, pNo, pSo, oSorted, oList, oJoin, dMt1, dCall, dCallO, dCallT, argsOf, lent, opt, truth, MO.toD, Rv.toD, putOuts, putMO, List.getElem?_cons_zero, List.getElem?_cons_succ, List.set_cons_zero, List.set_cons_succ, Option.map_some, dIsi, dNo, at0, at1, at2, ix30, ix31, ix32, ends, outW, dComp, dYes, wipeD, back, dMake, dMeth, dLenSetS, oInD, dDict0, dDPut, dGet, dPar3DDO, dProp, dFld, dFldO, dFldSet, dSortSet, daKw, decide_eq_true_eq, shI, shS, shB, shN, eqI, eqS, true_and, List.contains_nil, beq_iff_eq, ↓reduceIte, Bool.false_eq_true]
  cases e : areL x 3 6 with
  | false =>
    have e2 : isOO L x = false := by
      cases x with
      | str M => show (areL (.str M) 3 6 && _) = false; rw [e]; rfl
      | _ => rfl
    rw [e2] at fin
    exact fin
  | true =>
    obtain ⟨M, rfl, hM⟩ := areL_len e
    simp only [entry, lend, jr, List.map_cons, List.map_nil, List.length_cons, List.length_nil, List.replicate_succ, List.replicate_zero, List.cons_append, List.nil_append, List.append_nil, Nat.reduceAdd, Nat.reduceSub, Nat.reduceMul, Nat.zero_add, dSeq, dNext, dSet, dSetO, dPut, dPar, dPar3, dParOD, dParOO, dParDO, dIfS, dRet, dRetO, dRetN, dDrop, dBin, dUn, dC, dVar, dCB, dCBO, daCons, daNil, daLend, dats, one, two, oneO, dIxO, dOwn1, dOwn2, fIx, fLen, dBl, dTru, dNot, dAnd, dOr, dIf, dAndV, dOrV, dNotV, dChain, dFr, dTup, dLst, dApp, dPopAt, dFor, diRng1, diRng2, diAny, gN, items, itemsD, oAdd, oSub, oMul, oDiv, oMod, oPow, oNeg, oCmp, oLt, oLe, oGt, oGe, oEq, oNe, oIn, oIsN, oNotN, isN, oIx, oLen, lenD, oInt, oAbs, oInts, oBool, oTuple, oAll, oAny, oSum, oSumA, oSl, dSl, pNo, pSo, oSorted, oList, oJoin, dMt1, dCall, dCallO, dCallT, argsOf, lent, opt, truth, MO.toD, Rv.toD, putOuts, putMO, List.getElem?_cons_zero, List.getElem?_cons_succ, List.set_cons_zero, List.set_cons_succ, Option.map_some, dIsi, dNo, at0, at1, at2, ix30, ix31, ix32, ends, outW, dComp, dYes, wipeD, back, dMake, dMeth, dLenSetS, oInD, dDict0, dDPut, dGet, dPar3DDO, dProp, dFld, dFldO, dFldSet, dSortSet, daKw, decide_eq_true_eq, shI, shS, shB, shN, eqI, eqS, true_and, List.contains_nil, beq_iff_eq, ↓reduceIte, Bool.false_eq_true]
    refine ⟨by omega, hl, sh_strs 7 _, sh_strs 7 _, ?_⟩
    rw [eq_lst]
    have e2 : isOO L (.str M) = (srtL (M.map fun c => [c]) == srtL (L.map fun c => [c])) := by
      show (areL (.str M) 3 6 && _) = _
      rw [e, Bool.true_and]
    rw [e2] at fin
    exact fin
def gRow (L : List Nat) (a c : Nat) : List (List Nat) := (L.filter fun b => decide (a < b) && decide (b < c)).map fun b => [a, b, c]
def raw (L R : List Nat) : List (List Nat) := R.flatMap fun a => L.flatMap fun c => gRow L a c
theorem use_roster {K : PySem.W.Frag} {b : Bool} {p : Addr} {j : Jr} {n m : Nat} {Q : Rv → List MO → Prop} {U : Xn → List MO → Prop} (h0 : 3 ≤ n) (h1 : n ≤ 6) (m0 : 0 < m) (m1 : m ≤ 40) (h : ∀ (L : List Nat) (lot : List (List Nat)) (j : Jr), Things L → Lot L m lot → Q (.d (.tup (stL lot))) [jr j]) :
    sp_L_roster K [.own b p (jr j), .dat (.int n), .dat (.int m)] Q U := ⟨((b, p, j), (n, m)), rfl, ⟨h0, h1, m0, m1⟩, fun y hy => h y.1.1 y.1.2 y.2 hy.1 hy.2⟩
theorem math_law (K : PySem.W.Frag) : ∀ args Q U, sp_law K args Q U → m_law K (ends args Q U) (entry (List.length N_law) args) := by
  rintro args Q U ⟨xs, rfl, hx, hQ⟩
  have hx : xs.length ≤ 63 := hx
  have fin : Q (.d (.bl true)) [] := hQ () trivial
  unfold m_law
  refine seq_step fun k1 hk1 => ?_
  simp only [entry, lend, jr, List.map_cons, List.map_nil, List.length_cons, List.length_nil, List.replicate_succ, List.replicate_zero, List.cons_append, List.nil_append, List.append_nil, Nat.reduceAdd, Nat.reduceSub, Nat.reduceMul, Nat.zero_add, dNext, dSet, dSetO, dPut, dPar, dPar3, dParOD, dParOO, dParDO, dRet, dRetO, dRetN, dDrop, dBin, dUn, dC, dVar, dCB, dCBO, daCons, daNil, daLend, dats, one, two, oneO, dIxO, dOwn1, dOwn2, fIx, fLen, dBl, dTru, dNot, dAnd, dOr, dAndV, dOrV, dNotV, dChain, dFr, dTup, dLst, dApp, dPopAt, dFor, diRng1, diRng2, diAny, gN, items, itemsD, oAdd, oSub, oMul, oDiv, oMod, oPow, oNeg, oCmp, oLt, oLe, oGt, oGe, oEq, oNe, oIn, oIsN, oNotN, isN, oIx, oLen, lenD, oInt, oAbs, oInts, oBool, oTuple, oAll, oAny, oSum, oSumA, oSl, dSl, pNo, pSo, oSorted, oList, oJoin, dMt1, dCall, dCallO, dCallT, argsOf, lent, opt, truth, MO.toD, Rv.toD, putOuts, putMO, List.getElem?_cons_zero, List.getElem?_cons_succ, List.set_cons_zero, List.set_cons_succ, Option.map_some, dIsi, dNo, at0, at1, at2, ix30, ix31, ix32, dComp, dYes, wipeD, back, dMake, dMeth, dLenSetS, oInD, dDict0, dDPut, dGet, dPar3DDO, dProp, dFld, dFldO, dFldSet, dSortSet, daKw, decide_eq_true_eq, shI, shS, shB, shN, eqI, eqS, true_and, List.contains_nil, beq_iff_eq, ↓reduceIte, Bool.false_eq_true]
  have hm : ∀ c : Int, 0 ≤ c → c ≤ 5 → maxI 2 (minI ((List.map Dt.int xs).length : Int) c) ≤ 5 ∧ 0 ≤ maxI 2 (minI ((List.map Dt.int xs).length : Int) c) := fun c c0 c5 => by
    unfold maxI minI
    split <;> split <;> omega
  have h3 := hm 3 (by decide) (by decide)
  have h4 := hm 4 (by decide) (by decide)
  have h5 := hm 5 (by decide) (by decide)
  refine ⟨by omega, by omega, ?_⟩
  refine loop_ind (fun ds ρ => ∃ (k n : Nat) (s : Sl), k + n ≤ 10 ∧ ds = rangeD k n ∧ ρ = [.dat (.scr (xs.map .int)), s]) ?_ ?_ _ _ ⟨0, _, .no, ?_, rfl, rfl⟩
  · rintro ρ ⟨k, n, s, _, _, rfl⟩
    refine hk1 _ ?_
    simp only [entry, lend, jr, List.map_cons, List.map_nil, List.length_cons, List.length_nil, List.replicate_succ, List.replicate_zero, List.cons_append, List.nil_append, List.append_nil, Nat.reduceAdd, Nat.reduceSub, Nat.reduceMul, Nat.zero_add, dSeq, dNext, dSet, dSetO, dPut, dPar, dPar3, dParOD, dParOO, dParDO, dIfS, dRet, dRetO, dRetN, dDrop, dBin, dUn, dC, dVar, dCB, dCBO, daCons, daNil, daLend, dats, one, two, oneO, dIxO, dOwn1, dOwn2, fIx, fLen, dBl, dTru, dNot, dAnd, dOr, dIf, dAndV, dOrV, dNotV, dChain, dFr, dTup, dLst, dApp, dPopAt, dFor, diRng1, diRng2, diAny, gN, items, itemsD, oAdd, oSub, oMul, oDiv, oMod, oPow, oNeg, oCmp, oLt, oLe, oGt, oGe, oEq, oNe, oIn, oIsN, oNotN, isN, oIx, oLen, lenD, oInt, oAbs, oInts, oBool, oTuple, oAll, oAny, oSum, oSumA, oSl, dSl, pNo, pSo, oSorted, oList, oJoin, dMt1, dCall, dCallO, dCallT, argsOf, lent, opt, truth, MO.toD, Rv.toD, putOuts, putMO, List.getElem?_cons_zero, List.getElem?_cons_succ, List.set_cons_zero, List.set_cons_succ, Option.map_some, dIsi, dNo, at0, at1, at2, ix30, ix31, ix32, ends, outW, dComp, dYes, wipeD, back, dMake, dMeth, dLenSetS, oInD, dDict0, dDPut, dGet, dPar3DDO, dProp, dFld, dFldO, dFldSet, dSortSet, daKw, decide_eq_true_eq, shI, shS, shB, shN, eqI, eqS, true_and, List.contains_nil, beq_iff_eq, ↓reduceIte, Bool.false_eq_true]
    exact fin
  · rintro d ds ρ k' ⟨k, n, s, e, e2, rfl⟩ hk
    cases n with
    | zero => cases e2
    | succ n =>
      rw [range_succ] at e2
      obtain ⟨rfl, rfl⟩ := List.cons.inj e2
      refine if_step fun kb kt kf => ?_
      simp only [entry, lend, jr, List.map_cons, List.map_nil, List.length_cons, List.length_nil, List.replicate_succ, List.replicate_zero, List.cons_append, List.nil_append, List.append_nil, Nat.reduceAdd, Nat.reduceSub, Nat.reduceMul, Nat.zero_add, dNext, dSet, dSetO, dPut, dPar, dPar3, dParOD, dParOO, dParDO, dRet, dRetO, dRetN, dDrop, dBin, dUn, dC, dVar, dCB, dCBO, daCons, daNil, daLend, dats, one, two, oneO, dIxO, dOwn1, dOwn2, fIx, fLen, dBl, dTru, dNot, dAnd, dOr, dAndV, dOrV, dNotV, dChain, dFr, dTup, dLst, dApp, dPopAt, dFor, diRng1, diRng2, diAny, gN, items, itemsD, oAdd, oSub, oMul, oDiv, oMod, oPow, oNeg, oCmp, oLt, oLe, oGt, oGe, oEq, oNe, oIn, oIsN, oNotN, isN, oIx, oLen, lenD, oInt, oAbs, oInts, oBool, oTuple, oAll, oAny, oSum, oSumA, oSl, dSl, pNo, pSo, oSorted, oList, oJoin, dMt1, dCall, dCallO, dCallT, argsOf, lent, opt, truth, MO.toD, Rv.toD, putOuts, putMO, List.getElem?_cons_zero, List.getElem?_cons_succ, List.set_cons_zero, List.set_cons_succ, Option.map_some, dIsi, dNo, at0, at1, at2, ix30, ix31, ix32, dComp, dYes, wipeD, back, dMake, dMeth, dLenSetS, oInD, dDict0, dDPut, dGet, dPar3DDO, dProp, dFld, dFldO, dFldSet, dSortSet, daKw, decide_eq_true_eq, shI, shS, shB, shN, eqI, eqS, true_and, List.contains_nil, beq_iff_eq, ↓reduceIte, Bool.false_eq_true]
      refine ⟨(xs, (k : Int)), rfl, ⟨hx, show (0 : Int) ≤ k by omega, show (k : Int) ≤ 100 by omega⟩, fun j _ => ?_⟩
      simp only [entry, lend, jr, List.map_cons, List.map_nil, List.length_cons, List.length_nil, List.replicate_succ, List.replicate_zero, List.cons_append, List.nil_append, List.append_nil, Nat.reduceAdd, Nat.reduceSub, Nat.reduceMul, Nat.zero_add, dNext, dSet, dSetO, dPut, dPar, dPar3, dParOD, dParOO, dParDO, dRet, dRetO, dRetN, dDrop, dBin, dUn, dC, dVar, dCB, dCBO, daCons, daNil, daLend, dats, one, two, oneO, dIxO, dOwn1, dOwn2, fIx, fLen, dBl, dTru, dNot, dAnd, dOr, dAndV, dOrV, dNotV, dChain, dFr, dTup, dLst, dApp, dPopAt, dFor, diRng1, diRng2, diAny, gN, items, itemsD, oAdd, oSub, oMul, oDiv, oMod, oPow, oNeg, oCmp, oLt, oLe, oGt, oGe, oEq, oNe, oIn, oIsN, oNotN, isN, oIx, oLen, lenD, oInt, oAbs, oInts, oBool, oTuple, oAll, oAny, oSum, oSumA, oSl, dSl, pNo, pSo, oSorted, oList, oJoin, dMt1, dCall, dCallO, dCallT, argsOf, lent, opt, truth, MO.toD, Rv.toD, putOuts, putMO, List.getElem?_cons_zero, List.getElem?_cons_succ, List.set_cons_zero, List.set_cons_succ, Option.map_some, dIsi, dNo, at0, at1, at2, ix30, ix31, ix32, dComp, dYes, wipeD, back, dMake, dMeth, dLenSetS, oInD, dDict0, dDPut, dGet, dPar3DDO, dProp, dFld, dFldO, dFldSet, dSortSet, daKw, decide_eq_true_eq, shI, shS, shB, shN, eqI, eqS, true_and, List.contains_nil, beq_iff_eq, ↓reduceIte, Bool.false_eq_true]
      intro p
      refine ⟨((false, p, j), ()), rfl, trivial, fun y _ => ?_⟩
      simp only [Bool.not_true, entry, lend, jr, List.map_cons, List.map_nil, List.length_cons, List.length_nil, List.replicate_succ, List.replicate_zero, List.cons_append, List.nil_append, List.append_nil, Nat.reduceAdd, Nat.reduceSub, Nat.reduceMul, Nat.zero_add, dNext, dSet, dSetO, dPut, dPar, dPar3, dParOD, dParOO, dParDO, dRet, dRetO, dRetN, dDrop, dBin, dUn, dC, dVar, dCB, dCBO, daCons, daNil, daLend, dats, one, two, oneO, dIxO, dOwn1, dOwn2, fIx, fLen, dBl, dTru, dNot, dAnd, dOr, dAndV, dOrV, dNotV, dChain, dFr, dTup, dLst, dApp, dPopAt, dFor, diRng1, diRng2, diAny, gN, items, itemsD, oAdd, oSub, oMul, oDiv, oMod, oPow, oNeg, oCmp, oLt, oLe, oGt, oGe, oEq, oNe, oIn, oIsN, oNotN, isN, oIx, oLen, lenD, oInt, oAbs, oInts, oBool, oTuple, oAll, oAny, oSum, oSumA, oSl, dSl, pNo, pSo, oSorted, oList, oJoin, dMt1, dCall, dCallO, dCallT, argsOf, lent, opt, truth, MO.toD, Rv.toD, putOuts, putMO, List.getElem?_cons_zero, List.getElem?_cons_succ, List.set_cons_zero, List.set_cons_succ, Option.map_some, dIsi, dNo, at0, at1, at2, ix30, ix31, ix32, dComp, dYes, wipeD, back, dMake, dMeth, dLenSetS, oInD, dDict0, dDPut, dGet, dPar3DDO, dProp, dFld, dFldO, dFldSet, dSortSet, daKw, decide_eq_true_eq, shI, shS, shB, shN, eqI, eqS, true_and, List.contains_nil, beq_iff_eq, ↓reduceIte, Bool.false_eq_true]
      exact kf _ (hk _ ⟨k + 1, n, _, by omega, rfl, rfl⟩)
  · omega
theorem math_Roll_orders (K : PySem.W.Frag) : ∀ args Q U, sp_Roll_orders K args Q U → m_Roll_orders K (ends args Q U) (entry (List.length N_Roll_orders) args) := by
  rintro args Q U ⟨lot, rfl, _, hQ⟩
  simp only [m_Roll_orders, roll, List.lookup_cons_self, entry, lend, jr, List.map_cons, List.map_nil, List.length_cons, List.length_nil, List.replicate_succ, List.replicate_zero, List.cons_append, List.nil_append, List.append_nil, Nat.reduceAdd, Nat.reduceSub, Nat.reduceMul, Nat.zero_add, dSeq, dNext, dSet, dSetO, dPut, dPar, dPar3, dParOD, dParOO, dParDO, dIfS, dRet, dRetO, dRetN, dDrop, dBin, dUn, dC, dVar, dCB, dCBO, daCons, daNil, daLend, dats, one, two, oneO, dIxO, dOwn1, dOwn2, fIx, fLen, dBl, dTru, dNot, dAnd, dOr, dIf, dAndV, dOrV, dNotV, dChain, dFr, dTup, dLst, dApp, dPopAt, dFor, diRng1, diRng2, diAny, gN, items, itemsD, oAdd, oSub, oMul, oDiv, oMod, oPow, oNeg, oCmp, oLt, oLe, oGt, oGe, oEq, oNe, oIn, oIsN, oNotN, isN, oIx, oLen, lenD, oInt, oAbs, oInts, oBool, oTuple, oAll, oAny, oSum, oSumA, oSl, dSl, pNo, pSo, oSorted, oList, oJoin, dMt1, dCall, dCallO, dCallT, argsOf, lent, opt, truth, MO.toD, Rv.toD, putOuts, putMO, List.getElem?_cons_zero, List.getElem?_cons_succ, List.set_cons_zero, List.set_cons_succ, Option.map_some, dIsi, dNo, at0, at1, at2, ix30, ix31, ix32, ends, outW, dComp, dYes, wipeD, back, dMake, dMeth, dLenSetS, oInD, dDict0, dDPut, dGet, dPar3DDO, dProp, dFld, dFldO, dFldSet, dSortSet, daKw, decide_eq_true_eq, shI, shS, shB, shN, eqI, eqS, true_and, List.contains_nil, beq_iff_eq, ↓reduceIte, Bool.false_eq_true]
  exact ⟨List.mem_singleton.mpr rfl, hQ () trivial⟩

/-! ### pick from a text, a list, a tuple -/
theorem math_L_pick (K : PySem.W.Frag) : ∀ args Q U, sp_L_pick K args Q U → m_L_pick K (ends args Q U) (entry (List.length N_L_pick) args) := by
  rintro args Q U ⟨⟨⟨b, p, j⟩, x, ds⟩, rfl, ⟨hs, ne, len⟩, hQ⟩
  have ne : ds ≠ [] := ne
  have len : ds.length ≤ 1000 := len
  have hs : srcP x = some ds := hs
  have l0 : 0 < ds.length := List.length_pos_iff.mpr ne
  have fin : ∀ d (j : Jr), d ∈ ds → Q (.d d) [jr j] := fun d j a => hQ (d, j) a
  have e : ∀ {r : Int}, 0 ≤ r → r < (ds.length : Int) → ∃ d, L2.atI ds r = some d ∧ d ∈ ds := fun {r} r0 r1 => by
    have hr : r.toNat < ds.length := by omega
    have := atN ds r.toNat
    rw [show ((r.toNat : Nat) : Int) = r by omega, List.getElem?_eq_getElem hr] at this
    exact ⟨_, this, List.getElem_mem hr⟩
  unfold m_L_pick
  refine seq_step fun k1 hk1 => ?_
  cases x with
  | str l =>
    obtain rfl := Option.some.inj hs
    have ln : (chars l).length = l.length := List.length_map _
    simp only [entry, lend, jr, List.map_cons, List.map_nil, List.length_cons, List.length_nil, List.replicate_succ, List.replicate_zero, List.cons_append, List.nil_append, List.append_nil, Nat.reduceAdd, Nat.reduceSub, Nat.reduceMul, Nat.zero_add, dNext, dSet, dSetO, dPut, dPar, dPar3, dParOD, dParOO, dParDO, dRet, dRetO, dRetN, dDrop, dBin, dUn, dC, dVar, dCB, dCBO, daCons, daNil, daLend, dats, one, two, oneO, dIxO, dOwn1, dOwn2, fIx, fLen, dBl, dTru, dNot, dAnd, dOr, dAndV, dOrV, dNotV, dChain, dFr, dTup, dLst, dApp, dPopAt, dFor, diRng1, diRng2, diAny, gN, items, itemsD, oAdd, oSub, oMul, oDiv, oMod, oPow, oNeg, oCmp, oLt, oLe, oGt, oGe, oEq, oNe, oIn, oIsN, oNotN, isN, oIx, oLen, lenD, oInt, oAbs, oInts, oBool, oTuple, oAll, oAny, oSum, oSumA, oSl, dSl, pNo, pSo, oSorted, oList, oJoin, dMt1, dCall, dCallO, dCallT, argsOf, lent, opt, truth, MO.toD, Rv.toD, putOuts, putMO, List.getElem?_cons_zero, List.getElem?_cons_succ, List.set_cons_zero, List.set_cons_succ, Option.map_some, dIsi, dNo, at0, at1, at2, ix30, ix31, ix32, dComp, dYes, wipeD, back, dMake, dMeth, dLenSetS, oInD, dDict0, dDPut, dGet, dPar3DDO, dProp, dFld, dFldO, dFldSet, dSortSet, daKw, decide_eq_true_eq, shI, shS, shB, shN, eqI, eqS, true_and, List.contains_nil, beq_iff_eq, ↓reduceIte, Bool.false_eq_true]
    refine use_dip (by omega) (by omega) fun r j' r0 r1 => ?_
    have hr : r.toNat < l.length := by omega
    have h1 : L2.atI l r = some l[r.toNat] := by
      have := atN l r.toNat
      rw [show ((r.toNat : Nat) : Int) = r by omega, List.getElem?_eq_getElem hr] at this
      exact this
    simp only [entry, lend, jr, List.map_cons, List.map_nil, List.length_cons, List.length_nil, List.replicate_succ, List.replicate_zero, List.cons_append, List.nil_append, List.append_nil, Nat.reduceAdd, Nat.reduceSub, Nat.reduceMul, Nat.zero_add, dNext, dSet, dSetO, dPut, dPar, dPar3, dParOD, dParOO, dParDO, dRet, dRetO, dRetN, dDrop, dBin, dUn, dC, dVar, dCB, dCBO, daCons, daNil, daLend, dats, one, two, oneO, dIxO, dOwn1, dOwn2, fIx, fLen, dBl, dTru, dNot, dAnd, dOr, dAndV, dOrV, dNotV, dChain, dFr, dTup, dLst, dApp, dPopAt, dFor, diRng1, diRng2, diAny, gN, items, itemsD, oAdd, oSub, oMul, oDiv, oMod, oPow, oNeg, oCmp, oLt, oLe, oGt, oGe, oEq, oNe, oIn, oIsN, oNotN, isN, oIx, oLen, lenD, oInt, oAbs, oInts, oBool, oTuple, oAll, oAny, oSum, oSumA, oSl, dSl, pNo, pSo, oSorted, oList, oJoin, dMt1, dCall, dCallO, dCallT, argsOf, lent, opt, truth, MO.toD, Rv.toD, putOuts, putMO, List.getElem?_cons_zero, List.getElem?_cons_succ, List.set_cons_zero, List.set_cons_succ, Option.map_some, dIsi, dNo, at0, at1, at2, ix30, ix31, ix32, dComp, dYes, wipeD, back, dMake, dMeth, dLenSetS, oInD, dDict0, dDPut, dGet, dPar3DDO, dProp, dFld, dFldO, dFldSet, dSortSet, daKw, decide_eq_true_eq, shI, shS, shB, shN, eqI, eqS, true_and, List.contains_nil, beq_iff_eq, ↓reduceIte, Bool.false_eq_true]
    refine hk1 _ ?_
    simp only [h1, entry, lend, jr, List.map_cons, List.map_nil, List.length_cons, List.length_nil, List.replicate_succ, List.replicate_zero, List.cons_append, List.nil_append, List.append_nil, Nat.reduceAdd, Nat.reduceSub, Nat.reduceMul, Nat.zero_add, dSeq, dNext, dSet, dSetO, dPut, dPar, dPar3, dParOD, dParOO, dParDO, dIfS, dRet, dRetO, dRetN, dDrop, dBin, dUn, dC, dVar, dCB, dCBO, daCons, daNil, daLend, dats, one, two, oneO, dIxO, dOwn1, dOwn2, fIx, fLen, dBl, dTru, dNot, dAnd, dOr, dIf, dAndV, dOrV, dNotV, dChain, dFr, dTup, dLst, dApp, dPopAt, dFor, diRng1, diRng2, diAny, gN, items, itemsD, oAdd, oSub, oMul, oDiv, oMod, oPow, oNeg, oCmp, oLt, oLe, oGt, oGe, oEq, oNe, oIn, oIsN, oNotN, isN, oIx, oLen, lenD, oInt, oAbs, oInts, oBool, oTuple, oAll, oAny, oSum, oSumA, oSl, dSl, pNo, pSo, oSorted, oList, oJoin, dMt1, dCall, dCallO, dCallT, argsOf, lent, opt, truth, MO.toD, Rv.toD, putOuts, putMO, List.getElem?_cons_zero, List.getElem?_cons_succ, List.set_cons_zero, List.set_cons_succ, Option.map_some, dIsi, dNo, at0, at1, at2, ix30, ix31, ix32, ends, outW, dComp, dYes, wipeD, back, dMake, dMeth, dLenSetS, oInD, dDict0, dDPut, dGet, dPar3DDO, dProp, dFld, dFldO, dFldSet, dSortSet, daKw, decide_eq_true_eq, shI, shS, shB, shN, eqI, eqS, true_and, List.contains_nil, beq_iff_eq, ↓reduceIte, Bool.false_eq_true]
    exact fin _ j' (List.mem_map.mpr ⟨_, List.getElem_mem hr, rfl⟩)
  | lst l =>
    obtain rfl := Option.some.inj hs
    simp only [entry, lend, jr, List.map_cons, List.map_nil, List.length_cons, List.length_nil, List.replicate_succ, List.replicate_zero, List.cons_append, List.nil_append, List.append_nil, Nat.reduceAdd, Nat.reduceSub, Nat.reduceMul, Nat.zero_add, dNext, dSet, dSetO, dPut, dPar, dPar3, dParOD, dParOO, dParDO, dRet, dRetO, dRetN, dDrop, dBin, dUn, dC, dVar, dCB, dCBO, daCons, daNil, daLend, dats, one, two, oneO, dIxO, dOwn1, dOwn2, fIx, fLen, dBl, dTru, dNot, dAnd, dOr, dAndV, dOrV, dNotV, dChain, dFr, dTup, dLst, dApp, dPopAt, dFor, diRng1, diRng2, diAny, gN, items, itemsD, oAdd, oSub, oMul, oDiv, oMod, oPow, oNeg, oCmp, oLt, oLe, oGt, oGe, oEq, oNe, oIn, oIsN, oNotN, isN, oIx, oLen, lenD, oInt, oAbs, oInts, oBool, oTuple, oAll, oAny, oSum, oSumA, oSl, dSl, pNo, pSo, oSorted, oList, oJoin, dMt1, dCall, dCallO, dCallT, argsOf, lent, opt, truth, MO.toD, Rv.toD, putOuts, putMO, List.getElem?_cons_zero, List.getElem?_cons_succ, List.set_cons_zero, List.set_cons_succ, Option.map_some, dIsi, dNo, at0, at1, at2, ix30, ix31, ix32, dComp, dYes, wipeD, back, dMake, dMeth, dLenSetS, oInD, dDict0, dDPut, dGet, dPar3DDO, dProp, dFld, dFldO, dFldSet, dSortSet, daKw, decide_eq_true_eq, shI, shS, shB, shN, eqI, eqS, true_and, List.contains_nil, beq_iff_eq, ↓reduceIte, Bool.false_eq_true]
    refine use_dip (by omega) (by omega) fun r j' r0 r1 => ?_
    obtain ⟨d, h1, h2⟩ := e r0 (by omega)
    simp only [entry, lend, jr, List.map_cons, List.map_nil, List.length_cons, List.length_nil, List.replicate_succ, List.replicate_zero, List.cons_append, List.nil_append, List.append_nil, Nat.reduceAdd, Nat.reduceSub, Nat.reduceMul, Nat.zero_add, dNext, dSet, dSetO, dPut, dPar, dPar3, dParOD, dParOO, dParDO, dRet, dRetO, dRetN, dDrop, dBin, dUn, dC, dVar, dCB, dCBO, daCons, daNil, daLend, dats, one, two, oneO, dIxO, dOwn1, dOwn2, fIx, fLen, dBl, dTru, dNot, dAnd, dOr, dAndV, dOrV, dNotV, dChain, dFr, dTup, dLst, dApp, dPopAt, dFor, diRng1, diRng2, diAny, gN, items, itemsD, oAdd, oSub, oMul, oDiv, oMod, oPow, oNeg, oCmp, oLt, oLe, oGt, oGe, oEq, oNe, oIn, oIsN, oNotN, isN, oIx, oLen, lenD, oInt, oAbs, oInts, oBool, oTuple, oAll, oAny, oSum, oSumA, oSl, dSl, pNo, pSo, oSorted, oList, oJoin, dMt1, dCall, dCallO, dCallT, argsOf, lent, opt, truth, MO.toD, Rv.toD, putOuts, putMO, List.getElem?_cons_zero, List.getElem?_cons_succ, List.set_cons_zero, List.set_cons_succ, Option.map_some, dIsi, dNo, at0, at1, at2, ix30, ix31, ix32, dComp, dYes, wipeD, back, dMake, dMeth, dLenSetS, oInD, dDict0, dDPut, dGet, dPar3DDO, dProp, dFld, dFldO, dFldSet, dSortSet, daKw, decide_eq_true_eq, shI, shS, shB, shN, eqI, eqS, true_and, List.contains_nil, beq_iff_eq, ↓reduceIte, Bool.false_eq_true]
    refine hk1 _ ?_
    simp only [h1, entry, lend, jr, List.map_cons, List.map_nil, List.length_cons, List.length_nil, List.replicate_succ, List.replicate_zero, List.cons_append, List.nil_append, List.append_nil, Nat.reduceAdd, Nat.reduceSub, Nat.reduceMul, Nat.zero_add, dSeq, dNext, dSet, dSetO, dPut, dPar, dPar3, dParOD, dParOO, dParDO, dIfS, dRet, dRetO, dRetN, dDrop, dBin, dUn, dC, dVar, dCB, dCBO, daCons, daNil, daLend, dats, one, two, oneO, dIxO, dOwn1, dOwn2, fIx, fLen, dBl, dTru, dNot, dAnd, dOr, dIf, dAndV, dOrV, dNotV, dChain, dFr, dTup, dLst, dApp, dPopAt, dFor, diRng1, diRng2, diAny, gN, items, itemsD, oAdd, oSub, oMul, oDiv, oMod, oPow, oNeg, oCmp, oLt, oLe, oGt, oGe, oEq, oNe, oIn, oIsN, oNotN, isN, oIx, oLen, lenD, oInt, oAbs, oInts, oBool, oTuple, oAll, oAny, oSum, oSumA, oSl, dSl, pNo, pSo, oSorted, oList, oJoin, dMt1, dCall, dCallO, dCallT, argsOf, lent, opt, truth, MO.toD, Rv.toD, putOuts, putMO, List.getElem?_cons_zero, List.getElem?_cons_succ, List.set_cons_zero, List.set_cons_succ, Option.map_some, dIsi, dNo, at0, at1, at2, ix30, ix31, ix32, ends, outW, dComp, dYes, wipeD, back, dMake, dMeth, dLenSetS, oInD, dDict0, dDPut, dGet, dPar3DDO, dProp, dFld, dFldO, dFldSet, dSortSet, daKw, decide_eq_true_eq, shI, shS, shB, shN, eqI, eqS, true_and, List.contains_nil, beq_iff_eq, ↓reduceIte, Bool.false_eq_true]
    exact fin _ j' h2
  | tup l =>
    obtain rfl := Option.some.inj hs
    simp only [entry, lend, jr, List.map_cons, List.map_nil, List.length_cons, List.length_nil, List.replicate_succ, List.replicate_zero, List.cons_append, List.nil_append, List.append_nil, Nat.reduceAdd, Nat.reduceSub, Nat.reduceMul, Nat.zero_add, dNext, dSet, dSetO, dPut, dPar, dPar3, dParOD, dParOO, dParDO, dRet, dRetO, dRetN, dDrop, dBin, dUn, dC, dVar, dCB, dCBO, daCons, daNil, daLend, dats, one, two, oneO, dIxO, dOwn1, dOwn2, fIx, fLen, dBl, dTru, dNot, dAnd, dOr, dAndV, dOrV, dNotV, dChain, dFr, dTup, dLst, dApp, dPopAt, dFor, diRng1, diRng2, diAny, gN, items, itemsD, oAdd, oSub, oMul, oDiv, oMod, oPow, oNeg, oCmp, oLt, oLe, oGt, oGe, oEq, oNe, oIn, oIsN, oNotN, isN, oIx, oLen, lenD, oInt, oAbs, oInts, oBool, oTuple, oAll, oAny, oSum, oSumA, oSl, dSl, pNo, pSo, oSorted, oList, oJoin, dMt1, dCall, dCallO, dCallT, argsOf, lent, opt, truth, MO.toD, Rv.toD, putOuts, putMO, List.getElem?_cons_zero, List.getElem?_cons_succ, List.set_cons_zero, List.set_cons_succ, Option.map_some, dIsi, dNo, at0, at1, at2, ix30, ix31, ix32, dComp, dYes, wipeD, back, dMake, dMeth, dLenSetS, oInD, dDict0, dDPut, dGet, dPar3DDO, dProp, dFld, dFldO, dFldSet, dSortSet, daKw, decide_eq_true_eq, shI, shS, shB, shN, eqI, eqS, true_and, List.contains_nil, beq_iff_eq, ↓reduceIte, Bool.false_eq_true]
    refine use_dip (by omega) (by omega) fun r j' r0 r1 => ?_
    obtain ⟨d, h1, h2⟩ := e r0 (by omega)
    simp only [entry, lend, jr, List.map_cons, List.map_nil, List.length_cons, List.length_nil, List.replicate_succ, List.replicate_zero, List.cons_append, List.nil_append, List.append_nil, Nat.reduceAdd, Nat.reduceSub, Nat.reduceMul, Nat.zero_add, dNext, dSet, dSetO, dPut, dPar, dPar3, dParOD, dParOO, dParDO, dRet, dRetO, dRetN, dDrop, dBin, dUn, dC, dVar, dCB, dCBO, daCons, daNil, daLend, dats, one, two, oneO, dIxO, dOwn1, dOwn2, fIx, fLen, dBl, dTru, dNot, dAnd, dOr, dAndV, dOrV, dNotV, dChain, dFr, dTup, dLst, dApp, dPopAt, dFor, diRng1, diRng2, diAny, gN, items, itemsD, oAdd, oSub, oMul, oDiv, oMod, oPow, oNeg, oCmp, oLt, oLe, oGt, oGe, oEq, oNe, oIn, oIsN, oNotN, isN, oIx, oLen, lenD, oInt, oAbs, oInts, oBool, oTuple, oAll, oAny, oSum, oSumA, oSl, dSl, pNo, pSo, oSorted, oList, oJoin, dMt1, dCall, dCallO, dCallT, argsOf, lent, opt, truth, MO.toD, Rv.toD, putOuts, putMO, List.getElem?_cons_zero, List.getElem?_cons_succ, List.set_cons_zero, List.set_cons_succ, Option.map_some, dIsi, dNo, at0, at1, at2, ix30, ix31, ix32, dComp, dYes, wipeD, back, dMake, dMeth, dLenSetS, oInD, dDict0, dDPut, dGet, dPar3DDO, dProp, dFld, dFldO, dFldSet, dSortSet, daKw, decide_eq_true_eq, shI, shS, shB, shN, eqI, eqS, true_and, List.contains_nil, beq_iff_eq, ↓reduceIte, Bool.false_eq_true]
    refine hk1 _ ?_
    simp only [h1, entry, lend, jr, List.map_cons, List.map_nil, List.length_cons, List.length_nil, List.replicate_succ, List.replicate_zero, List.cons_append, List.nil_append, List.append_nil, Nat.reduceAdd, Nat.reduceSub, Nat.reduceMul, Nat.zero_add, dSeq, dNext, dSet, dSetO, dPut, dPar, dPar3, dParOD, dParOO, dParDO, dIfS, dRet, dRetO, dRetN, dDrop, dBin, dUn, dC, dVar, dCB, dCBO, daCons, daNil, daLend, dats, one, two, oneO, dIxO, dOwn1, dOwn2, fIx, fLen, dBl, dTru, dNot, dAnd, dOr, dIf, dAndV, dOrV, dNotV, dChain, dFr, dTup, dLst, dApp, dPopAt, dFor, diRng1, diRng2, diAny, gN, items, itemsD, oAdd, oSub, oMul, oDiv, oMod, oPow, oNeg, oCmp, oLt, oLe, oGt, oGe, oEq, oNe, oIn, oIsN, oNotN, isN, oIx, oLen, lenD, oInt, oAbs, oInts, oBool, oTuple, oAll, oAny, oSum, oSumA, oSl, dSl, pNo, pSo, oSorted, oList, oJoin, dMt1, dCall, dCallO, dCallT, argsOf, lent, opt, truth, MO.toD, Rv.toD, putOuts, putMO, List.getElem?_cons_zero, List.getElem?_cons_succ, List.set_cons_zero, List.set_cons_succ, Option.map_some, dIsi, dNo, at0, at1, at2, ix30, ix31, ix32, ends, outW, dComp, dYes, wipeD, back, dMake, dMeth, dLenSetS, oInD, dDict0, dDPut, dGet, dPar3DDO, dProp, dFld, dFldO, dFldSet, dSortSet, daKw, decide_eq_true_eq, shI, shS, shB, shN, eqI, eqS, true_and, List.contains_nil, beq_iff_eq, ↓reduceIte, Bool.false_eq_true]
    exact fin _ j' h2
  | _ => cases hs
theorem use_pick {K : PySem.W.Frag} {b : Bool} {p : Addr} {j : Jr} {ds : List Dt} {Q : Rv → List MO → Prop} {U : Xn → List MO → Prop} (ne : ds ≠ []) (len : ds.length ≤ 1000) (h : ∀ d (j : Jr), d ∈ ds → Q (.d d) [jr j]) :
    sp_L_pick K [.own b p (jr j), .dat (.lst ds)] Q U := ⟨((b, p, j), Dt.lst ds, ds), rfl, ⟨rfl, ne, len⟩, fun y hy => h y.1 y.2 hy⟩
theorem use_pickS {K : PySem.W.Frag} {b : Bool} {p : Addr} {j : Jr} {l : List Nat} {Q : Rv → List MO → Prop} {U : Xn → List MO → Prop} (ne : l ≠ []) (len : l.length ≤ 1000) (h : ∀ c (j : Jr), c ∈ l → Q (.d (.str [c])) [jr j]) :
    sp_L_pick K [.own b p (jr j), .dat (.str l)] Q U := ⟨((b, p, j), Dt.str l, chars l), rfl, ⟨rfl, fun e => ne (List.map_eq_nil_iff.mp e), by rw [show (chars l).length = l.length from List.length_map _]; exact len⟩, fun y hy => by
      obtain ⟨c, hc, e⟩ := List.mem_map.mp (show y.1 ∈ chars l from hy)
      rw [show y = (.str [c], y.2) from Prod.ext e.symm rfl]
      exact h c y.2 hc⟩

/-! ### what repr of nested lists, tuples of small things asks -/
def Rp (k : Nat) (d : Dt) (n : Nat) : Prop := Sh k d ∧ (toPy d).showable = true ∧ (toPy d).shown.length ≤ n
def RpA (k : Nat) (ds : List Dt) (n : Nat) : Prop := (∀ d ∈ ds, Sh k d) ∧ PyData.showableAll (toPys ds) = true ∧ ((PyData.shownAll (toPys ds)).map (·.length)).sum ≤ n ∧ (PyData.shownAll (toPys ds)).length = ds.length
theorem Rp.ok {d : Dt} {n : Nat} (h : Rp 8 d n) (hn : n ≤ 16777216) : Sh 8 d ∧ (toPy d).showable = true ∧ Fits (toPy d).shown.length := ⟨h.1, h.2.1, Nat.le_trans h.2.2 hn⟩
theorem Rp.le {k : Nat} {d : Dt} {n m : Nat} (h : Rp k d n) (hn : n ≤ m) : Rp k d m := ⟨h.1, h.2.1, Nat.le_trans h.2.2 hn⟩
theorem Rp.non {k : Nat} : Rp k .non 4 := ⟨by rw [shN]; trivial, by simp only [toPy, PyData.showable], by simp only [toPy, PyData.shown]; decide⟩
theorem Rp.bl {k : Nat} (b : Bool) : Rp k (.bl b) 5 := ⟨by rw [shB]; trivial, by simp only [toPy, PyData.showable], by cases b <;> simp only [toPy, PyData.shown] <;> decide⟩
theorem Rp.int {k : Nat} {i : Int} (h : i.natAbs < 10 ^ 100) : Rp k (.int i) 101 := by
  refine ⟨by rw [shI]; trivial, ?_, ?_⟩
  · rw [toPy, PyData.showable]
    refine decide_eq_true ?_
    by_cases h0 : i.natAbs = 0
    · rw [h0]; decide
    · exact (Nat.log2_lt h0).mpr (Nat.lt_of_lt_of_le h (by decide))
  · rw [toPy, PyData.shown]
    rw [PySem.ofString_length]
    exact int_text_length_le10 (k := 100) (by decide) h
theorem Rp.str {k : Nat} {l : List Nat} (h : ∀ c ∈ l, c < 4294967296) : Rp k (.str l) (10 * l.length + 2) := by
  refine ⟨by rw [shS]; trivial, by rw [toPy, PyData.showable], ?_⟩
  rw [toPy, PyData.shown]
  exact StrLaws.reprText_len ⟨l.toArray⟩ (by simpa using h)
theorem RpA.nil {k : Nat} : RpA k [] 0 := by
  refine ⟨(fun d h => nomatch h), by rw [toPys, PyData.showableAll], ?_⟩
  rw [toPys, PyData.shownAll]
  exact ⟨Nat.zero_le _, rfl⟩
theorem RpA.cons {k : Nat} {d : Dt} {ds : List Dt} {n m : Nat} (h : Rp k d n) (g : RpA k ds m) : RpA k (d :: ds) (n + m) := by
  obtain ⟨h1, h2, h3⟩ := h
  obtain ⟨g1, g2, g3, g4⟩ := g
  refine ⟨fun x hx => ?_, by rw [toPys, PyData.showableAll, h2, g2]; rfl, ?_, ?_⟩
  · rcases List.mem_cons.mp hx with rfl | hx
    · exact h1
    · exact g1 x hx
  · rw [toPys, PyData.shownAll, List.map_cons, List.sum_cons]
    omega
  · rw [toPys, PyData.shownAll, List.length_cons, List.length_cons, g4]
theorem RpA.one {k : Nat} {d : Dt} {n : Nat} (h : Rp k d n) : RpA k [d] n := RpA.cons h RpA.nil
theorem RpA.all {k n : Nat} : ∀ {ds : List Dt}, (∀ d ∈ ds, Rp k d n) → RpA k ds (n * ds.length)
  | [], _ => by rw [List.length_nil, Nat.mul_zero]; exact RpA.nil
  | d :: ds, h => by
    rw [List.length_cons, Nat.mul_succ, Nat.add_comm]
    exact RpA.cons (h d List.mem_cons_self) (RpA.all fun x hx => h x (List.mem_cons_of_mem _ hx))
theorem Rp.tup {k : Nat} {ds : List Dt} {n : Nat} (h : RpA k ds n) : Rp (k + 1) (.tup ds) (n + 2 * ds.length + 3) := by
  obtain ⟨h1, h2, h3, h4⟩ := h
  refine ⟨h1, by rw [toPy, PyData.showable]; exact h2, ?_⟩
  rw [toPy, PyData.shown]
  have := tupleText_len_le (PyData.shownAll (toPys ds))
  rw [h4] at this
  omega
theorem Rp.lst {k : Nat} {ds : List Dt} {n : Nat} (h : RpA k ds n) : Rp (k + 1) (.lst ds) (n + 2 * ds.length + 3) := by
  obtain ⟨h1, h2, h3, h4⟩ := h
  refine ⟨h1, by rw [toPy, PyData.showable]; exact h2, ?_⟩
  rw [toPy, PyData.shown]
  have := listText_len_le (PyData.shownAll (toPys ds))
  rw [h4] at this
  omega
theorem Rp.two {k : Nat} {a b : Dt} {n m : Nat} (h : Rp k a n) (g : Rp k b m) : Rp (k + 1) (.lst [a, b]) (n + m + 7) := Rp.lst (RpA.cons h (RpA.one g))
/-- a look at one sign -/
def isC (p : Nat → Bool) : Dt → Bool
  | .str [c] => p c
  | _ => false
theorem ite_yes {p : Prop} [i : Decidable p] {a b : Prop} (h : p) (hb : a) : ite p a b := by rw [if_pos h]; exact hb
theorem ite_no {p : Prop} [i : Decidable p] {a b : Prop} (h : ¬ p) (hb : b) : ite p a b := by rw [if_neg h]; exact hb
/-! ### rows of orders that are refused (k03, k04) -/
theorem use_E {α : Type} {A : α → List Sl} {C : α → Prop} {R : α → Dt ⊕ Xn} {Q : Rv → List MO → Prop} {U : Xn → List MO → Prop} (x : α) (c : C x) (h : match R x with
  | .inl d => Q (.d d) []
  | .inr y => U y []) : SpE A C R (A x) Q U := ⟨x, rfl, c, h⟩
theorem shw_ok {d : Dt} (h : Shw d) : ShX d ∧ (pyX d).showable = true ∧ Fits (pyX d).shown.length := ⟨h.1, h.2.1, by have := h.2.2; unfold Fits; omega⟩
theorem sh_bls3 (a b c : Bool) : Sh 8 (.lst [.bl a, .bl b, .bl c]) := (Rp.lst (RpA.cons (Rp.bl a) (RpA.cons (Rp.bl b) (RpA.one (Rp.bl c))))).1
theorem eq_bls3 : eqD (.lst [.bl true, .bl false, .bl false]) (.lst [.bl true, .bl false, .bl false]) = true := by simp [eqD, eqDs]
theorem dd_permN {ls : List (List Nat)} (nd : ls.Nodup) : (dd ls).Perm ls :=
  (List.perm_ext_iff_of_nodup (dd_nodup ls [] List.nodup_nil) nd).mpr fun x => (dd_mem x ls []).trans ⟨fun h => h.elim id fun q => (nomatch q), .inl⟩
theorem perm_subN : ∀ {A B : List (List Nat)}, A.Nodup → (∀ x ∈ A, x ∈ B) → B.length ≤ A.length → A.Perm B
  | [], B, _, _, h => by
    have : B = [] := List.length_eq_zero_iff.mp (by simpa using h)
    subst this
    exact .refl _
  | x :: A, B, nd, sub, h => by
    obtain ⟨n1, n2⟩ := List.nodup_cons.mp nd
    have hx := sub x List.mem_cons_self
    have p := List.perm_cons_erase hx
    have l := p.length_eq
    rw [List.length_cons] at l h
    refine (List.Perm.cons x (perm_subN n2 (fun y hy => ?_) (by omega))).trans p.symm
    have := (p.mem_iff (a := y)).mp (sub y (List.mem_cons_of_mem _ hy))
    rcases List.mem_cons.mp this with rfl | q
    · exact absurd hy n1
    · exact q
theorem dd_lenN {ws : List (List Nat)} : (dd ws).length = ws.length ↔ ws.Nodup := by
  constructor
  · intro e
    have nd : (dd ws).Nodup := dd_nodup ws [] List.nodup_nil
    exact (perm_subN nd (fun w hw => ((dd_mem w ws []).mp hw).elim id fun q => (nomatch q)) (by omega)).nodup_iff.mp nd
  · intro h
    exact (dd_permN h).length_eq
theorem chk_iff {L : List Nat} : chk L = true ↔ L.Nodup ∧ ∀ c ∈ L, small c = true := by
  refine ⟨fun h => ?_, fun h => chk_true h.1 h.2⟩
  have sm : ∀ c ∈ LET, small c = true := by decide
  have ok : ∀ (i : Nat) (hi : i < L.length), L[i] ∈ LET ∧ L[i] ∉ L.take i := fun i hi => by
    have := List.all_eq_true.mp h i (List.mem_range.mpr hi)
    unfold okAt at this
    rw [List.getElem?_eq_getElem hi] at this
    simpa using this
  refine ⟨List.pairwise_iff_getElem.mpr fun i j hi hj lt e => (ok j hj).2 ?_, fun c hc => ?_⟩
  · rw [← e]
    exact List.mem_take_iff_getElem.mpr ⟨i, by omega, rfl⟩
  · obtain ⟨i, hi, rfl⟩ := List.mem_iff_getElem.mp hc
    exact sm _ (ok i hi).1
theorem atD {ds : List Dt} {i : Nat} (hi : i < ds.length) : L2.atI ds (i : Int) = some ds[i] := by rw [atN, List.getElem?_eq_getElem hi]
theorem headD_at {ds : List Dt} (h : 0 < ds.length) : ds.headD .non = ds[0] := by
  cases ds with
  | nil => cases h
  | cons d r => rfl
theorem fineR_at {ds : List Dt} {i : Nat} (hi : i < ds.length) : fineR ds i = (!(i == 48) && (isOO (lsO (ds.headD .non)) ds[i] && (i == 0 || ltO (ds.getD (i - 1) .non) ds[i]))) := by
  unfold fineR
  rw [List.getElem?_eq_getElem hi]
theorem badR_some {ds : List Dt} {i : Nat} (hi : i < ds.length) (hb : ∀ j, j < i → fineR ds j = true) (h : fineR ds i = false) : badR ds = some i := by
  unfold badR
  rw [List.find?_range_eq_some]
  exact ⟨by rw [h]; rfl, List.mem_range.mpr hi, fun j hj => by rw [hb j hj]; rfl⟩
theorem badR_none {ds : List Dt} (hb : ∀ j, j < ds.length → fineR ds j = true) : badR ds = none := by
  unfold badR
  rw [List.find?_eq_none]
  intro j hj
  rw [hb j (List.mem_range.mp hj)]
  decide
theorem badR_fine {ds : List Dt} (h : badR ds = none) {j : Nat} (hj : j < ds.length) : fineR ds j = true := by
  unfold badR at h
  rw [List.find?_eq_none] at h
  have := h j (List.mem_range.mpr hj)
  simpa using this
theorem slip_ne {ds : List Dt} (h : 0 < ds.length) : slipI (.tup ds) = (badR ds).map fun i => .int (i : Nat) := by
  show (if ds.isEmpty = true then _ else _) = _
  rw [if_neg]
  rw [List.isEmpty_iff]
  intro e
  rw [e] at h
  cases h
theorem isOO_areL {L : List Nat} {d : Dt} (h : isOO L d = true) : areL d 3 6 = true := by
  cases d with
  | str M =>
    have h : (areL (.str M) 3 6 && _) = true := h
    rw [Bool.and_eq_true] at h
    exact h.1
  | _ => cases h
theorem fine_str {ds : List Dt} {i : Nat} (hi : i < ds.length) (h : fineR ds i = true) : ∃ M, ds[i] = .str M ∧ M.length ≤ 6 := by
  rw [fineR_at hi, Bool.and_eq_true, Bool.and_eq_true] at h
  exact areL_len (isOO_areL h.2.1)
theorem math_check_orders (K : PySem.W.Frag) : ∀ args Q U, sp_check_orders K args Q U → m_check_orders K (ends args Q U) (entry (List.length N_check_orders) args) := by
  rintro args Q U ⟨v, rfl, hv, hQ⟩
  have hv : Tp v := hv
  have bad : ∀ i, slipI v = some i → U (xOrders K i) [] := fun i e => by
    have z := hQ
    simp only [e, resO] at z
    exact z
  have good : slipI v = none → Q (.d .non) [] := fun e => by
    have z := hQ
    simp only [e, resO] at z
    exact z
  clear hQ
  unfold m_check_orders
  refine seq_step fun k1 hk1 => if_step fun kb kt kf => ?_
  have nt : isB .tup [] v = some false ∧ slipI v = some .non ∨ ∃ ds, v = .tup ds := by
    cases v with
    | tup ds => exact .inr ⟨ds, rfl⟩
    | ins C fs => exact hv.elim
    | _ => exact .inl ⟨rfl, rfl⟩
  rcases nt with ⟨e, ep⟩ | ⟨ds, rfl⟩
  · simp only [e, Bool.not_false, entry, lend, jr, List.map_cons, List.map_nil, List.length_cons, List.length_nil, List.replicate_succ, List.replicate_zero, List.cons_append, List.nil_append, List.append_nil, Nat.reduceAdd, Nat.reduceSub, Nat.reduceMul, Nat.zero_add, dNext, dSet, dSetO, dPut, dPar, dPar3, dParOD, dParOO, dParDO, dRet, dRetO, dRetN, dDrop, dBin, dUn, dC, dVar, dCB, dCBO, daCons, daNil, daLend, dats, one, two, oneO, dIxO, dOwn1, dOwn2, fIx, fLen, dBl, dTru, dNot, dAnd, dOr, dAndV, dOrV, dNotV, dChain, dFr, dTup, dLst, dApp, dPopAt, dFor, diRng1, diRng2, diAny, gN, items, itemsD, oAdd, oSub, oMul, oDiv, oMod, oPow, oNeg, oCmp, oLt, oLe, oGt, oGe, oEq, oNe, oIn, oIsN, oNotN, isN, oIx, oLen, lenD, oInt, oAbs, oInts, oBool, oTuple, oAll, oAny, oSum, oSumA, oSl, dSl, pNo, pSo, oSorted, oList, oJoin, dMt1, dCall, dCallO, dCallT, argsOf, lent, opt, truth, MO.toD, Rv.toD, putOuts, putMO, List.getElem?_cons_zero, List.getElem?_cons_succ, List.set_cons_zero, List.set_cons_succ, Option.map_some, dIsi, dNo, at0, at1, at2, ix30, ix31, ix32, dComp, dYes, wipeD, back, dMake, dMeth, dLenSetS, oInD, dDict0, dDPut, dGet, dPar3DDO, dProp, dFld, dFldO, dFldSet, dSortSet, daKw, decide_eq_true_eq, shI, shS, shB, shN, eqI, eqS, true_and, List.contains_nil, beq_iff_eq, ↓reduceIte, Bool.false_eq_true]
    refine kt _ ?_
    simp only [dRaise, entry, lend, jr, List.map_cons, List.map_nil, List.length_cons, List.length_nil, List.replicate_succ, List.replicate_zero, List.cons_append, List.nil_append, List.append_nil, Nat.reduceAdd, Nat.reduceSub, Nat.reduceMul, Nat.zero_add, dNext, dSet, dSetO, dPut, dPar, dPar3, dParOD, dParOO, dParDO, dRet, dRetO, dRetN, dDrop, dBin, dUn, dC, dVar, dCB, dCBO, daCons, daNil, daLend, dats, one, two, oneO, dIxO, dOwn1, dOwn2, fIx, fLen, dBl, dTru, dNot, dAnd, dOr, dAndV, dOrV, dNotV, dChain, dFr, dTup, dLst, dApp, dPopAt, dFor, diRng1, diRng2, diAny, gN, items, itemsD, oAdd, oSub, oMul, oDiv, oMod, oPow, oNeg, oCmp, oLt, oLe, oGt, oGe, oEq, oNe, oIn, oIsN, oNotN, isN, oIx, oLen, lenD, oInt, oAbs, oInts, oBool, oTuple, oAll, oAny, oSum, oSumA, oSl, dSl, pNo, pSo, oSorted, oList, oJoin, dMt1, dCall, dCallO, dCallT, argsOf, lent, opt, truth, MO.toD, Rv.toD, putOuts, putMO, List.getElem?_cons_zero, List.getElem?_cons_succ, List.set_cons_zero, List.set_cons_succ, Option.map_some, dIsi, dNo, at0, at1, at2, ix30, ix31, ix32, dComp, dYes, wipeD, back, dMake, dMeth, dLenSetS, oInD, dDict0, dDPut, dGet, dPar3DDO, dProp, dFld, dFldO, dFldSet, dSortSet, daKw, decide_eq_true_eq, shI, shS, shB, shN, eqI, eqS, true_and, List.contains_nil, beq_iff_eq, ↓reduceIte, Bool.false_eq_true]
    exact bad _ ep
  · obtain ⟨hlen, hds⟩ : ds.length ≤ 1000 ∧ ∀ d ∈ ds, noIns d := hv
    simp only [isB_tup, Bool.not_true, oEqU, entry, lend, jr, List.map_cons, List.map_nil, List.length_cons, List.length_nil, List.replicate_succ, List.replicate_zero, List.cons_append, List.nil_append, List.append_nil, Nat.reduceAdd, Nat.reduceSub, Nat.reduceMul, Nat.zero_add, dNext, dSet, dSetO, dPut, dPar, dPar3, dParOD, dParOO, dParDO, dRet, dRetO, dRetN, dDrop, dBin, dUn, dC, dVar, dCB, dCBO, daCons, daNil, daLend, dats, one, two, oneO, dIxO, dOwn1, dOwn2, fIx, fLen, dBl, dTru, dNot, dAnd, dOr, dAndV, dOrV, dNotV, dChain, dFr, dTup, dLst, dApp, dPopAt, dFor, diRng1, diRng2, diAny, gN, items, itemsD, oAdd, oSub, oMul, oDiv, oMod, oPow, oNeg, oCmp, oLt, oLe, oGt, oGe, oEq, oNe, oIn, oIsN, oNotN, isN, oIx, oLen, lenD, oInt, oAbs, oInts, oBool, oTuple, oAll, oAny, oSum, oSumA, oSl, dSl, pNo, pSo, oSorted, oList, oJoin, dMt1, dCall, dCallO, dCallT, argsOf, lent, opt, truth, MO.toD, Rv.toD, putOuts, putMO, List.getElem?_cons_zero, List.getElem?_cons_succ, List.set_cons_zero, List.set_cons_succ, Option.map_some, dIsi, dNo, at0, at1, at2, ix30, ix31, ix32, dComp, dYes, wipeD, back, dMake, dMeth, dLenSetS, oInD, dDict0, dDPut, dGet, dPar3DDO, dProp, dFld, dFldO, dFldSet, dSortSet, daKw, decide_eq_true_eq, shI, shS, shB, shN, eqI, eqS, true_and, List.contains_nil, beq_iff_eq, ↓reduceIte, Bool.false_eq_true]
    by_cases hE : ds.isEmpty = true
    · rw [hE]
      refine ⟨Nat.zero_le _, kt _ ?_⟩
      simp only [dRaise, entry, lend, jr, List.map_cons, List.map_nil, List.length_cons, List.length_nil, List.replicate_succ, List.replicate_zero, List.cons_append, List.nil_append, List.append_nil, Nat.reduceAdd, Nat.reduceSub, Nat.reduceMul, Nat.zero_add, dNext, dSet, dSetO, dPut, dPar, dPar3, dParOD, dParOO, dParDO, dRet, dRetO, dRetN, dDrop, dBin, dUn, dC, dVar, dCB, dCBO, daCons, daNil, daLend, dats, one, two, oneO, dIxO, dOwn1, dOwn2, fIx, fLen, dBl, dTru, dNot, dAnd, dOr, dAndV, dOrV, dNotV, dChain, dFr, dTup, dLst, dApp, dPopAt, dFor, diRng1, diRng2, diAny, gN, items, itemsD, oAdd, oSub, oMul, oDiv, oMod, oPow, oNeg, oCmp, oLt, oLe, oGt, oGe, oEq, oNe, oIn, oIsN, oNotN, isN, oIx, oLen, lenD, oInt, oAbs, oInts, oBool, oTuple, oAll, oAny, oSum, oSumA, oSl, dSl, pNo, pSo, oSorted, oList, oJoin, dMt1, dCall, dCallO, dCallT, argsOf, lent, opt, truth, MO.toD, Rv.toD, putOuts, putMO, List.getElem?_cons_zero, List.getElem?_cons_succ, List.set_cons_zero, List.set_cons_succ, Option.map_some, dIsi, dNo, at0, at1, at2, ix30, ix31, ix32, dComp, dYes, wipeD, back, dMake, dMeth, dLenSetS, oInD, dDict0, dDPut, dGet, dPar3DDO, dProp, dFld, dFldO, dFldSet, dSortSet, daKw, decide_eq_true_eq, shI, shS, shB, shN, eqI, eqS, true_and, List.contains_nil, beq_iff_eq, ↓reduceIte, Bool.false_eq_true]
      refine bad _ ?_
      show (if ds.isEmpty = true then _ else _) = _
      rw [if_pos hE]
    · rw [Bool.not_eq_true] at hE
      rw [hE]
      have l0 : 0 < ds.length := by
        cases ds with
        | nil => cases hE
        | cons _ _ => simp
      refine ⟨Nat.zero_le _, kf _ ?_⟩
      simp only [entry, lend, jr, List.map_cons, List.map_nil, List.length_cons, List.length_nil, List.replicate_succ, List.replicate_zero, List.cons_append, List.nil_append, List.append_nil, Nat.reduceAdd, Nat.reduceSub, Nat.reduceMul, Nat.zero_add, dNext, dSet, dSetO, dPut, dPar, dPar3, dParOD, dParOO, dParDO, dRet, dRetO, dRetN, dDrop, dBin, dUn, dC, dVar, dCB, dCBO, daCons, daNil, daLend, dats, one, two, oneO, dIxO, dOwn1, dOwn2, fIx, fLen, dBl, dTru, dNot, dAnd, dOr, dAndV, dOrV, dNotV, dChain, dFr, dTup, dLst, dApp, dPopAt, dFor, diRng1, diRng2, diAny, gN, items, itemsD, oAdd, oSub, oMul, oDiv, oMod, oPow, oNeg, oCmp, oLt, oLe, oGt, oGe, oEq, oNe, oIn, oIsN, oNotN, isN, oIx, oLen, lenD, oInt, oAbs, oInts, oBool, oTuple, oAll, oAny, oSum, oSumA, oSl, dSl, pNo, pSo, oSorted, oList, oJoin, dMt1, dCall, dCallO, dCallT, argsOf, lent, opt, truth, MO.toD, Rv.toD, putOuts, putMO, List.getElem?_cons_zero, List.getElem?_cons_succ, List.set_cons_zero, List.set_cons_succ, Option.map_some, dIsi, dNo, at0, at1, at2, ix30, ix31, ix32, dComp, dYes, wipeD, back, dMake, dMeth, dLenSetS, oInD, dDict0, dDPut, dGet, dPar3DDO, dProp, dFld, dFldO, dFldSet, dSortSet, daKw, decide_eq_true_eq, shI, shS, shB, shN, eqI, eqS, true_and, List.contains_nil, beq_iff_eq, ↓reduceIte, Bool.false_eq_true]
      refine hk1 _ ?_
      simp only [entry, lend, jr, List.map_cons, List.map_nil, List.length_cons, List.length_nil, List.replicate_succ, List.replicate_zero, List.cons_append, List.nil_append, List.append_nil, Nat.reduceAdd, Nat.reduceSub, Nat.reduceMul, Nat.zero_add, dNext, dSet, dSetO, dPut, dPar, dPar3, dParOD, dParOO, dParDO, dRet, dRetO, dRetN, dDrop, dBin, dUn, dC, dVar, dCB, dCBO, daCons, daNil, daLend, dats, one, two, oneO, dIxO, dOwn1, dOwn2, fIx, fLen, dBl, dTru, dNot, dAnd, dOr, dAndV, dOrV, dNotV, dChain, dFr, dTup, dLst, dApp, dPopAt, dFor, diRng1, diRng2, diAny, gN, items, itemsD, oAdd, oSub, oMul, oDiv, oMod, oPow, oNeg, oCmp, oLt, oLe, oGt, oGe, oEq, oNe, oIn, oIsN, oNotN, isN, oIx, oLen, lenD, oInt, oAbs, oInts, oBool, oTuple, oAll, oAny, oSum, oSumA, oSl, dSl, pNo, pSo, oSorted, oList, oJoin, dMt1, dCall, dCallO, dCallT, argsOf, lent, opt, truth, MO.toD, Rv.toD, putOuts, putMO, List.getElem?_cons_zero, List.getElem?_cons_succ, List.set_cons_zero, List.set_cons_succ, Option.map_some, dIsi, dNo, at0, at1, at2, ix30, ix31, ix32, dComp, dYes, wipeD, back, dMake, dMeth, dLenSetS, oInD, dDict0, dDPut, dGet, dPar3DDO, dProp, dFld, dFldO, dFldSet, dSortSet, daKw, decide_eq_true_eq, shI, shS, shB, shN, eqI, eqS, true_and, List.contains_nil, beq_iff_eq, ↓reduceIte, Bool.false_eq_true]
      refine ⟨by omega, by omega, ?_⟩
      rw [Int.toNat_natCast]
      refine loop_range 0 ds.length (fun i ρ => (∀ j, j < i → fineR ds j = true) ∧ ∃ s1, ρ = [.dat (.tup ds), s1]) ⟨nofun, _, rfl⟩ ?_ ?_
      · rintro i ρ k hi ⟨hb, s1, rfl⟩ hk
        have ea : L2.atI ds (i : Int) = some ds[i] := atD hi
        have stop : fineR ds i = false → U (xOrders K (.int i)) [] := fun q => bad _ (by rw [slip_ne l0, badR_some hi hb q]; rfl)
        have go : fineR ds i = true → k [.dat (.tup ds), .dat (.int i)] := fun q => hk _ ⟨fun j hj => by
          by_cases e : j = i
          · rw [e]; exact q
          · exact hb j (by omega), _, rfl⟩
        have hd := hds _ (List.getElem_mem hi)
        rw [fineR_at hi] at stop go
        refine seq_step fun k2 hk2 => if_step fun kb kt kf => ?_
        simp only [gN, Int.zero_add, entry, lend, jr, List.map_cons, List.map_nil, List.length_cons, List.length_nil, List.replicate_succ, List.replicate_zero, List.cons_append, List.nil_append, List.append_nil, Nat.reduceAdd, Nat.reduceSub, Nat.reduceMul, Nat.zero_add, dNext, dSet, dSetO, dPut, dPar, dPar3, dParOD, dParOO, dParDO, dRet, dRetO, dRetN, dDrop, dBin, dUn, dC, dVar, dCB, dCBO, daCons, daNil, daLend, dats, one, two, oneO, dIxO, dOwn1, dOwn2, fIx, fLen, dBl, dTru, dNot, dAnd, dOr, dAndV, dOrV, dNotV, dChain, dFr, dTup, dLst, dApp, dPopAt, dFor, diRng1, diRng2, diAny, gN, items, itemsD, oAdd, oSub, oMul, oDiv, oMod, oPow, oNeg, oCmp, oLt, oLe, oGt, oGe, oEq, oNe, oIn, oIsN, oNotN, isN, oIx, oLen, lenD, oInt, oAbs, oInts, oBool, oTuple, oAll, oAny, oSum, oSumA, oSl, dSl, pNo, pSo, oSorted, oList, oJoin, dMt1, dCall, dCallO, dCallT, argsOf, lent, opt, truth, MO.toD, Rv.toD, putOuts, putMO, List.getElem?_cons_zero, List.getElem?_cons_succ, List.set_cons_zero, List.set_cons_succ, Option.map_some, dIsi, dNo, at0, at1, at2, ix30, ix31, ix32, dComp, dYes, wipeD, back, dMake, dMeth, dLenSetS, oInD, dDict0, dDPut, dGet, dPar3DDO, dProp, dFld, dFldO, dFldSet, dSortSet, daKw, decide_eq_true_eq, shI, shS, shB, shN, eqI, eqS, true_and, List.contains_nil, beq_iff_eq, ↓reduceIte, Bool.false_eq_true]
        by_cases e48 : i = 48
        · rw [if_pos (by omega)]
          rw [beq_iff_eq.mpr e48] at stop
          refine kt _ ?_
          simp only [dRaise, entry, lend, jr, List.map_cons, List.map_nil, List.length_cons, List.length_nil, List.replicate_succ, List.replicate_zero, List.cons_append, List.nil_append, List.append_nil, Nat.reduceAdd, Nat.reduceSub, Nat.reduceMul, Nat.zero_add, dNext, dSet, dSetO, dPut, dPar, dPar3, dParOD, dParOO, dParDO, dRet, dRetO, dRetN, dDrop, dBin, dUn, dC, dVar, dCB, dCBO, daCons, daNil, daLend, dats, one, two, oneO, dIxO, dOwn1, dOwn2, fIx, fLen, dBl, dTru, dNot, dAnd, dOr, dAndV, dOrV, dNotV, dChain, dFr, dTup, dLst, dApp, dPopAt, dFor, diRng1, diRng2, diAny, gN, items, itemsD, oAdd, oSub, oMul, oDiv, oMod, oPow, oNeg, oCmp, oLt, oLe, oGt, oGe, oEq, oNe, oIn, oIsN, oNotN, isN, oIx, oLen, lenD, oInt, oAbs, oInts, oBool, oTuple, oAll, oAny, oSum, oSumA, oSl, dSl, pNo, pSo, oSorted, oList, oJoin, dMt1, dCall, dCallO, dCallT, argsOf, lent, opt, truth, MO.toD, Rv.toD, putOuts, putMO, List.getElem?_cons_zero, List.getElem?_cons_succ, List.set_cons_zero, List.set_cons_succ, Option.map_some, dIsi, dNo, at0, at1, at2, ix30, ix31, ix32, dComp, dYes, wipeD, back, dMake, dMeth, dLenSetS, oInD, dDict0, dDPut, dGet, dPar3DDO, dProp, dFld, dFldO, dFldSet, dSortSet, daKw, decide_eq_true_eq, shI, shS, shB, shN, eqI, eqS, true_and, List.contains_nil, beq_iff_eq, ↓reduceIte, Bool.false_eq_true]
          exact stop rfl
        · rw [if_neg (by omega)]
          rw [beq_eq_false_iff_ne.mpr e48, Bool.not_false, Bool.true_and] at stop go
          simp only [ea, entry, lend, jr, List.map_cons, List.map_nil, List.length_cons, List.length_nil, List.replicate_succ, List.replicate_zero, List.cons_append, List.nil_append, List.append_nil, Nat.reduceAdd, Nat.reduceSub, Nat.reduceMul, Nat.zero_add, dNext, dSet, dSetO, dPut, dPar, dPar3, dParOD, dParOO, dParDO, dRet, dRetO, dRetN, dDrop, dBin, dUn, dC, dVar, dCB, dCBO, daCons, daNil, daLend, dats, one, two, oneO, dIxO, dOwn1, dOwn2, fIx, fLen, dBl, dTru, dNot, dAnd, dOr, dAndV, dOrV, dNotV, dChain, dFr, dTup, dLst, dApp, dPopAt, dFor, diRng1, diRng2, diAny, gN, items, itemsD, oAdd, oSub, oMul, oDiv, oMod, oPow, oNeg, oCmp, oLt, oLe, oGt, oGe, oEq, oNe, oIn, oIsN, oNotN, isN, oIx, oLen, lenD, oInt, oAbs, oInts, oBool, oTuple, oAll, oAny, oSum, oSumA, oSl, dSl, pNo, pSo, oSorted, oList, oJoin, dMt1, dCall, dCallO, dCallT, argsOf, lent, opt, truth, MO.toD, Rv.toD, putOuts, putMO, List.getElem?_cons_zero, List.getElem?_cons_succ, List.set_cons_zero, List.set_cons_succ, Option.map_some, dIsi, dNo, at0, at1, at2, ix30, ix31, ix32, dComp, dYes, wipeD, back, dMake, dMeth, dLenSetS, oInD, dDict0, dDPut, dGet, dPar3DDO, dProp, dFld, dFldO, dFldSet, dSortSet, daKw, decide_eq_true_eq, shI, shS, shB, shN, eqI, eqS, true_and, List.contains_nil, beq_iff_eq, ↓reduceIte, Bool.false_eq_true]
          refine use_F (A := fun d : Dt => [.dat d]) (C := noIns) ds[i] hd ?_
          cases ho : areL ds[i] 3 6 with
          | false =>
            have e2 : isOO (lsO (ds.headD .non)) ds[i] = false := by
              cases q : isOO (lsO (ds.headD .non)) ds[i] with
              | false => rfl
              | true => rw [isOO_areL q] at ho; cases ho
            rw [e2] at stop
            simp only [ho, Bool.not_false, entry, lend, jr, List.map_cons, List.map_nil, List.length_cons, List.length_nil, List.replicate_succ, List.replicate_zero, List.cons_append, List.nil_append, List.append_nil, Nat.reduceAdd, Nat.reduceSub, Nat.reduceMul, Nat.zero_add, dNext, dSet, dSetO, dPut, dPar, dPar3, dParOD, dParOO, dParDO, dRet, dRetO, dRetN, dDrop, dBin, dUn, dC, dVar, dCB, dCBO, daCons, daNil, daLend, dats, one, two, oneO, dIxO, dOwn1, dOwn2, fIx, fLen, dBl, dTru, dNot, dAnd, dOr, dAndV, dOrV, dNotV, dChain, dFr, dTup, dLst, dApp, dPopAt, dFor, diRng1, diRng2, diAny, gN, items, itemsD, oAdd, oSub, oMul, oDiv, oMod, oPow, oNeg, oCmp, oLt, oLe, oGt, oGe, oEq, oNe, oIn, oIsN, oNotN, isN, oIx, oLen, lenD, oInt, oAbs, oInts, oBool, oTuple, oAll, oAny, oSum, oSumA, oSl, dSl, pNo, pSo, oSorted, oList, oJoin, dMt1, dCall, dCallO, dCallT, argsOf, lent, opt, truth, MO.toD, Rv.toD, putOuts, putMO, List.getElem?_cons_zero, List.getElem?_cons_succ, List.set_cons_zero, List.set_cons_succ, Option.map_some, dIsi, dNo, at0, at1, at2, ix30, ix31, ix32, dComp, dYes, wipeD, back, dMake, dMeth, dLenSetS, oInD, dDict0, dDPut, dGet, dPar3DDO, dProp, dFld, dFldO, dFldSet, dSortSet, daKw, decide_eq_true_eq, shI, shS, shB, shN, eqI, eqS, true_and, List.contains_nil, beq_iff_eq, ↓reduceIte, Bool.false_eq_true]
            refine kt _ ?_
            simp only [dRaise, entry, lend, jr, List.map_cons, List.map_nil, List.length_cons, List.length_nil, List.replicate_succ, List.replicate_zero, List.cons_append, List.nil_append, List.append_nil, Nat.reduceAdd, Nat.reduceSub, Nat.reduceMul, Nat.zero_add, dNext, dSet, dSetO, dPut, dPar, dPar3, dParOD, dParOO, dParDO, dRet, dRetO, dRetN, dDrop, dBin, dUn, dC, dVar, dCB, dCBO, daCons, daNil, daLend, dats, one, two, oneO, dIxO, dOwn1, dOwn2, fIx, fLen, dBl, dTru, dNot, dAnd, dOr, dAndV, dOrV, dNotV, dChain, dFr, dTup, dLst, dApp, dPopAt, dFor, diRng1, diRng2, diAny, gN, items, itemsD, oAdd, oSub, oMul, oDiv, oMod, oPow, oNeg, oCmp, oLt, oLe, oGt, oGe, oEq, oNe, oIn, oIsN, oNotN, isN, oIx, oLen, lenD, oInt, oAbs, oInts, oBool, oTuple, oAll, oAny, oSum, oSumA, oSl, dSl, pNo, pSo, oSorted, oList, oJoin, dMt1, dCall, dCallO, dCallT, argsOf, lent, opt, truth, MO.toD, Rv.toD, putOuts, putMO, List.getElem?_cons_zero, List.getElem?_cons_succ, List.set_cons_zero, List.set_cons_succ, Option.map_some, dIsi, dNo, at0, at1, at2, ix30, ix31, ix32, dComp, dYes, wipeD, back, dMake, dMeth, dLenSetS, oInD, dDict0, dDPut, dGet, dPar3DDO, dProp, dFld, dFldO, dFldSet, dSortSet, daKw, decide_eq_true_eq, shI, shS, shB, shN, eqI, eqS, true_and, List.contains_nil, beq_iff_eq, ↓reduceIte, Bool.false_eq_true]
            exact stop rfl
          | true =>
            obtain ⟨M, eM, lM⟩ := areL_len ho
            obtain ⟨M0, e0, l0M⟩ : ∃ M0, ds[0] = .str M0 ∧ M0.length ≤ 6 := by
              by_cases z : i = 0
              · subst z; exact ⟨M, eM, lM⟩
              · exact fine_str l0 (hb 0 (by omega))
            have a0 : L2.atI ds 0 = some (.str M0) := by
              have := atD l0
              rw [e0] at this
              exact this
            rw [headD_at l0, e0, eM] at stop go
            rw [eM] at ea ho hd
            simp only [ho, Bool.not_true, entry, lend, jr, List.map_cons, List.map_nil, List.length_cons, List.length_nil, List.replicate_succ, List.replicate_zero, List.cons_append, List.nil_append, List.append_nil, Nat.reduceAdd, Nat.reduceSub, Nat.reduceMul, Nat.zero_add, dNext, dSet, dSetO, dPut, dPar, dPar3, dParOD, dParOO, dParDO, dRet, dRetO, dRetN, dDrop, dBin, dUn, dC, dVar, dCB, dCBO, daCons, daNil, daLend, dats, one, two, oneO, dIxO, dOwn1, dOwn2, fIx, fLen, dBl, dTru, dNot, dAnd, dOr, dAndV, dOrV, dNotV, dChain, dFr, dTup, dLst, dApp, dPopAt, dFor, diRng1, diRng2, diAny, gN, items, itemsD, oAdd, oSub, oMul, oDiv, oMod, oPow, oNeg, oCmp, oLt, oLe, oGt, oGe, oEq, oNe, oIn, oIsN, oNotN, isN, oIx, oLen, lenD, oInt, oAbs, oInts, oBool, oTuple, oAll, oAny, oSum, oSumA, oSl, dSl, pNo, pSo, oSorted, oList, oJoin, dMt1, dCall, dCallO, dCallT, argsOf, lent, opt, truth, MO.toD, Rv.toD, putOuts, putMO, List.getElem?_cons_zero, List.getElem?_cons_succ, List.set_cons_zero, List.set_cons_succ, Option.map_some, dIsi, dNo, at0, at1, at2, ix30, ix31, ix32, dComp, dYes, wipeD, back, dMake, dMeth, dLenSetS, oInD, dDict0, dDPut, dGet, dPar3DDO, dProp, dFld, dFldO, dFldSet, dSortSet, daKw, decide_eq_true_eq, shI, shS, shB, shN, eqI, eqS, true_and, List.contains_nil, beq_iff_eq, ↓reduceIte, Bool.false_eq_true]
            refine kf _ ?_
            simp only [entry, lend, jr, List.map_cons, List.map_nil, List.length_cons, List.length_nil, List.replicate_succ, List.replicate_zero, List.cons_append, List.nil_append, List.append_nil, Nat.reduceAdd, Nat.reduceSub, Nat.reduceMul, Nat.zero_add, dNext, dSet, dSetO, dPut, dPar, dPar3, dParOD, dParOO, dParDO, dRet, dRetO, dRetN, dDrop, dBin, dUn, dC, dVar, dCB, dCBO, daCons, daNil, daLend, dats, one, two, oneO, dIxO, dOwn1, dOwn2, fIx, fLen, dBl, dTru, dNot, dAnd, dOr, dAndV, dOrV, dNotV, dChain, dFr, dTup, dLst, dApp, dPopAt, dFor, diRng1, diRng2, diAny, gN, items, itemsD, oAdd, oSub, oMul, oDiv, oMod, oPow, oNeg, oCmp, oLt, oLe, oGt, oGe, oEq, oNe, oIn, oIsN, oNotN, isN, oIx, oLen, lenD, oInt, oAbs, oInts, oBool, oTuple, oAll, oAny, oSum, oSumA, oSl, dSl, pNo, pSo, oSorted, oList, oJoin, dMt1, dCall, dCallO, dCallT, argsOf, lent, opt, truth, MO.toD, Rv.toD, putOuts, putMO, List.getElem?_cons_zero, List.getElem?_cons_succ, List.set_cons_zero, List.set_cons_succ, Option.map_some, dIsi, dNo, at0, at1, at2, ix30, ix31, ix32, dComp, dYes, wipeD, back, dMake, dMeth, dLenSetS, oInD, dDict0, dDPut, dGet, dPar3DDO, dProp, dFld, dFldO, dFldSet, dSortSet, daKw, decide_eq_true_eq, shI, shS, shB, shN, eqI, eqS, true_and, List.contains_nil, beq_iff_eq, ↓reduceIte, Bool.false_eq_true]
            refine hk2 _ (if_step fun kb kt kf => ?_)
            simp only [ea, a0, entry, lend, jr, List.map_cons, List.map_nil, List.length_cons, List.length_nil, List.replicate_succ, List.replicate_zero, List.cons_append, List.nil_append, List.append_nil, Nat.reduceAdd, Nat.reduceSub, Nat.reduceMul, Nat.zero_add, dNext, dSet, dSetO, dPut, dPar, dPar3, dParOD, dParOO, dParDO, dRet, dRetO, dRetN, dDrop, dBin, dUn, dC, dVar, dCB, dCBO, daCons, daNil, daLend, dats, one, two, oneO, dIxO, dOwn1, dOwn2, fIx, fLen, dBl, dTru, dNot, dAnd, dOr, dAndV, dOrV, dNotV, dChain, dFr, dTup, dLst, dApp, dPopAt, dFor, diRng1, diRng2, diAny, gN, items, itemsD, oAdd, oSub, oMul, oDiv, oMod, oPow, oNeg, oCmp, oLt, oLe, oGt, oGe, oEq, oNe, oIn, oIsN, oNotN, isN, oIx, oLen, lenD, oInt, oAbs, oInts, oBool, oTuple, oAll, oAny, oSum, oSumA, oSl, dSl, pNo, pSo, oSorted, oList, oJoin, dMt1, dCall, dCallO, dCallT, argsOf, lent, opt, truth, MO.toD, Rv.toD, putOuts, putMO, List.getElem?_cons_zero, List.getElem?_cons_succ, List.set_cons_zero, List.set_cons_succ, Option.map_some, dIsi, dNo, at0, at1, at2, ix30, ix31, ix32, dComp, dYes, wipeD, back, dMake, dMeth, dLenSetS, oInD, dDict0, dDPut, dGet, dPar3DDO, dProp, dFld, dFldO, dFldSet, dSortSet, daKw, decide_eq_true_eq, shI, shS, shB, shN, eqI, eqS, true_and, List.contains_nil, beq_iff_eq, ↓reduceIte, Bool.false_eq_true]
            refine use_F (A := fun x : List Nat × Dt => [.dat (.str x.1), .dat x.2]) (C := fun x => x.1.length < 64 ∧ noIns x.2) (M0, Dt.str M) ⟨by show M0.length < 64; omega, hd⟩ ?_
            simp only [lsO] at stop go
            have stopR : (isOO M0 (.str M) && (i == 0 || ltO (ds.getD (i - 1) .non) (.str M))) = false → kb true [.dat (.tup ds), .dat (.int i)] := fun q => by
              refine kt _ ?_
              simp only [dRaise, entry, lend, jr, List.map_cons, List.map_nil, List.length_cons, List.length_nil, List.replicate_succ, List.replicate_zero, List.cons_append, List.nil_append, List.append_nil, Nat.reduceAdd, Nat.reduceSub, Nat.reduceMul, Nat.zero_add, dNext, dSet, dSetO, dPut, dPar, dPar3, dParOD, dParOO, dParDO, dRet, dRetO, dRetN, dDrop, dBin, dUn, dC, dVar, dCB, dCBO, daCons, daNil, daLend, dats, one, two, oneO, dIxO, dOwn1, dOwn2, fIx, fLen, dBl, dTru, dNot, dAnd, dOr, dAndV, dOrV, dNotV, dChain, dFr, dTup, dLst, dApp, dPopAt, dFor, diRng1, diRng2, diAny, gN, items, itemsD, oAdd, oSub, oMul, oDiv, oMod, oPow, oNeg, oCmp, oLt, oLe, oGt, oGe, oEq, oNe, oIn, oIsN, oNotN, isN, oIx, oLen, lenD, oInt, oAbs, oInts, oBool, oTuple, oAll, oAny, oSum, oSumA, oSl, dSl, pNo, pSo, oSorted, oList, oJoin, dMt1, dCall, dCallO, dCallT, argsOf, lent, opt, truth, MO.toD, Rv.toD, putOuts, putMO, List.getElem?_cons_zero, List.getElem?_cons_succ, List.set_cons_zero, List.set_cons_succ, Option.map_some, dIsi, dNo, at0, at1, at2, ix30, ix31, ix32, dComp, dYes, wipeD, back, dMake, dMeth, dLenSetS, oInD, dDict0, dDPut, dGet, dPar3DDO, dProp, dFld, dFldO, dFldSet, dSortSet, daKw, decide_eq_true_eq, shI, shS, shB, shN, eqI, eqS, true_and, List.contains_nil, beq_iff_eq, ↓reduceIte, Bool.false_eq_true]
              exact stop q
            have goR : (isOO M0 (.str M) && (i == 0 || ltO (ds.getD (i - 1) .non) (.str M))) = true → kb false [.dat (.tup ds), .dat (.int i)] := fun q => by
              refine kf _ ?_
              simp only [entry, lend, jr, List.map_cons, List.map_nil, List.length_cons, List.length_nil, List.replicate_succ, List.replicate_zero, List.cons_append, List.nil_append, List.append_nil, Nat.reduceAdd, Nat.reduceSub, Nat.reduceMul, Nat.zero_add, dSeq, dNext, dSet, dSetO, dPut, dPar, dPar3, dParOD, dParOO, dParDO, dIfS, dRet, dRetO, dRetN, dDrop, dBin, dUn, dC, dVar, dCB, dCBO, daCons, daNil, daLend, dats, one, two, oneO, dIxO, dOwn1, dOwn2, fIx, fLen, dBl, dTru, dNot, dAnd, dOr, dIf, dAndV, dOrV, dNotV, dChain, dFr, dTup, dLst, dApp, dPopAt, dFor, diRng1, diRng2, diAny, gN, items, itemsD, oAdd, oSub, oMul, oDiv, oMod, oPow, oNeg, oCmp, oLt, oLe, oGt, oGe, oEq, oNe, oIn, oIsN, oNotN, isN, oIx, oLen, lenD, oInt, oAbs, oInts, oBool, oTuple, oAll, oAny, oSum, oSumA, oSl, dSl, pNo, pSo, oSorted, oList, oJoin, dMt1, dCall, dCallO, dCallT, argsOf, lent, opt, truth, MO.toD, Rv.toD, putOuts, putMO, List.getElem?_cons_zero, List.getElem?_cons_succ, List.set_cons_zero, List.set_cons_succ, Option.map_some, dIsi, dNo, at0, at1, at2, ix30, ix31, ix32, ends, outW, dComp, dYes, wipeD, back, dMake, dMeth, dLenSetS, oInD, dDict0, dDPut, dGet, dPar3DDO, dProp, dFld, dFldO, dFldSet, dSortSet, daKw, decide_eq_true_eq, shI, shS, shB, shN, eqI, eqS, true_and, List.contains_nil, beq_iff_eq, ↓reduceIte, Bool.false_eq_true]
              exact go q
            cases hoo : isOO M0 (.str M) with
            | false =>
              rw [hoo, Bool.false_and] at stopR
              exact stopR rfl
            | true =>
              rw [hoo, Bool.true_and] at stopR goR
              refine ite_no (by decide) ?_
              by_cases i0 : i = 0
              · rw [if_neg (by omega)]
                exact goR (by rw [beq_iff_eq.mpr i0]; rfl)
              · rw [if_pos (by omega)]
                have im : ((i : Int) - 1) = ((i - 1 : Nat) : Int) := by omega
                obtain ⟨M1, e1, _⟩ := fine_str (show i - 1 < ds.length by omega) (hb (i - 1) (by omega))
                have a1 := atD (show i - 1 < ds.length by omega)
                rw [← im, e1] at a1
                have g1 : ds.getD (i - 1) .non = .str M1 := by
                  rw [List.getD_eq_getElem?_getD, List.getElem?_eq_getElem (show i - 1 < ds.length by omega), e1]
                  rfl
                rw [g1, beq_eq_false_iff_ne.mpr i0, Bool.false_or] at stopR goR
                simp only [a1, entry, lend, jr, List.map_cons, List.map_nil, List.length_cons, List.length_nil, List.replicate_succ, List.replicate_zero, List.cons_append, List.nil_append, List.append_nil, Nat.reduceAdd, Nat.reduceSub, Nat.reduceMul, Nat.zero_add, dNext, dSet, dSetO, dPut, dPar, dPar3, dParOD, dParOO, dParDO, dRet, dRetO, dRetN, dDrop, dBin, dUn, dC, dVar, dCB, dCBO, daCons, daNil, daLend, dats, one, two, oneO, dIxO, dOwn1, dOwn2, fIx, fLen, dBl, dTru, dNot, dAnd, dOr, dAndV, dOrV, dNotV, dChain, dFr, dTup, dLst, dApp, dPopAt, dFor, diRng1, diRng2, diAny, gN, items, itemsD, oAdd, oSub, oMul, oDiv, oMod, oPow, oNeg, oCmp, oLt, oLe, oGt, oGe, oEq, oNe, oIn, oIsN, oNotN, isN, oIx, oLen, lenD, oInt, oAbs, oInts, oBool, oTuple, oAll, oAny, oSum, oSumA, oSl, dSl, pNo, pSo, oSorted, oList, oJoin, dMt1, dCall, dCallO, dCallT, argsOf, lent, opt, truth, MO.toD, Rv.toD, putOuts, putMO, List.getElem?_cons_zero, List.getElem?_cons_succ, List.set_cons_zero, List.set_cons_succ, Option.map_some, dIsi, dNo, at0, at1, at2, ix30, ix31, ix32, dComp, dYes, wipeD, back, dMake, dMeth, dLenSetS, oInD, dDict0, dDPut, dGet, dPar3DDO, dProp, dFld, dFldO, dFldSet, dSortSet, daKw, decide_eq_true_eq, shI, shS, shB, shN, eqI, eqS, true_and, List.contains_nil, beq_iff_eq, ↓reduceIte, Bool.false_eq_true]
                simp only [ltO] at stopR goR
                cases lt : decide (M1 < M) with
                | false => exact stopR lt
                | true => exact goR lt
      · rintro ρ ⟨hb, s1, rfl⟩
        simp only [entry, lend, jr, List.map_cons, List.map_nil, List.length_cons, List.length_nil, List.replicate_succ, List.replicate_zero, List.cons_append, List.nil_append, List.append_nil, Nat.reduceAdd, Nat.reduceSub, Nat.reduceMul, Nat.zero_add, dSeq, dNext, dSet, dSetO, dPut, dPar, dPar3, dParOD, dParOO, dParDO, dIfS, dRet, dRetO, dRetN, dDrop, dBin, dUn, dC, dVar, dCB, dCBO, daCons, daNil, daLend, dats, one, two, oneO, dIxO, dOwn1, dOwn2, fIx, fLen, dBl, dTru, dNot, dAnd, dOr, dIf, dAndV, dOrV, dNotV, dChain, dFr, dTup, dLst, dApp, dPopAt, dFor, diRng1, diRng2, diAny, gN, items, itemsD, oAdd, oSub, oMul, oDiv, oMod, oPow, oNeg, oCmp, oLt, oLe, oGt, oGe, oEq, oNe, oIn, oIsN, oNotN, isN, oIx, oLen, lenD, oInt, oAbs, oInts, oBool, oTuple, oAll, oAny, oSum, oSumA, oSl, dSl, pNo, pSo, oSorted, oList, oJoin, dMt1, dCall, dCallO, dCallT, argsOf, lent, opt, truth, MO.toD, Rv.toD, putOuts, putMO, List.getElem?_cons_zero, List.getElem?_cons_succ, List.set_cons_zero, List.set_cons_succ, Option.map_some, dIsi, dNo, at0, at1, at2, ix30, ix31, ix32, ends, outW, dComp, dYes, wipeD, back, dMake, dMeth, dLenSetS, oInD, dDict0, dDPut, dGet, dPar3DDO, dProp, dFld, dFldO, dFldSet, dSortSet, daKw, decide_eq_true_eq, shI, shS, shB, shN, eqI, eqS, true_and, List.contains_nil, beq_iff_eq, ↓reduceIte, Bool.false_eq_true]
        exact good (by rw [slip_ne l0, badR_none hb]; rfl)
theorem math_Roll_init (K : PySem.W.Frag) : ∀ args Q U, sp_Roll_init K args Q U → m_Roll_init K (ends args Q U) (entry (List.length N_Roll_init) args) := by
  rintro args Q U ⟨⟨⟨b, p⟩, v⟩, rfl, hv, hQ⟩
  have hv : Tp v := hv
  unfold m_Roll_init
  refine seq_step fun k1 hk1 => ?_
  simp only [entry, lend, jr, List.map_cons, List.map_nil, List.length_cons, List.length_nil, List.replicate_succ, List.replicate_zero, List.cons_append, List.nil_append, List.append_nil, Nat.reduceAdd, Nat.reduceSub, Nat.reduceMul, Nat.zero_add, dNext, dSet, dSetO, dPut, dPar, dPar3, dParOD, dParOO, dParDO, dRet, dRetO, dRetN, dDrop, dBin, dUn, dC, dVar, dCB, dCBO, daCons, daNil, daLend, dats, one, two, oneO, dIxO, dOwn1, dOwn2, fIx, fLen, dBl, dTru, dNot, dAnd, dOr, dAndV, dOrV, dNotV, dChain, dFr, dTup, dLst, dApp, dPopAt, dFor, diRng1, diRng2, diAny, gN, items, itemsD, oAdd, oSub, oMul, oDiv, oMod, oPow, oNeg, oCmp, oLt, oLe, oGt, oGe, oEq, oNe, oIn, oIsN, oNotN, isN, oIx, oLen, lenD, oInt, oAbs, oInts, oBool, oTuple, oAll, oAny, oSum, oSumA, oSl, dSl, pNo, pSo, oSorted, oList, oJoin, dMt1, dCall, dCallO, dCallT, argsOf, lent, opt, truth, MO.toD, Rv.toD, putOuts, putMO, List.getElem?_cons_zero, List.getElem?_cons_succ, List.set_cons_zero, List.set_cons_succ, Option.map_some, dIsi, dNo, at0, at1, at2, ix30, ix31, ix32, dComp, dYes, wipeD, back, dMake, dMeth, dLenSetS, oInD, dDict0, dDPut, dGet, dPar3DDO, dProp, dFld, dFldO, dFldSet, dSortSet, daKw, decide_eq_true_eq, shI, shS, shB, shN, eqI, eqS, true_and, List.contains_nil, beq_iff_eq, ↓reduceIte, Bool.false_eq_true]
  refine use_E (A := fun d : Dt => [.dat d]) (C := Tp) v hv ?_
  have hQ : (match resO K .non (slipI v) with
    | .inl d => Q (.d d) [.ins (He.ga K "Roll") (match slipI v with
      | none => [("lot", v)]
      | some _ => [])]
    | .inr y => U y [.ins (He.ga K "Roll") (match slipI v with
      | none => [("lot", v)]
      | some _ => [])]) := hQ
  cases e : slipI v with
  | some i =>
    rw [e] at hQ
    simp only [resO] at hQ ⊢
    simp only [entry, lend, jr, List.map_cons, List.map_nil, List.length_cons, List.length_nil, List.replicate_succ, List.replicate_zero, List.cons_append, List.nil_append, List.append_nil, Nat.reduceAdd, Nat.reduceSub, Nat.reduceMul, Nat.zero_add, dSeq, dNext, dSet, dSetO, dPut, dPar, dPar3, dParOD, dParOO, dParDO, dIfS, dRet, dRetO, dRetN, dDrop, dBin, dUn, dC, dVar, dCB, dCBO, daCons, daNil, daLend, dats, one, two, oneO, dIxO, dOwn1, dOwn2, fIx, fLen, dBl, dTru, dNot, dAnd, dOr, dIf, dAndV, dOrV, dNotV, dChain, dFr, dTup, dLst, dApp, dPopAt, dFor, diRng1, diRng2, diAny, gN, items, itemsD, oAdd, oSub, oMul, oDiv, oMod, oPow, oNeg, oCmp, oLt, oLe, oGt, oGe, oEq, oNe, oIn, oIsN, oNotN, isN, oIx, oLen, lenD, oInt, oAbs, oInts, oBool, oTuple, oAll, oAny, oSum, oSumA, oSl, dSl, pNo, pSo, oSorted, oList, oJoin, dMt1, dCall, dCallO, dCallT, argsOf, lent, opt, truth, MO.toD, Rv.toD, putOuts, putMO, List.getElem?_cons_zero, List.getElem?_cons_succ, List.set_cons_zero, List.set_cons_succ, Option.map_some, dIsi, dNo, at0, at1, at2, ix30, ix31, ix32, ends, outW, dComp, dYes, wipeD, back, dMake, dMeth, dLenSetS, oInD, dDict0, dDPut, dGet, dPar3DDO, dProp, dFld, dFldO, dFldSet, dSortSet, daKw, decide_eq_true_eq, shI, shS, shB, shN, eqI, eqS, true_and, List.contains_nil, beq_iff_eq, ↓reduceIte, Bool.false_eq_true]
    exact hQ
  | none =>
    rw [e] at hQ
    simp only [resO] at hQ ⊢
    refine hk1 _ ?_
    simp only [putD, entry, lend, jr, List.map_cons, List.map_nil, List.length_cons, List.length_nil, List.replicate_succ, List.replicate_zero, List.cons_append, List.nil_append, List.append_nil, Nat.reduceAdd, Nat.reduceSub, Nat.reduceMul, Nat.zero_add, dSeq, dNext, dSet, dSetO, dPut, dPar, dPar3, dParOD, dParOO, dParDO, dIfS, dRet, dRetO, dRetN, dDrop, dBin, dUn, dC, dVar, dCB, dCBO, daCons, daNil, daLend, dats, one, two, oneO, dIxO, dOwn1, dOwn2, fIx, fLen, dBl, dTru, dNot, dAnd, dOr, dIf, dAndV, dOrV, dNotV, dChain, dFr, dTup, dLst, dApp, dPopAt, dFor, diRng1, diRng2, diAny, gN, items, itemsD, oAdd, oSub, oMul, oDiv, oMod, oPow, oNeg, oCmp, oLt, oLe, oGt, oGe, oEq, oNe, oIn, oIsN, oNotN, isN, oIx, oLen, lenD, oInt, oAbs, oInts, oBool, oTuple, oAll, oAny, oSum, oSumA, oSl, dSl, pNo, pSo, oSorted, oList, oJoin, dMt1, dCall, dCallO, dCallT, argsOf, lent, opt, truth, MO.toD, Rv.toD, putOuts, putMO, List.getElem?_cons_zero, List.getElem?_cons_succ, List.set_cons_zero, List.set_cons_succ, Option.map_some, dIsi, dNo, at0, at1, at2, ix30, ix31, ix32, ends, outW, dComp, dYes, wipeD, back, dMake, dMeth, dLenSetS, oInD, dDict0, dDPut, dGet, dPar3DDO, dProp, dFld, dFldO, dFldSet, dSortSet, daKw, decide_eq_true_eq, shI, shS, shB, shN, eqI, eqS, true_and, List.contains_nil, beq_iff_eq, ↓reduceIte, Bool.false_eq_true]
    exact ⟨⟨List.mem_singleton.mpr rfl, by decide⟩, hQ⟩
theorem lt_one {a b : Nat} : ([a] < [b]) ↔ a < b := by
  rw [List.cons_lt_cons_iff]
  constructor
  · rintro (h | ⟨_, h⟩)
    · exact h
    · exact absurd h (List.not_lt_nil _)
  · exact .inl
theorem small_cmpN {c : Nat} : small c = true ↔ ¬ ([c] < [97]) ∧ ¬ ([122] < [c]) := by
  rw [lt_one, lt_one]
  unfold small
  simp only [Bool.and_eq_true, decide_eq_true_eq]
  omega
theorem math_L_lot_slip (K : PySem.W.Frag) : ∀ args Q U, sp_L_lot_slip K args Q U → m_L_lot_slip K (ends args Q U) (entry (List.length N_L_lot_slip) args) := by
  rintro args Q U ⟨v, rfl, hv, hQ⟩
  have hv : Tp v := hv
  have fin : ∀ o, slipI v = o → Q (.d (.lst (slipL o))) [] := fun o e => by
    rw [← e]
    exact hQ () trivial
  clear hQ
  have rn : ∀ z : Int, z.natAbs < 10 ^ 100 → Shw (.int z) := fun z h => ⟨(Rp.int h (k := 8)).1, (Rp.int h (k := 8)).2.1, Nat.le_trans (Rp.int h (k := 8)).2.2 (by decide)⟩
  unfold m_L_lot_slip
  refine seq_step fun k1 hk1 => if_step fun kb kt kf => ?_
  have nt : isB .tup [] v = some false ∧ slipI v = some .non ∨ ∃ ds, v = .tup ds := by
    cases v with
    | tup ds => exact .inr ⟨ds, rfl⟩
    | ins C fs => exact hv.elim
    | _ => exact .inl ⟨rfl, rfl⟩
  rcases nt with ⟨e, ep⟩ | ⟨ds, rfl⟩
  · simp only [e, Bool.not_false, entry, lend, jr, List.map_cons, List.map_nil, List.length_cons, List.length_nil, List.replicate_succ, List.replicate_zero, List.cons_append, List.nil_append, List.append_nil, Nat.reduceAdd, Nat.reduceSub, Nat.reduceMul, Nat.zero_add, dNext, dSet, dSetO, dPut, dPar, dPar3, dParOD, dParOO, dParDO, dRet, dRetO, dRetN, dDrop, dBin, dUn, dC, dVar, dCB, dCBO, daCons, daNil, daLend, dats, one, two, oneO, dIxO, dOwn1, dOwn2, fIx, fLen, dBl, dTru, dNot, dAnd, dOr, dAndV, dOrV, dNotV, dChain, dFr, dTup, dLst, dApp, dPopAt, dFor, diRng1, diRng2, diAny, gN, items, itemsD, oAdd, oSub, oMul, oDiv, oMod, oPow, oNeg, oCmp, oLt, oLe, oGt, oGe, oEq, oNe, oIn, oIsN, oNotN, isN, oIx, oLen, lenD, oInt, oAbs, oInts, oBool, oTuple, oAll, oAny, oSum, oSumA, oSl, dSl, pNo, pSo, oSorted, oList, oJoin, dMt1, dCall, dCallO, dCallT, argsOf, lent, opt, truth, MO.toD, Rv.toD, putOuts, putMO, List.getElem?_cons_zero, List.getElem?_cons_succ, List.set_cons_zero, List.set_cons_succ, Option.map_some, dIsi, dNo, at0, at1, at2, ix30, ix31, ix32, dComp, dYes, wipeD, back, dMake, dMeth, dLenSetS, oInD, dDict0, dDPut, dGet, dPar3DDO, dProp, dFld, dFldO, dFldSet, dSortSet, daKw, decide_eq_true_eq, shI, shS, shB, shN, eqI, eqS, true_and, List.contains_nil, beq_iff_eq, ↓reduceIte, Bool.false_eq_true]
    refine kt _ ?_
    simp only [entry, lend, jr, List.map_cons, List.map_nil, List.length_cons, List.length_nil, List.replicate_succ, List.replicate_zero, List.cons_append, List.nil_append, List.append_nil, Nat.reduceAdd, Nat.reduceSub, Nat.reduceMul, Nat.zero_add, dSeq, dNext, dSet, dSetO, dPut, dPar, dPar3, dParOD, dParOO, dParDO, dIfS, dRet, dRetO, dRetN, dDrop, dBin, dUn, dC, dVar, dCB, dCBO, daCons, daNil, daLend, dats, one, two, oneO, dIxO, dOwn1, dOwn2, fIx, fLen, dBl, dTru, dNot, dAnd, dOr, dIf, dAndV, dOrV, dNotV, dChain, dFr, dTup, dLst, dApp, dPopAt, dFor, diRng1, diRng2, diAny, gN, items, itemsD, oAdd, oSub, oMul, oDiv, oMod, oPow, oNeg, oCmp, oLt, oLe, oGt, oGe, oEq, oNe, oIn, oIsN, oNotN, isN, oIx, oLen, lenD, oInt, oAbs, oInts, oBool, oTuple, oAll, oAny, oSum, oSumA, oSl, dSl, pNo, pSo, oSorted, oList, oJoin, dMt1, dCall, dCallO, dCallT, argsOf, lent, opt, truth, MO.toD, Rv.toD, putOuts, putMO, List.getElem?_cons_zero, List.getElem?_cons_succ, List.set_cons_zero, List.set_cons_succ, Option.map_some, dIsi, dNo, at0, at1, at2, ix30, ix31, ix32, ends, outW, dComp, dYes, wipeD, back, dMake, dMeth, dLenSetS, oInD, dDict0, dDPut, dGet, dPar3DDO, dProp, dFld, dFldO, dFldSet, dSortSet, daKw, decide_eq_true_eq, shI, shS, shB, shN, eqI, eqS, true_and, List.contains_nil, beq_iff_eq, ↓reduceIte, Bool.false_eq_true]
    exact ⟨kilo_line (by decide), fin _ ep⟩
  · obtain ⟨hlen, hds⟩ : ds.length ≤ 1000 ∧ ∀ d ∈ ds, noIns d := hv
    simp only [isB_tup, Bool.not_true, oEqU, entry, lend, jr, List.map_cons, List.map_nil, List.length_cons, List.length_nil, List.replicate_succ, List.replicate_zero, List.cons_append, List.nil_append, List.append_nil, Nat.reduceAdd, Nat.reduceSub, Nat.reduceMul, Nat.zero_add, dNext, dSet, dSetO, dPut, dPar, dPar3, dParOD, dParOO, dParDO, dRet, dRetO, dRetN, dDrop, dBin, dUn, dC, dVar, dCB, dCBO, daCons, daNil, daLend, dats, one, two, oneO, dIxO, dOwn1, dOwn2, fIx, fLen, dBl, dTru, dNot, dAnd, dOr, dAndV, dOrV, dNotV, dChain, dFr, dTup, dLst, dApp, dPopAt, dFor, diRng1, diRng2, diAny, gN, items, itemsD, oAdd, oSub, oMul, oDiv, oMod, oPow, oNeg, oCmp, oLt, oLe, oGt, oGe, oEq, oNe, oIn, oIsN, oNotN, isN, oIx, oLen, lenD, oInt, oAbs, oInts, oBool, oTuple, oAll, oAny, oSum, oSumA, oSl, dSl, pNo, pSo, oSorted, oList, oJoin, dMt1, dCall, dCallO, dCallT, argsOf, lent, opt, truth, MO.toD, Rv.toD, putOuts, putMO, List.getElem?_cons_zero, List.getElem?_cons_succ, List.set_cons_zero, List.set_cons_succ, Option.map_some, dIsi, dNo, at0, at1, at2, ix30, ix31, ix32, dComp, dYes, wipeD, back, dMake, dMeth, dLenSetS, oInD, dDict0, dDPut, dGet, dPar3DDO, dProp, dFld, dFldO, dFldSet, dSortSet, daKw, decide_eq_true_eq, shI, shS, shB, shN, eqI, eqS, true_and, List.contains_nil, beq_iff_eq, ↓reduceIte, Bool.false_eq_true]
    by_cases hE : ds.isEmpty = true
    · rw [hE]
      refine ⟨Nat.zero_le _, kt _ ?_⟩
      simp only [entry, lend, jr, List.map_cons, List.map_nil, List.length_cons, List.length_nil, List.replicate_succ, List.replicate_zero, List.cons_append, List.nil_append, List.append_nil, Nat.reduceAdd, Nat.reduceSub, Nat.reduceMul, Nat.zero_add, dSeq, dNext, dSet, dSetO, dPut, dPar, dPar3, dParOD, dParOO, dParDO, dIfS, dRet, dRetO, dRetN, dDrop, dBin, dUn, dC, dVar, dCB, dCBO, daCons, daNil, daLend, dats, one, two, oneO, dIxO, dOwn1, dOwn2, fIx, fLen, dBl, dTru, dNot, dAnd, dOr, dIf, dAndV, dOrV, dNotV, dChain, dFr, dTup, dLst, dApp, dPopAt, dFor, diRng1, diRng2, diAny, gN, items, itemsD, oAdd, oSub, oMul, oDiv, oMod, oPow, oNeg, oCmp, oLt, oLe, oGt, oGe, oEq, oNe, oIn, oIsN, oNotN, isN, oIx, oLen, lenD, oInt, oAbs, oInts, oBool, oTuple, oAll, oAny, oSum, oSumA, oSl, dSl, pNo, pSo, oSorted, oList, oJoin, dMt1, dCall, dCallO, dCallT, argsOf, lent, opt, truth, MO.toD, Rv.toD, putOuts, putMO, List.getElem?_cons_zero, List.getElem?_cons_succ, List.set_cons_zero, List.set_cons_succ, Option.map_some, dIsi, dNo, at0, at1, at2, ix30, ix31, ix32, ends, outW, dComp, dYes, wipeD, back, dMake, dMeth, dLenSetS, oInD, dDict0, dDPut, dGet, dPar3DDO, dProp, dFld, dFldO, dFldSet, dSortSet, daKw, decide_eq_true_eq, shI, shS, shB, shN, eqI, eqS, true_and, List.contains_nil, beq_iff_eq, ↓reduceIte, Bool.false_eq_true]
      exact ⟨kilo_line (by decide), fin (some .non) (by
        show (if ds.isEmpty = true then _ else _) = _
        rw [if_pos hE])⟩
    · rw [Bool.not_eq_true] at hE
      rw [hE]
      have l0 : 0 < ds.length := by
        cases ds with
        | nil => cases hE
        | cons _ _ => simp
      refine ⟨Nat.zero_le _, kf _ ?_⟩
      simp only [entry, lend, jr, List.map_cons, List.map_nil, List.length_cons, List.length_nil, List.replicate_succ, List.replicate_zero, List.cons_append, List.nil_append, List.append_nil, Nat.reduceAdd, Nat.reduceSub, Nat.reduceMul, Nat.zero_add, dNext, dSet, dSetO, dPut, dPar, dPar3, dParOD, dParOO, dParDO, dRet, dRetO, dRetN, dDrop, dBin, dUn, dC, dVar, dCB, dCBO, daCons, daNil, daLend, dats, one, two, oneO, dIxO, dOwn1, dOwn2, fIx, fLen, dBl, dTru, dNot, dAnd, dOr, dAndV, dOrV, dNotV, dChain, dFr, dTup, dLst, dApp, dPopAt, dFor, diRng1, diRng2, diAny, gN, items, itemsD, oAdd, oSub, oMul, oDiv, oMod, oPow, oNeg, oCmp, oLt, oLe, oGt, oGe, oEq, oNe, oIn, oIsN, oNotN, isN, oIx, oLen, lenD, oInt, oAbs, oInts, oBool, oTuple, oAll, oAny, oSum, oSumA, oSl, dSl, pNo, pSo, oSorted, oList, oJoin, dMt1, dCall, dCallO, dCallT, argsOf, lent, opt, truth, MO.toD, Rv.toD, putOuts, putMO, List.getElem?_cons_zero, List.getElem?_cons_succ, List.set_cons_zero, List.set_cons_succ, Option.map_some, dIsi, dNo, at0, at1, at2, ix30, ix31, ix32, dComp, dYes, wipeD, back, dMake, dMeth, dLenSetS, oInD, dDict0, dDPut, dGet, dPar3DDO, dProp, dFld, dFldO, dFldSet, dSortSet, daKw, decide_eq_true_eq, shI, shS, shB, shN, eqI, eqS, true_and, List.contains_nil, beq_iff_eq, ↓reduceIte, Bool.false_eq_true]
      refine hk1 _ (seq_step fun k2 hk2 => ?_)
      simp only [entry, lend, jr, List.map_cons, List.map_nil, List.length_cons, List.length_nil, List.replicate_succ, List.replicate_zero, List.cons_append, List.nil_append, List.append_nil, Nat.reduceAdd, Nat.reduceSub, Nat.reduceMul, Nat.zero_add, dNext, dSet, dSetO, dPut, dPar, dPar3, dParOD, dParOO, dParDO, dRet, dRetO, dRetN, dDrop, dBin, dUn, dC, dVar, dCB, dCBO, daCons, daNil, daLend, dats, one, two, oneO, dIxO, dOwn1, dOwn2, fIx, fLen, dBl, dTru, dNot, dAnd, dOr, dAndV, dOrV, dNotV, dChain, dFr, dTup, dLst, dApp, dPopAt, dFor, diRng1, diRng2, diAny, gN, items, itemsD, oAdd, oSub, oMul, oDiv, oMod, oPow, oNeg, oCmp, oLt, oLe, oGt, oGe, oEq, oNe, oIn, oIsN, oNotN, isN, oIx, oLen, lenD, oInt, oAbs, oInts, oBool, oTuple, oAll, oAny, oSum, oSumA, oSl, dSl, pNo, pSo, oSorted, oList, oJoin, dMt1, dCall, dCallO, dCallT, argsOf, lent, opt, truth, MO.toD, Rv.toD, putOuts, putMO, List.getElem?_cons_zero, List.getElem?_cons_succ, List.set_cons_zero, List.set_cons_succ, Option.map_some, dIsi, dNo, at0, at1, at2, ix30, ix31, ix32, dComp, dYes, wipeD, back, dMake, dMeth, dLenSetS, oInD, dDict0, dDPut, dGet, dPar3DDO, dProp, dFld, dFldO, dFldSet, dSortSet, daKw, decide_eq_true_eq, shI, shS, shB, shN, eqI, eqS, true_and, List.contains_nil, beq_iff_eq, ↓reduceIte, Bool.false_eq_true]
      refine ⟨by omega, by omega, ?_⟩
      rw [Int.toNat_natCast]
      refine loop_range 0 ds.length (fun i ρ => (∀ j, j < i → fineR ds j = true) ∧ ∃ s1 s2, ρ = [.dat (.tup ds), s1, s2, .no]) ⟨nofun, _, _, rfl⟩ ?_ ?_
      · rintro i ρ k hi ⟨hb, s1, s2, rfl⟩ hk
        have ea : L2.atI ds (i : Int) = some ds[i] := atD hi
        have go : fineR ds i = true → ∀ s1 s2, k [.dat (.tup ds), s1, s2, .no] := fun q s1 s2 => hk _ ⟨fun j hj => by
          by_cases e : j = i
          · rw [e]; exact q
          · exact hb j (by omega), _, _, rfl⟩
        have hd := hds _ (List.getElem_mem hi)
        have told : fineR ds i = false → Q (.d (.lst [.str sOrders, .str (reprL (.int i))])) [] := fun q => fin (some (.int i)) (by rw [slip_ne l0, badR_some hi hb q]; rfl)
        refine seq_step fun k3 hk3 => ?_
        simp only [gN, Int.zero_add, ea, entry, lend, jr, List.map_cons, List.map_nil, List.length_cons, List.length_nil, List.replicate_succ, List.replicate_zero, List.cons_append, List.nil_append, List.append_nil, Nat.reduceAdd, Nat.reduceSub, Nat.reduceMul, Nat.zero_add, dNext, dSet, dSetO, dPut, dPar, dPar3, dParOD, dParOO, dParDO, dRet, dRetO, dRetN, dDrop, dBin, dUn, dC, dVar, dCB, dCBO, daCons, daNil, daLend, dats, one, two, oneO, dIxO, dOwn1, dOwn2, fIx, fLen, dBl, dTru, dNot, dAnd, dOr, dAndV, dOrV, dNotV, dChain, dFr, dTup, dLst, dApp, dPopAt, dFor, diRng1, diRng2, diAny, gN, items, itemsD, oAdd, oSub, oMul, oDiv, oMod, oPow, oNeg, oCmp, oLt, oLe, oGt, oGe, oEq, oNe, oIn, oIsN, oNotN, isN, oIx, oLen, lenD, oInt, oAbs, oInts, oBool, oTuple, oAll, oAny, oSum, oSumA, oSl, dSl, pNo, pSo, oSorted, oList, oJoin, dMt1, dCall, dCallO, dCallT, argsOf, lent, opt, truth, MO.toD, Rv.toD, putOuts, putMO, List.getElem?_cons_zero, List.getElem?_cons_succ, List.set_cons_zero, List.set_cons_succ, Option.map_some, dIsi, dNo, at0, at1, at2, ix30, ix31, ix32, dComp, dYes, wipeD, back, dMake, dMeth, dLenSetS, oInD, dDict0, dDPut, dGet, dPar3DDO, dProp, dFld, dFldO, dFldSet, dSortSet, daKw, decide_eq_true_eq, shI, shS, shB, shN, eqI, eqS, true_and, List.contains_nil, beq_iff_eq, ↓reduceIte, Bool.false_eq_true]
        refine hk3 _ (seq_step fun k4 hk4 => if_step fun kb kt kf => ?_)
        simp only [entry, lend, jr, List.map_cons, List.map_nil, List.length_cons, List.length_nil, List.replicate_succ, List.replicate_zero, List.cons_append, List.nil_append, List.append_nil, Nat.reduceAdd, Nat.reduceSub, Nat.reduceMul, Nat.zero_add, dNext, dSet, dSetO, dPut, dPar, dPar3, dParOD, dParOO, dParDO, dRet, dRetO, dRetN, dDrop, dBin, dUn, dC, dVar, dCB, dCBO, daCons, daNil, daLend, dats, one, two, oneO, dIxO, dOwn1, dOwn2, fIx, fLen, dBl, dTru, dNot, dAnd, dOr, dAndV, dOrV, dNotV, dChain, dFr, dTup, dLst, dApp, dPopAt, dFor, diRng1, diRng2, diAny, gN, items, itemsD, oAdd, oSub, oMul, oDiv, oMod, oPow, oNeg, oCmp, oLt, oLe, oGt, oGe, oEq, oNe, oIn, oIsN, oNotN, isN, oIx, oLen, lenD, oInt, oAbs, oInts, oBool, oTuple, oAll, oAny, oSum, oSumA, oSl, dSl, pNo, pSo, oSorted, oList, oJoin, dMt1, dCall, dCallO, dCallT, argsOf, lent, opt, truth, MO.toD, Rv.toD, putOuts, putMO, List.getElem?_cons_zero, List.getElem?_cons_succ, List.set_cons_zero, List.set_cons_succ, Option.map_some, dIsi, dNo, at0, at1, at2, ix30, ix31, ix32, dComp, dYes, wipeD, back, dMake, dMeth, dLenSetS, oInD, dDict0, dDPut, dGet, dPar3DDO, dProp, dFld, dFldO, dFldSet, dSortSet, daKw, decide_eq_true_eq, shI, shS, shB, shN, eqI, eqS, true_and, List.contains_nil, beq_iff_eq, ↓reduceIte, Bool.false_eq_true]
        have bad1 : fineR ds i = false → kb true [.dat (.tup ds), .dat (.int i), .dat ds[i], .no] := fun q => by
          refine kt _ ?_
          simp only [oReprX, entry, lend, jr, List.map_cons, List.map_nil, List.length_cons, List.length_nil, List.replicate_succ, List.replicate_zero, List.cons_append, List.nil_append, List.append_nil, Nat.reduceAdd, Nat.reduceSub, Nat.reduceMul, Nat.zero_add, dSeq, dNext, dSet, dSetO, dPut, dPar, dPar3, dParOD, dParOO, dParDO, dIfS, dRet, dRetO, dRetN, dDrop, dBin, dUn, dC, dVar, dCB, dCBO, daCons, daNil, daLend, dats, one, two, oneO, dIxO, dOwn1, dOwn2, fIx, fLen, dBl, dTru, dNot, dAnd, dOr, dIf, dAndV, dOrV, dNotV, dChain, dFr, dTup, dLst, dApp, dPopAt, dFor, diRng1, diRng2, diAny, gN, items, itemsD, oAdd, oSub, oMul, oDiv, oMod, oPow, oNeg, oCmp, oLt, oLe, oGt, oGe, oEq, oNe, oIn, oIsN, oNotN, isN, oIx, oLen, lenD, oInt, oAbs, oInts, oBool, oTuple, oAll, oAny, oSum, oSumA, oSl, dSl, pNo, pSo, oSorted, oList, oJoin, dMt1, dCall, dCallO, dCallT, argsOf, lent, opt, truth, MO.toD, Rv.toD, putOuts, putMO, List.getElem?_cons_zero, List.getElem?_cons_succ, List.set_cons_zero, List.set_cons_succ, Option.map_some, dIsi, dNo, at0, at1, at2, ix30, ix31, ix32, ends, outW, dComp, dYes, wipeD, back, dMake, dMeth, dLenSetS, oInD, dDict0, dDPut, dGet, dPar3DDO, dProp, dFld, dFldO, dFldSet, dSortSet, daKw, decide_eq_true_eq, shI, shS, shB, shN, eqI, eqS, true_and, List.contains_nil, beq_iff_eq, ↓reduceIte, Bool.false_eq_true]
          exact ⟨shw_ok (rn _ (by omega)), kilo_line (by decide), told q⟩
        have nf : areL ds[i] 3 6 = false → fineR ds i = false := fun q => by
          rw [fineR_at hi]
          have e2 : isOO (lsO (ds.headD .non)) ds[i] = false := by
            cases q2 : isOO (lsO (ds.headD .non)) ds[i] with
            | false => rfl
            | true => rw [isOO_areL q2] at q; cases q
          rw [e2, Bool.false_and, Bool.and_false]
        by_cases e48 : i = 48
        · rw [if_pos (by omega)]
          exact bad1 (by rw [fineR_at hi, beq_iff_eq.mpr e48]; rfl)
        · rw [if_neg (by omega)]
          have ns : (isB .str [] ds[i] = some false ∧ areL ds[i] 3 6 = false) ∨ ∃ M, ds[i] = .str M := by
            generalize ds[i] = d at hd ⊢
            cases d with
            | str M => exact .inr ⟨M, rfl⟩
            | ins C fs => exact False.elim hd
            | _ => exact .inl ⟨rfl, rfl⟩
          rcases ns with ⟨e, ea⟩ | ⟨M, eM⟩
          · rw [e]
            exact ite_yes rfl (bad1 (nf ea))
          · rw [eM] at ea nf bad1 ⊢
            have ar : areL (.str M) 3 6 = (decide ((3 : Int) ≤ M.length) && decide ((M.length : Int) ≤ 6) && chk M) := rfl
            simp only [isB_str, Bool.not_true, entry, lend, jr, List.map_cons, List.map_nil, List.length_cons, List.length_nil, List.replicate_succ, List.replicate_zero, List.cons_append, List.nil_append, List.append_nil, Nat.reduceAdd, Nat.reduceSub, Nat.reduceMul, Nat.zero_add, dNext, dSet, dSetO, dPut, dPar, dPar3, dParOD, dParOO, dParDO, dRet, dRetO, dRetN, dDrop, dBin, dUn, dC, dVar, dCB, dCBO, daCons, daNil, daLend, dats, one, two, oneO, dIxO, dOwn1, dOwn2, fIx, fLen, dBl, dTru, dNot, dAnd, dOr, dAndV, dOrV, dNotV, dChain, dFr, dTup, dLst, dApp, dPopAt, dFor, diRng1, diRng2, diAny, gN, items, itemsD, oAdd, oSub, oMul, oDiv, oMod, oPow, oNeg, oCmp, oLt, oLe, oGt, oGe, oEq, oNe, oIn, oIsN, oNotN, isN, oIx, oLen, lenD, oInt, oAbs, oInts, oBool, oTuple, oAll, oAny, oSum, oSumA, oSl, dSl, pNo, pSo, oSorted, oList, oJoin, dMt1, dCall, dCallO, dCallT, argsOf, lent, opt, truth, MO.toD, Rv.toD, putOuts, putMO, List.getElem?_cons_zero, List.getElem?_cons_succ, List.set_cons_zero, List.set_cons_succ, Option.map_some, dIsi, dNo, at0, at1, at2, ix30, ix31, ix32, dComp, dYes, wipeD, back, dMake, dMeth, dLenSetS, oInD, dDict0, dDPut, dGet, dPar3DDO, dProp, dFld, dFldO, dFldSet, dSortSet, daKw, decide_eq_true_eq, shI, shS, shB, shN, eqI, eqS, true_and, List.contains_nil, beq_iff_eq, ↓reduceIte, Bool.false_eq_true]
            cases c3 : decide ((3 : Int) ≤ M.length) with
            | false =>
              rw [c3] at ar
              exact bad1 (nf ar)
            | true =>
              rw [c3, Bool.true_and] at ar
              cases c6 : decide ((M.length : Int) ≤ 6) with
              | false =>
                rw [c6] at ar
                exact ite_yes rfl (bad1 (nf ar))
              | true =>
                rw [c6, Bool.true_and] at ar
                have l3 := of_decide_eq_true c3
                have l6 := of_decide_eq_true c6
                refine ite_no (by decide) ⟨by omega, ?_⟩
                have lm : (M.map fun c => [c]).length = M.length := List.length_map _
                have ndm : (M.map fun c => [c]).Nodup ↔ M.Nodup := by
                  unfold List.Nodup
                  rw [List.pairwise_map]
                  constructor
                  · intro h; exact h.imp fun h e => h (by rw [e])
                  · intro h; exact h.imp fun h e => h (by injection e)
                by_cases nd : M.Nodup
                · have eL : (!((((dd (M.map fun c => [c])).length : Nat) : Int) == (M.length : Int))) = false := by
                    rw [dd_lenN.mpr (ndm.mpr nd), lm, beq_self_eq_true]
                    rfl
                  rw [eL]
                  refine kf _ ?_
                  simp only [entry, lend, jr, List.map_cons, List.map_nil, List.length_cons, List.length_nil, List.replicate_succ, List.replicate_zero, List.cons_append, List.nil_append, List.append_nil, Nat.reduceAdd, Nat.reduceSub, Nat.reduceMul, Nat.zero_add, dNext, dSet, dSetO, dPut, dPar, dPar3, dParOD, dParOO, dParDO, dRet, dRetO, dRetN, dDrop, dBin, dUn, dC, dVar, dCB, dCBO, daCons, daNil, daLend, dats, one, two, oneO, dIxO, dOwn1, dOwn2, fIx, fLen, dBl, dTru, dNot, dAnd, dOr, dAndV, dOrV, dNotV, dChain, dFr, dTup, dLst, dApp, dPopAt, dFor, diRng1, diRng2, diAny, gN, items, itemsD, oAdd, oSub, oMul, oDiv, oMod, oPow, oNeg, oCmp, oLt, oLe, oGt, oGe, oEq, oNe, oIn, oIsN, oNotN, isN, oIx, oLen, lenD, oInt, oAbs, oInts, oBool, oTuple, oAll, oAny, oSum, oSumA, oSl, dSl, pNo, pSo, oSorted, oList, oJoin, dMt1, dCall, dCallO, dCallT, argsOf, lent, opt, truth, MO.toD, Rv.toD, putOuts, putMO, List.getElem?_cons_zero, List.getElem?_cons_succ, List.set_cons_zero, List.set_cons_succ, Option.map_some, dIsi, dNo, at0, at1, at2, ix30, ix31, ix32, dComp, dYes, wipeD, back, dMake, dMeth, dLenSetS, oInD, dDict0, dDPut, dGet, dPar3DDO, dProp, dFld, dFldO, dFldSet, dSortSet, daKw, decide_eq_true_eq, shI, shS, shB, shN, eqI, eqS, true_and, List.contains_nil, beq_iff_eq, ↓reduceIte, Bool.false_eq_true]
                  refine hk4 _ (seq_step fun k5 hk5 => if_step fun kb kt kf => ?_)
                  obtain ⟨M0, e0, l0M⟩ : ∃ M0, ds[0] = .str M0 ∧ M0.length ≤ 6 := by
                    by_cases z : i = 0
                    · subst z; exact ⟨M, eM, by omega⟩
                    · exact fine_str l0 (hb 0 (by omega))
                  have a0 : L2.atI ds 0 = some (.str M0) := by
                    have := atD l0
                    rw [e0] at this
                    exact this
                  simp only [entry, lend, jr, List.map_cons, List.map_nil, List.length_cons, List.length_nil, List.replicate_succ, List.replicate_zero, List.cons_append, List.nil_append, List.append_nil, Nat.reduceAdd, Nat.reduceSub, Nat.reduceMul, Nat.zero_add, dNext, dSet, dSetO, dPut, dPar, dPar3, dParOD, dParOO, dParDO, dRet, dRetO, dRetN, dDrop, dBin, dUn, dC, dVar, dCB, dCBO, daCons, daNil, daLend, dats, one, two, oneO, dIxO, dOwn1, dOwn2, fIx, fLen, dBl, dTru, dNot, dAnd, dOr, dAndV, dOrV, dNotV, dChain, dFr, dTup, dLst, dApp, dPopAt, dFor, diRng1, diRng2, diAny, gN, items, itemsD, oAdd, oSub, oMul, oDiv, oMod, oPow, oNeg, oCmp, oLt, oLe, oGt, oGe, oEq, oNe, oIn, oIsN, oNotN, isN, oIx, oLen, lenD, oInt, oAbs, oInts, oBool, oTuple, oAll, oAny, oSum, oSumA, oSl, dSl, pNo, pSo, oSorted, oList, oJoin, dMt1, dCall, dCallO, dCallT, argsOf, lent, opt, truth, MO.toD, Rv.toD, putOuts, putMO, List.getElem?_cons_zero, List.getElem?_cons_succ, List.set_cons_zero, List.set_cons_succ, Option.map_some, dIsi, dNo, at0, at1, at2, ix30, ix31, ix32, dComp, dYes, wipeD, back, dMake, dMeth, dLenSetS, oInD, dDict0, dDPut, dGet, dPar3DDO, dProp, dFld, dFldO, dFldSet, dSortSet, daKw, decide_eq_true_eq, shI, shS, shB, shN, eqI, eqS, true_and, List.contains_nil, beq_iff_eq, ↓reduceIte, Bool.false_eq_true]
                  refine ⟨by rw [show (chars M).length = M.length from List.length_map _, sizeLine_eq]; omega, comp_of (fun c : Nat => Dt.str [c]) (fun c => !small c) (fun c => .str [c]) M [] (fun c hc k6 k7 hh => ?_) ?_⟩
                  · simp only [gN, entry, lend, jr, List.map_cons, List.map_nil, List.length_cons, List.length_nil, List.replicate_succ, List.replicate_zero, List.cons_append, List.nil_append, List.append_nil, Nat.reduceAdd, Nat.reduceSub, Nat.reduceMul, Nat.zero_add, dNext, dSet, dSetO, dPut, dPar, dPar3, dParOD, dParOO, dParDO, dRet, dRetO, dRetN, dDrop, dBin, dUn, dC, dVar, dCB, dCBO, daCons, daNil, daLend, dats, one, two, oneO, dIxO, dOwn1, dOwn2, fIx, fLen, dBl, dTru, dNot, dAnd, dOr, dAndV, dOrV, dNotV, dChain, dFr, dTup, dLst, dApp, dPopAt, dFor, diRng1, diRng2, diAny, gN, items, itemsD, oAdd, oSub, oMul, oDiv, oMod, oPow, oNeg, oCmp, oLt, oLe, oGt, oGe, oEq, oNe, oIn, oIsN, oNotN, isN, oIx, oLen, lenD, oInt, oAbs, oInts, oBool, oTuple, oAll, oAny, oSum, oSumA, oSl, dSl, pNo, pSo, oSorted, oList, oJoin, dMt1, dCall, dCallO, dCallT, argsOf, lent, opt, truth, MO.toD, Rv.toD, putOuts, putMO, List.getElem?_cons_zero, List.getElem?_cons_succ, List.set_cons_zero, List.set_cons_succ, Option.map_some, dIsi, dNo, at0, at1, at2, ix30, ix31, ix32, dComp, dYes, wipeD, back, dMake, dMeth, dLenSetS, oInD, dDict0, dDPut, dGet, dPar3DDO, dProp, dFld, dFldO, dFldSet, dSortSet, daKw, decide_eq_true_eq, shI, shS, shB, shN, eqI, eqS, true_and, List.contains_nil, beq_iff_eq, ↓reduceIte, Bool.false_eq_true]
                    by_cases h1 : [c] < [97]
                    · have sf : small c = false := by rw [Bool.eq_false_iff]; exact fun q => (small_cmpN.mp q).1 h1
                      rw [sf] at hh
                      simp only [h1, decide_true, Bool.not_true]
                      exact hh
                    · by_cases h2 : [122] < [c]
                      · have sf : small c = false := by rw [Bool.eq_false_iff]; exact fun q => (small_cmpN.mp q).2 h2
                        rw [sf] at hh
                        simp only [h1, h2, decide_true, decide_false, Bool.not_true, Bool.not_false]
                        exact hh
                      · rw [small_cmpN.mpr ⟨h1, h2⟩] at hh
                        simp only [h1, h2, decide_true, decide_false, Bool.not_true, Bool.not_false]
                        exact hh
                  · simp only [a0, eq_nilL, entry, lend, jr, List.map_cons, List.map_nil, List.length_cons, List.length_nil, List.replicate_succ, List.replicate_zero, List.cons_append, List.nil_append, List.append_nil, Nat.reduceAdd, Nat.reduceSub, Nat.reduceMul, Nat.zero_add, dNext, dSet, dSetO, dPut, dPar, dPar3, dParOD, dParOO, dParDO, dRet, dRetO, dRetN, dDrop, dBin, dUn, dC, dVar, dCB, dCBO, daCons, daNil, daLend, dats, one, two, oneO, dIxO, dOwn1, dOwn2, fIx, fLen, dBl, dTru, dNot, dAnd, dOr, dAndV, dOrV, dNotV, dChain, dFr, dTup, dLst, dApp, dPopAt, dFor, diRng1, diRng2, diAny, gN, items, itemsD, oAdd, oSub, oMul, oDiv, oMod, oPow, oNeg, oCmp, oLt, oLe, oGt, oGe, oEq, oNe, oIn, oIsN, oNotN, isN, oIx, oLen, lenD, oInt, oAbs, oInts, oBool, oTuple, oAll, oAny, oSum, oSumA, oSl, dSl, pNo, pSo, oSorted, oList, oJoin, dMt1, dCall, dCallO, dCallT, argsOf, lent, opt, truth, MO.toD, Rv.toD, putOuts, putMO, List.getElem?_cons_zero, List.getElem?_cons_succ, List.set_cons_zero, List.set_cons_succ, Option.map_some, dIsi, dNo, at0, at1, at2, ix30, ix31, ix32, dComp, dYes, wipeD, back, dMake, dMeth, dLenSetS, oInD, dDict0, dDPut, dGet, dPar3DDO, dProp, dFld, dFldO, dFldSet, dSortSet, daKw, decide_eq_true_eq, shI, shS, shB, shN, eqI, eqS, true_and, List.contains_nil, beq_iff_eq, ↓reduceIte, Bool.false_eq_true]
                    have bad2 : fineR ds i = false → kb true [.dat (.tup ds), .dat (.int i), .dat (.str M), .no] := fun q => by
                      refine kt _ ?_
                      simp only [oReprX, entry, lend, jr, List.map_cons, List.map_nil, List.length_cons, List.length_nil, List.replicate_succ, List.replicate_zero, List.cons_append, List.nil_append, List.append_nil, Nat.reduceAdd, Nat.reduceSub, Nat.reduceMul, Nat.zero_add, dSeq, dNext, dSet, dSetO, dPut, dPar, dPar3, dParOD, dParOO, dParDO, dIfS, dRet, dRetO, dRetN, dDrop, dBin, dUn, dC, dVar, dCB, dCBO, daCons, daNil, daLend, dats, one, two, oneO, dIxO, dOwn1, dOwn2, fIx, fLen, dBl, dTru, dNot, dAnd, dOr, dIf, dAndV, dOrV, dNotV, dChain, dFr, dTup, dLst, dApp, dPopAt, dFor, diRng1, diRng2, diAny, gN, items, itemsD, oAdd, oSub, oMul, oDiv, oMod, oPow, oNeg, oCmp, oLt, oLe, oGt, oGe, oEq, oNe, oIn, oIsN, oNotN, isN, oIx, oLen, lenD, oInt, oAbs, oInts, oBool, oTuple, oAll, oAny, oSum, oSumA, oSl, dSl, pNo, pSo, oSorted, oList, oJoin, dMt1, dCall, dCallO, dCallT, argsOf, lent, opt, truth, MO.toD, Rv.toD, putOuts, putMO, List.getElem?_cons_zero, List.getElem?_cons_succ, List.set_cons_zero, List.set_cons_succ, Option.map_some, dIsi, dNo, at0, at1, at2, ix30, ix31, ix32, ends, outW, dComp, dYes, wipeD, back, dMake, dMeth, dLenSetS, oInD, dDict0, dDPut, dGet, dPar3DDO, dProp, dFld, dFldO, dFldSet, dSortSet, daKw, decide_eq_true_eq, shI, shS, shB, shN, eqI, eqS, true_and, List.contains_nil, beq_iff_eq, ↓reduceIte, Bool.false_eq_true]
                      exact ⟨shw_ok (rn _ (by omega)), kilo_line (by decide), told q⟩
                    refine ⟨Nat.zero_le _, fun d hd => ?_, nofun, ?_⟩
                    · obtain ⟨c, _, rfl⟩ := List.mem_map.mp hd
                      rw [shS]; trivial
                    have ef : fineR ds i = (chk M && (srtL (M.map fun c => [c]) == srtL (M0.map fun c => [c])) && (i == 0 || ltO (ds.getD (i - 1) .non) (.str M))) := by
                      rw [fineR_at hi, headD_at l0, e0, eM, beq_eq_false_iff_ne.mpr e48]
                      show (true && ((areL (.str M) 3 6 && _) && _)) = _
                      rw [ar, Bool.true_and]
                      rfl
                    by_cases sm : ∀ c ∈ M, small c = true
                    · have eM2 : ((M.filter fun c => !small c).map fun c => Dt.str [c]).isEmpty = true := by
                        rw [List.isEmpty_iff, List.map_eq_nil_iff, List.filter_eq_nil_iff]
                        intro c hc
                        rw [sm c hc]
                        decide
                      rw [eM2]
                      rw [chk_iff.mpr ⟨nd, sm⟩, Bool.true_and] at ef
                      refine ite_no (by decide) ⟨by omega, by omega, sh_strs 7 _, sh_strs 7 _, ?_⟩
                      rw [eq_lst]
                      cases eq : srtL (M.map fun c => [c]) == srtL (M0.map fun c => [c]) with
                      | false =>
                        rw [eq] at ef
                        exact bad2 ef
                      | true =>
                        rw [eq, Bool.true_and] at ef
                        refine kf _ ?_
                        simp only [entry, lend, jr, List.map_cons, List.map_nil, List.length_cons, List.length_nil, List.replicate_succ, List.replicate_zero, List.cons_append, List.nil_append, List.append_nil, Nat.reduceAdd, Nat.reduceSub, Nat.reduceMul, Nat.zero_add, dNext, dSet, dSetO, dPut, dPar, dPar3, dParOD, dParOO, dParDO, dRet, dRetO, dRetN, dDrop, dBin, dUn, dC, dVar, dCB, dCBO, daCons, daNil, daLend, dats, one, two, oneO, dIxO, dOwn1, dOwn2, fIx, fLen, dBl, dTru, dNot, dAnd, dOr, dAndV, dOrV, dNotV, dChain, dFr, dTup, dLst, dApp, dPopAt, dFor, diRng1, diRng2, diAny, gN, items, itemsD, oAdd, oSub, oMul, oDiv, oMod, oPow, oNeg, oCmp, oLt, oLe, oGt, oGe, oEq, oNe, oIn, oIsN, oNotN, isN, oIx, oLen, lenD, oInt, oAbs, oInts, oBool, oTuple, oAll, oAny, oSum, oSumA, oSl, dSl, pNo, pSo, oSorted, oList, oJoin, dMt1, dCall, dCallO, dCallT, argsOf, lent, opt, truth, MO.toD, Rv.toD, putOuts, putMO, List.getElem?_cons_zero, List.getElem?_cons_succ, List.set_cons_zero, List.set_cons_succ, Option.map_some, dIsi, dNo, at0, at1, at2, ix30, ix31, ix32, dComp, dYes, wipeD, back, dMake, dMeth, dLenSetS, oInD, dDict0, dDPut, dGet, dPar3DDO, dProp, dFld, dFldO, dFldSet, dSortSet, daKw, decide_eq_true_eq, shI, shS, shB, shN, eqI, eqS, true_and, List.contains_nil, beq_iff_eq, ↓reduceIte, Bool.false_eq_true]
                        refine hk5 _ (if_step fun kb kt kf => ?_)
                        have bad3 : fineR ds i = false → kb true [.dat (.tup ds), .dat (.int i), .dat (.str M), .no] := fun q => by
                          refine kt _ ?_
                          simp only [oReprX, entry, lend, jr, List.map_cons, List.map_nil, List.length_cons, List.length_nil, List.replicate_succ, List.replicate_zero, List.cons_append, List.nil_append, List.append_nil, Nat.reduceAdd, Nat.reduceSub, Nat.reduceMul, Nat.zero_add, dSeq, dNext, dSet, dSetO, dPut, dPar, dPar3, dParOD, dParOO, dParDO, dIfS, dRet, dRetO, dRetN, dDrop, dBin, dUn, dC, dVar, dCB, dCBO, daCons, daNil, daLend, dats, one, two, oneO, dIxO, dOwn1, dOwn2, fIx, fLen, dBl, dTru, dNot, dAnd, dOr, dIf, dAndV, dOrV, dNotV, dChain, dFr, dTup, dLst, dApp, dPopAt, dFor, diRng1, diRng2, diAny, gN, items, itemsD, oAdd, oSub, oMul, oDiv, oMod, oPow, oNeg, oCmp, oLt, oLe, oGt, oGe, oEq, oNe, oIn, oIsN, oNotN, isN, oIx, oLen, lenD, oInt, oAbs, oInts, oBool, oTuple, oAll, oAny, oSum, oSumA, oSl, dSl, pNo, pSo, oSorted, oList, oJoin, dMt1, dCall, dCallO, dCallT, argsOf, lent, opt, truth, MO.toD, Rv.toD, putOuts, putMO, List.getElem?_cons_zero, List.getElem?_cons_succ, List.set_cons_zero, List.set_cons_succ, Option.map_some, dIsi, dNo, at0, at1, at2, ix30, ix31, ix32, ends, outW, dComp, dYes, wipeD, back, dMake, dMeth, dLenSetS, oInD, dDict0, dDPut, dGet, dPar3DDO, dProp, dFld, dFldO, dFldSet, dSortSet, daKw, decide_eq_true_eq, shI, shS, shB, shN, eqI, eqS, true_and, List.contains_nil, beq_iff_eq, ↓reduceIte, Bool.false_eq_true]
                          exact ⟨shw_ok (rn _ (by omega)), kilo_line (by decide), told q⟩
                        have go3 : fineR ds i = true → kb false [.dat (.tup ds), .dat (.int i), .dat (.str M), .no] := fun q => by
                          refine kf _ ?_
                          simp only [entry, lend, jr, List.map_cons, List.map_nil, List.length_cons, List.length_nil, List.replicate_succ, List.replicate_zero, List.cons_append, List.nil_append, List.append_nil, Nat.reduceAdd, Nat.reduceSub, Nat.reduceMul, Nat.zero_add, dSeq, dNext, dSet, dSetO, dPut, dPar, dPar3, dParOD, dParOO, dParDO, dIfS, dRet, dRetO, dRetN, dDrop, dBin, dUn, dC, dVar, dCB, dCBO, daCons, daNil, daLend, dats, one, two, oneO, dIxO, dOwn1, dOwn2, fIx, fLen, dBl, dTru, dNot, dAnd, dOr, dIf, dAndV, dOrV, dNotV, dChain, dFr, dTup, dLst, dApp, dPopAt, dFor, diRng1, diRng2, diAny, gN, items, itemsD, oAdd, oSub, oMul, oDiv, oMod, oPow, oNeg, oCmp, oLt, oLe, oGt, oGe, oEq, oNe, oIn, oIsN, oNotN, isN, oIx, oLen, lenD, oInt, oAbs, oInts, oBool, oTuple, oAll, oAny, oSum, oSumA, oSl, dSl, pNo, pSo, oSorted, oList, oJoin, dMt1, dCall, dCallO, dCallT, argsOf, lent, opt, truth, MO.toD, Rv.toD, putOuts, putMO, List.getElem?_cons_zero, List.getElem?_cons_succ, List.set_cons_zero, List.set_cons_succ, Option.map_some, dIsi, dNo, at0, at1, at2, ix30, ix31, ix32, ends, outW, dComp, dYes, wipeD, back, dMake, dMeth, dLenSetS, oInD, dDict0, dDPut, dGet, dPar3DDO, dProp, dFld, dFldO, dFldSet, dSortSet, daKw, decide_eq_true_eq, shI, shS, shB, shN, eqI, eqS, true_and, List.contains_nil, beq_iff_eq, ↓reduceIte, Bool.false_eq_true]
                          exact go q _ _
                        simp only [entry, lend, jr, List.map_cons, List.map_nil, List.length_cons, List.length_nil, List.replicate_succ, List.replicate_zero, List.cons_append, List.nil_append, List.append_nil, Nat.reduceAdd, Nat.reduceSub, Nat.reduceMul, Nat.zero_add, dNext, dSet, dSetO, dPut, dPar, dPar3, dParOD, dParOO, dParDO, dRet, dRetO, dRetN, dDrop, dBin, dUn, dC, dVar, dCB, dCBO, daCons, daNil, daLend, dats, one, two, oneO, dIxO, dOwn1, dOwn2, fIx, fLen, dBl, dTru, dNot, dAnd, dOr, dAndV, dOrV, dNotV, dChain, dFr, dTup, dLst, dApp, dPopAt, dFor, diRng1, diRng2, diAny, gN, items, itemsD, oAdd, oSub, oMul, oDiv, oMod, oPow, oNeg, oCmp, oLt, oLe, oGt, oGe, oEq, oNe, oIn, oIsN, oNotN, isN, oIx, oLen, lenD, oInt, oAbs, oInts, oBool, oTuple, oAll, oAny, oSum, oSumA, oSl, dSl, pNo, pSo, oSorted, oList, oJoin, dMt1, dCall, dCallO, dCallT, argsOf, lent, opt, truth, MO.toD, Rv.toD, putOuts, putMO, List.getElem?_cons_zero, List.getElem?_cons_succ, List.set_cons_zero, List.set_cons_succ, Option.map_some, dIsi, dNo, at0, at1, at2, ix30, ix31, ix32, dComp, dYes, wipeD, back, dMake, dMeth, dLenSetS, oInD, dDict0, dDPut, dGet, dPar3DDO, dProp, dFld, dFldO, dFldSet, dSortSet, daKw, decide_eq_true_eq, shI, shS, shB, shN, eqI, eqS, true_and, List.contains_nil, beq_iff_eq, ↓reduceIte, Bool.false_eq_true]
                        by_cases i0 : i = 0
                        · rw [if_neg (by omega)]
                          exact go3 (by rw [ef, beq_iff_eq.mpr i0]; rfl)
                        · rw [if_pos (by omega)]
                          have im : ((i : Int) - 1) = ((i - 1 : Nat) : Int) := by omega
                          obtain ⟨M1, e1, _⟩ := fine_str (show i - 1 < ds.length by omega) (hb (i - 1) (by omega))
                          have a1 := atD (show i - 1 < ds.length by omega)
                          rw [← im, e1] at a1
                          have g1 : ds.getD (i - 1) .non = .str M1 := by
                            rw [List.getD_eq_getElem?_getD, List.getElem?_eq_getElem (show i - 1 < ds.length by omega), e1]
                            rfl
                          rw [g1, beq_eq_false_iff_ne.mpr i0, Bool.false_or] at ef
                          simp only [a1, entry, lend, jr, List.map_cons, List.map_nil, List.length_cons, List.length_nil, List.replicate_succ, List.replicate_zero, List.cons_append, List.nil_append, List.append_nil, Nat.reduceAdd, Nat.reduceSub, Nat.reduceMul, Nat.zero_add, dNext, dSet, dSetO, dPut, dPar, dPar3, dParOD, dParOO, dParDO, dRet, dRetO, dRetN, dDrop, dBin, dUn, dC, dVar, dCB, dCBO, daCons, daNil, daLend, dats, one, two, oneO, dIxO, dOwn1, dOwn2, fIx, fLen, dBl, dTru, dNot, dAnd, dOr, dAndV, dOrV, dNotV, dChain, dFr, dTup, dLst, dApp, dPopAt, dFor, diRng1, diRng2, diAny, gN, items, itemsD, oAdd, oSub, oMul, oDiv, oMod, oPow, oNeg, oCmp, oLt, oLe, oGt, oGe, oEq, oNe, oIn, oIsN, oNotN, isN, oIx, oLen, lenD, oInt, oAbs, oInts, oBool, oTuple, oAll, oAny, oSum, oSumA, oSl, dSl, pNo, pSo, oSorted, oList, oJoin, dMt1, dCall, dCallO, dCallT, argsOf, lent, opt, truth, MO.toD, Rv.toD, putOuts, putMO, List.getElem?_cons_zero, List.getElem?_cons_succ, List.set_cons_zero, List.set_cons_succ, Option.map_some, dIsi, dNo, at0, at1, at2, ix30, ix31, ix32, dComp, dYes, wipeD, back, dMake, dMeth, dLenSetS, oInD, dDict0, dDPut, dGet, dPar3DDO, dProp, dFld, dFldO, dFldSet, dSortSet, daKw, decide_eq_true_eq, shI, shS, shB, shN, eqI, eqS, true_and, List.contains_nil, beq_iff_eq, ↓reduceIte, Bool.false_eq_true]
                          simp only [ltO] at ef
                          rw [ef] at bad3 go3
                          cases lt : decide (M1 < M) with
                          | false => exact bad3 lt
                          | true => exact go3 lt
                    · have eM2 : ((M.filter fun c => !small c).map fun c => Dt.str [c]).isEmpty = false := by
                        rw [Bool.eq_false_iff]
                        intro q
                        rw [List.isEmpty_iff, List.map_eq_nil_iff, List.filter_eq_nil_iff] at q
                        exact sm fun c hc => by have := q c hc; simpa using this
                      rw [eM2]
                      refine ite_yes rfl (bad2 ?_)
                      rw [ef]
                      have : chk M = false := by
                        rw [Bool.eq_false_iff]
                        exact fun q => sm (chk_iff.mp q).2
                      rw [this]
                      rfl
                · have eL : (!((((dd (M.map fun c => [c])).length : Nat) : Int) == (M.length : Int))) = true := by
                    rw [Bool.not_eq_true', beq_eq_false_iff_ne]
                    intro e
                    exact nd (ndm.mp (dd_lenN.mp (by omega)))
                  rw [eL]
                  refine bad1 (nf ?_)
                  rw [ar, Bool.eq_false_iff]
                  intro q
                  exact nd (chk_iff.mp q).1
      · rintro ρ ⟨hb, s1, s2, rfl⟩
        refine hk2 _ ?_
        simp only [entry, lend, jr, List.map_cons, List.map_nil, List.length_cons, List.length_nil, List.replicate_succ, List.replicate_zero, List.cons_append, List.nil_append, List.append_nil, Nat.reduceAdd, Nat.reduceSub, Nat.reduceMul, Nat.zero_add, dSeq, dNext, dSet, dSetO, dPut, dPar, dPar3, dParOD, dParOO, dParDO, dIfS, dRet, dRetO, dRetN, dDrop, dBin, dUn, dC, dVar, dCB, dCBO, daCons, daNil, daLend, dats, one, two, oneO, dIxO, dOwn1, dOwn2, fIx, fLen, dBl, dTru, dNot, dAnd, dOr, dIf, dAndV, dOrV, dNotV, dChain, dFr, dTup, dLst, dApp, dPopAt, dFor, diRng1, diRng2, diAny, gN, items, itemsD, oAdd, oSub, oMul, oDiv, oMod, oPow, oNeg, oCmp, oLt, oLe, oGt, oGe, oEq, oNe, oIn, oIsN, oNotN, isN, oIx, oLen, lenD, oInt, oAbs, oInts, oBool, oTuple, oAll, oAny, oSum, oSumA, oSl, dSl, pNo, pSo, oSorted, oList, oJoin, dMt1, dCall, dCallO, dCallT, argsOf, lent, opt, truth, MO.toD, Rv.toD, putOuts, putMO, List.getElem?_cons_zero, List.getElem?_cons_succ, List.set_cons_zero, List.set_cons_succ, Option.map_some, dIsi, dNo, at0, at1, at2, ix30, ix31, ix32, ends, outW, dComp, dYes, wipeD, back, dMake, dMeth, dLenSetS, oInD, dDict0, dDPut, dGet, dPar3DDO, dProp, dFld, dFldO, dFldSet, dSortSet, daKw, decide_eq_true_eq, shI, shS, shB, shN, eqI, eqS, true_and, List.contains_nil, beq_iff_eq, ↓reduceIte, Bool.false_eq_true]
        exact ⟨kilo_line (by decide), fin none (by rw [slip_ne l0, badR_none hb]; rfl)⟩

/-! ### values of any kind (k03, k04) -/
theorem vl_of {d : Dt} {n : Nat} (hi : noIns d) (e : ∀ kvs, d ≠ .dct kvs) (r : Rp 8 d n) (hn : n ≤ 2000) : Vl d := by
  refine ⟨hi, ?_⟩
  cases d with
  | dct kvs => exact absurd rfl (e kvs)
  | _ => exact ⟨r.1, r.2.1, Nat.le_trans r.2.2 hn⟩
theorem vl_str {l : List Nat} (h : ∀ c ∈ l, c < 4294967296) (hl : l.length ≤ 100) : Vl (.str l) := vl_of (show l.length ≤ 100000 by omega) nofun (Rp.str h) (by omega)
theorem odd_vl : ∀ d ∈ oddL, Vl d := by
  intro d hd
  unfold oddL at hd
  simp only [List.mem_cons, List.not_mem_nil, or_false] at hd
  have s3 : ∀ {k : Nat}, Rp k (.str [97, 98, 99]) (10 * 3 + 2) := fun {k} => Rp.str (l := [97, 98, 99]) (by decide)
  rcases hd with rfl | rfl | rfl | rfl | rfl | rfl | rfl | rfl | rfl | rfl | rfl | rfl | rfl | rfl | rfl | rfl | rfl | rfl | rfl | rfl | rfl | rfl | rfl | rfl | rfl | rfl | rfl
  · exact vl_of trivial nofun Rp.non (by decide)
  · exact vl_of trivial nofun (Rp.bl _) (by decide)
  · exact vl_of trivial nofun (Rp.bl _) (by decide)
  · exact vl_of trivial nofun (Rp.int (by decide)) (by decide)
  · exact vl_of trivial nofun (Rp.int (by decide)) (by decide)
  · exact vl_of trivial nofun (Rp.int (by decide)) (by decide)
  · exact vl_of trivial nofun (Rp.int (by decide)) (by decide)
  · exact vl_of trivial nofun (Rp.int (by decide)) (by decide)
  · exact vl_str (by decide) (by decide)
  · exact vl_str (by decide) (by decide)
  · exact vl_str (by decide) (by decide)
  · exact vl_str (by decide) (by decide)
  · exact vl_str (by decide) (by decide)
  · exact vl_of trivial nofun (Rp.tup RpA.nil) (by decide)
  · exact vl_of trivial nofun (Rp.tup (RpA.one s3)) (by decide)
  · exact vl_of trivial nofun (Rp.tup (RpA.cons (Rp.int (by decide)) (RpA.one (Rp.int (by decide))))) (by decide)
  · exact vl_of trivial nofun (Rp.lst (RpA.one s3)) (by decide)
  · exact vl_of trivial nofun (Rp.lst RpA.nil) (by decide)
  · exact ⟨trivial, nofun, by decide +kernel, by decide +kernel⟩
  · exact ⟨trivial, fun p hp => by rw [List.mem_singleton.mp hp]; rfl, by decide +kernel, by decide +kernel⟩
  · exact vl_of trivial nofun (Rp.tup (RpA.cons Rp.non (RpA.one (Rp.int (by decide))))) (by decide)
  · exact vl_str (by decide) (by decide)
  · exact vl_of trivial nofun (Rp.tup (RpA.one (Rp.tup (RpA.one s3)))) (by decide)
  · exact vl_of trivial nofun (Rp.tup (RpA.cons s3 (RpA.one s3))) (by decide)
  · exact vl_of trivial nofun (Rp.lst (RpA.one (Rp.lst RpA.nil))) (by decide)
  · exact vl_of trivial nofun (Rp.tup (RpA.one (Rp.tup RpA.nil))) (by decide)
  · exact vl_str (by decide) (by decide)
theorem odd_tp : ∀ d ∈ oddL, Tp d := by
  have h : ∀ d ∈ oddL, (match d with | .tup ds => ds.length ≤ 1000 ∧ ds.all (fun x => match x with | .ins _ _ => false | .str l => decide (l.length ≤ 100000) | _ => true) = true | .ins _ _ => False | .str l => l.length ≤ 100000 | _ => True) := by
    unfold oddL
    simp
  intro d hd
  have := odd_vl d hd
  have z := h d hd
  cases d with
  | tup ds =>
    refine ⟨z.1, fun x hx => ?_⟩
    have := List.all_eq_true.mp z.2 x hx
    cases x with
    | ins C fs => cases this
    | str l => exact of_decide_eq_true (p := l.length ≤ 100000) this
    | _ => trivial
  | _ => exact this.1
/-! ### rows that are refused (k03) -/
theorem use_odd {K : PySem.W.Frag} {b : Bool} {p : Addr} {j : Jr} {Q : Rv → List MO → Prop} {U : Xn → List MO → Prop} (h : ∀ d (j : Jr), d ∈ oddL → Q (.d d) [jr j]) : sp_L_odd K [.own b p (jr j)] Q U := ⟨((b, p, j), ()), rfl, trivial, fun y hy => h y.1 y.2 hy⟩
theorem math_L_odd (K : PySem.W.Frag) : ∀ args Q U, sp_L_odd K args Q U → m_L_odd K (ends args Q U) (entry (List.length N_L_odd) args) := by
  rintro args Q U ⟨⟨⟨b, p, j⟩, x⟩, rfl, _, hQ⟩
  have fin : ∀ d j, d ∈ oddL → Q (.d d) [jr j] := fun d j h => hQ (d, j) h
  have pw30 : CPow 10 30 := by unfold CPow; decide
  unfold m_L_odd
  refine seq_step fun k1 hk1 => ?_
  simp only [entry, lend, jr, List.map_cons, List.map_nil, List.length_cons, List.length_nil, List.replicate_succ, List.replicate_zero, List.cons_append, List.nil_append, List.append_nil, Nat.reduceAdd, Nat.reduceSub, Nat.reduceMul, Nat.zero_add, dNext, dSet, dSetO, dPut, dPar, dPar3, dParOD, dParOO, dParDO, dRet, dRetO, dRetN, dDrop, dBin, dUn, dC, dVar, dCB, dCBO, daCons, daNil, daLend, dats, one, two, oneO, dIxO, dOwn1, dOwn2, fIx, fLen, dBl, dTru, dNot, dAnd, dOr, dAndV, dOrV, dNotV, dChain, dFr, dTup, dLst, dApp, dPopAt, dFor, diRng1, diRng2, diAny, gN, items, itemsD, oAdd, oSub, oMul, oDiv, oMod, oPow, oNeg, oCmp, oLt, oLe, oGt, oGe, oEq, oNe, oIn, oIsN, oNotN, isN, oIx, oLen, lenD, oInt, oAbs, oInts, oBool, oTuple, oAll, oAny, oSum, oSumA, oSl, dSl, pNo, pSo, oSorted, oList, oJoin, dMt1, dCall, dCallO, dCallT, argsOf, lent, opt, truth, MO.toD, Rv.toD, putOuts, putMO, List.getElem?_cons_zero, List.getElem?_cons_succ, List.set_cons_zero, List.set_cons_succ, Option.map_some, dIsi, dNo, at0, at1, at2, ix30, ix31, ix32, dComp, dYes, wipeD, back, dMake, dMeth, dLenSetS, oInD, dDict0, dDPut, dGet, dPar3DDO, dProp, dFld, dFldO, dFldSet, dSortSet, daKw, decide_eq_true_eq, shI, shS, shB, shN, eqI, eqS, true_and, List.contains_nil, beq_iff_eq, ↓reduceIte, Bool.false_eq_true]
  refine ⟨pw30, kilo_line (by decide), hk1 _ (seq_step fun k2 hk2 => ?_)⟩
  simp only [entry, lend, jr, List.map_cons, List.map_nil, List.length_cons, List.length_nil, List.replicate_succ, List.replicate_zero, List.cons_append, List.nil_append, List.append_nil, Nat.reduceAdd, Nat.reduceSub, Nat.reduceMul, Nat.zero_add, dNext, dSet, dSetO, dPut, dPar, dPar3, dParOD, dParOO, dParDO, dRet, dRetO, dRetN, dDrop, dBin, dUn, dC, dVar, dCB, dCBO, daCons, daNil, daLend, dats, one, two, oneO, dIxO, dOwn1, dOwn2, fIx, fLen, dBl, dTru, dNot, dAnd, dOr, dAndV, dOrV, dNotV, dChain, dFr, dTup, dLst, dApp, dPopAt, dFor, diRng1, diRng2, diAny, gN, items, itemsD, oAdd, oSub, oMul, oDiv, oMod, oPow, oNeg, oCmp, oLt, oLe, oGt, oGe, oEq, oNe, oIn, oIsN, oNotN, isN, oIx, oLen, lenD, oInt, oAbs, oInts, oBool, oTuple, oAll, oAny, oSum, oSumA, oSl, dSl, pNo, pSo, oSorted, oList, oJoin, dMt1, dCall, dCallO, dCallT, argsOf, lent, opt, truth, MO.toD, Rv.toD, putOuts, putMO, List.getElem?_cons_zero, List.getElem?_cons_succ, List.set_cons_zero, List.set_cons_succ, Option.map_some, dIsi, dNo, at0, at1, at2, ix30, ix31, ix32, dComp, dYes, wipeD, back, dMake, dMeth, dLenSetS, oInD, dDict0, dDPut, dGet, dPar3DDO, dProp, dFld, dFldO, dFldSet, dSortSet, daKw, decide_eq_true_eq, shI, shS, shB, shN, eqI, eqS, true_and, List.contains_nil, beq_iff_eq, ↓reduceIte, Bool.false_eq_true]
  refine ⟨kilo_line (by decide), kilo_line (by decide), kilo_line (by decide), kilo_line (by decide), kilo_line (by decide), kilo_line (by decide), by unfold Fits; omega, hk2 _ ?_⟩
  simp only [dDictC, entry, lend, jr, List.map_cons, List.map_nil, List.length_cons, List.length_nil, List.replicate_succ, List.replicate_zero, List.cons_append, List.nil_append, List.append_nil, Nat.reduceAdd, Nat.reduceSub, Nat.reduceMul, Nat.zero_add, dSeq, dNext, dSet, dSetO, dPut, dPar, dPar3, dParOD, dParOO, dParDO, dIfS, dRet, dRetO, dRetN, dDrop, dBin, dUn, dC, dVar, dCB, dCBO, daCons, daNil, daLend, dats, one, two, oneO, dIxO, dOwn1, dOwn2, fIx, fLen, dBl, dTru, dNot, dAnd, dOr, dIf, dAndV, dOrV, dNotV, dChain, dFr, dTup, dLst, dApp, dPopAt, dFor, diRng1, diRng2, diAny, gN, items, itemsD, oAdd, oSub, oMul, oDiv, oMod, oPow, oNeg, oCmp, oLt, oLe, oGt, oGe, oEq, oNe, oIn, oIsN, oNotN, isN, oIx, oLen, lenD, oInt, oAbs, oInts, oBool, oTuple, oAll, oAny, oSum, oSumA, oSl, dSl, pNo, pSo, oSorted, oList, oJoin, dMt1, dCall, dCallO, dCallT, argsOf, lent, opt, truth, MO.toD, Rv.toD, putOuts, putMO, List.getElem?_cons_zero, List.getElem?_cons_succ, List.set_cons_zero, List.set_cons_succ, Option.map_some, dIsi, dNo, at0, at1, at2, ix30, ix31, ix32, ends, outW, dComp, dYes, wipeD, back, dMake, dMeth, dLenSetS, oInD, dDict0, dDPut, dGet, dPar3DDO, dProp, dFld, dFldO, dFldSet, dSortSet, daKw, decide_eq_true_eq, shI, shS, shB, shN, eqI, eqS, true_and, List.contains_nil, beq_iff_eq, ↓reduceIte, Bool.false_eq_true]
  refine ⟨kilo_line (by decide), kilo_line (by decide), kilo_line (by decide), kilo_line (by decide), kilo_line (by decide), kilo_line (by decide), kilo_line (by decide), kilo_line (by decide), kilo_line (by decide), by unfold Fits; omega, ?_⟩
  refine use_pick (j := (_, _, _)) (by simp) (by simp) fun d j1 hd => ?_
  simp only [entry, lend, jr, List.map_cons, List.map_nil, List.length_cons, List.length_nil, List.replicate_succ, List.replicate_zero, List.cons_append, List.nil_append, List.append_nil, Nat.reduceAdd, Nat.reduceSub, Nat.reduceMul, Nat.zero_add, dSeq, dNext, dSet, dSetO, dPut, dPar, dPar3, dParOD, dParOO, dParDO, dIfS, dRet, dRetO, dRetN, dDrop, dBin, dUn, dC, dVar, dCB, dCBO, daCons, daNil, daLend, dats, one, two, oneO, dIxO, dOwn1, dOwn2, fIx, fLen, dBl, dTru, dNot, dAnd, dOr, dIf, dAndV, dOrV, dNotV, dChain, dFr, dTup, dLst, dApp, dPopAt, dFor, diRng1, diRng2, diAny, gN, items, itemsD, oAdd, oSub, oMul, oDiv, oMod, oPow, oNeg, oCmp, oLt, oLe, oGt, oGe, oEq, oNe, oIn, oIsN, oNotN, isN, oIx, oLen, lenD, oInt, oAbs, oInts, oBool, oTuple, oAll, oAny, oSum, oSumA, oSl, dSl, pNo, pSo, oSorted, oList, oJoin, dMt1, dCall, dCallO, dCallT, argsOf, lent, opt, truth, MO.toD, Rv.toD, putOuts, putMO, List.getElem?_cons_zero, List.getElem?_cons_succ, List.set_cons_zero, List.set_cons_succ, Option.map_some, dIsi, dNo, at0, at1, at2, ix30, ix31, ix32, ends, outW, dComp, dYes, wipeD, back, dMake, dMeth, dLenSetS, oInD, dDict0, dDPut, dGet, dPar3DDO, dProp, dFld, dFldO, dFldSet, dSortSet, daKw, decide_eq_true_eq, shI, shS, shB, shN, eqI, eqS, true_and, List.contains_nil, beq_iff_eq, ↓reduceIte, Bool.false_eq_true]
  exact fin d j1 hd
theorem odd_tsB : oddL.all (tsB 70) = true := by decide +kernel
theorem odd_ts {d : Dt} (h : d ∈ oddL) : Ts 70 d := by
  have h2 := List.all_eq_true.mp odd_tsB d h
  exact ⟨(odd_vl d h).2.1, h2⟩
theorem ts_mono {n m : Nat} (h : n ≤ m) {d : Dt} (t : Ts n d) : Ts m d := by
  refine ⟨t.1, ?_⟩
  have t2 := t.2
  cases d with
  | str l =>
    simp only [tsB, Bool.and_eq_true, decide_eq_true_eq] at t2 ⊢
    exact ⟨by omega, t2.2⟩
  | ins C fs => cases t2
  | _ =>
    simp only [tsB, Bool.and_eq_true, decide_eq_true_eq] at t2 ⊢
    exact ⟨t2.1, by omega, t2.2.2⟩
theorem ts_noIns {n : Nat} (hn : n ≤ 100000) {d : Dt} (t : Ts n d) : noIns d := by
  have t2 := t.2
  cases d with
  | str l =>
    simp only [tsB, Bool.and_eq_true, decide_eq_true_eq] at t2
    show l.length ≤ 100000
    omega
  | ins C fs => cases t2
  | _ => trivial
theorem ts_str {n : Nat} {l : List Nat} (h : l.length ≤ n) (a : ∀ c ∈ l, c < 128) : Ts n (.str l) := by
  refine ⟨by show Sh 8 (.str l); rw [shS]; trivial, ?_⟩
  simp only [tsB, Bool.and_eq_true, decide_eq_true_eq, List.all_eq_true]
  exact ⟨h, a⟩
/-- what str tells of such a value -/
theorem ts_txt {n : Nat} {d : Dt} (t : Ts n d) : (txtX d).length ≤ n ∧ ∀ c ∈ txtX d, c < 128 := by
  have t2 := t.2
  cases d with
  | str l =>
    simp only [tsB, Bool.and_eq_true, decide_eq_true_eq, List.all_eq_true] at t2
    exact t2
  | ins C fs => cases t2
  | _ =>
    simp only [tsB, Bool.and_eq_true, decide_eq_true_eq, List.all_eq_true] at t2
    exact ⟨Nat.le_trans (Nat.le_of_eq Array.length_toList) t2.2.1, t2.2.2⟩
theorem ts_strX {n : Nat} (hn : n ≤ 5000) {d : Dt} {k : Dt → Prop} (t : Ts n d) (h : k (.str (txtX d))) : oStrX d k := by
  have t2 := t.2
  cases d with
  | str l => exact h
  | ins C fs => cases t2
  | _ =>
    simp only [tsB, Bool.and_eq_true, decide_eq_true_eq, List.all_eq_true] at t2
    exact ⟨⟨t.1, t2.1, by unfold Fits; omega⟩, h⟩
theorem reprChar_low : ∀ c, c < 128 → ∀ q, q = 34 ∨ q = 39 → ∀ x ∈ Builtin.Str.reprChar q c, x < 128 := by
  have h : (List.range 128).all (fun c => (Builtin.Str.reprChar 34 c).all (· < 128) && (Builtin.Str.reprChar 39 c).all (· < 128)) = true := by decide +kernel
  intro c hc q hq x hx
  have := List.all_eq_true.mp h c (List.mem_range.mpr hc)
  rw [Bool.and_eq_true, List.all_eq_true, List.all_eq_true] at this
  rcases hq with rfl | rfl
  · exact of_decide_eq_true (this.1 x hx)
  · exact of_decide_eq_true (this.2 x hx)
theorem reprFold_low {q : Nat} (hq : q = 34 ∨ q = 39) : ∀ (l : List Nat) (acc : Array Nat), (∀ c ∈ l, c < 128) → (∀ x ∈ acc, x < 128) → ∀ x ∈ l.foldl (fun out c => out ++ (Builtin.Str.reprChar q c).toArray) acc, x < 128
  | [], acc, _, ha, x, hx => ha x hx
  | c :: r, acc, hl, ha, x, hx => by
    refine reprFold_low hq r _ (fun z hz => hl z (List.mem_cons_of_mem _ hz)) (fun z hz => ?_) x hx
    rcases Array.mem_append.mp hz with h | h
    · exact ha z h
    · exact reprChar_low c (hl c List.mem_cons_self) q hq z (by simpa using h)
theorem reprText_low {x : Str} (h : ∀ c ∈ x.cps.toList, c < 128) : ∀ c ∈ (reprText x).cps.toList, c < 128 := by
  have hq : reprQuote x = 34 ∨ reprQuote x = 39 := by
    unfold reprQuote
    split
    · exact .inl rfl
    · exact .inr rfl
  intro c hc
  unfold reprText at hc
  simp only [Array.toList_push, List.mem_append, List.mem_singleton] at hc
  have q128 : reprQuote x < 128 := by rcases hq with e | e <;> rw [e] <;> decide
  rcases hc with hc | rfl
  · rw [← Array.foldl_toList] at hc
    exact reprFold_low hq x.cps.toList _ h (fun z hz => by
      have : z = reprQuote x := by simpa using hz
      rw [this]; exact q128) c (Array.mem_toList_iff.mp hc)
  · exact q128
theorem ts_tup1 {n : Nat} {l : List Nat} (h : l.length ≤ n) (a : ∀ c ∈ l, c < 128) : Ts (10 * n + 10) (.tup [.str l]) := by
  have r : Rp 8 (.tup [.str l]) (10 * l.length + 2 + 2 * 1 + 3) := Rp.tup (RpA.one (Rp.str fun c hc => by have := a c hc; omega))
  refine ⟨r.1, ?_⟩
  have e : (pyX (.tup [.str l])).shown = tupleText [reprText (mkS l)] := by
    show (toPy (.tup [.str l])).shown = _
    simp only [toPy, toPys, PyData.shown, PyData.shownAll]
  have r2 : (pyX (.tup [.str l])).shown.length ≤ 10 * l.length + 2 + 2 * 1 + 3 := r.2.2
  simp only [tsB, Bool.and_eq_true, decide_eq_true_eq, List.all_eq_true]
  refine ⟨r.2.1, by omega, ?_⟩
  rw [e]
  intro c hc
  have e2 : (tupleText [reprText (mkS l)]).cps.toList = [40] ++ (reprText (mkS l)).cps.toList ++ [44, 41] := by
    show (((Str.ofString "(").cps ++ (reprText (mkS l)).cps) ++ (Str.ofString ",)").cps).toList = _
    rw [Array.toList_append, Array.toList_append]
    rfl
  rw [e2] at hc
  rcases List.mem_append.mp hc with hc | hc
  · rcases List.mem_append.mp hc with hc | hc
    · rw [List.mem_singleton.mp hc]; decide
    · exact reprText_low (x := mkS l) a c hc
  · simp only [List.mem_cons, List.not_mem_nil, or_false] at hc
    omega

theorem small_128 {c : Nat} (h : small c = true) : c < 128 := by
  unfold small at h
  rw [Bool.and_eq_true, decide_eq_true_eq, decide_eq_true_eq] at h
  omega
theorem row_get {n : Nat} {ds : List Dt} (h : Row n ds) {r : Int} (r0 : 0 ≤ r) (r1 : r < (ds.length : Int)) : ∃ d, L2.atI ds r = some d ∧ Ts n d := by
  have hr : r.toNat < ds.length := by omega
  have := atD (ds := ds) (i := r.toNat) hr
  rw [show ((r.toNat : Nat) : Int) = r by omega] at this
  exact ⟨_, this, h.2.2 _ (List.getElem_mem hr)⟩
theorem math_L_bent (K : PySem.W.Frag) : ∀ args Q U, sp_L_bent K args Q U → m_L_bent K (ends args Q U) (entry (List.length N_L_bent) args) := by
  rintro args Q U ⟨⟨⟨b, p, j⟩, n, ds⟩, rfl, ⟨n6, n100, hrow⟩, hQ⟩
  have n6 : 6 ≤ n := n6
  have n100 : n ≤ 100 := n100
  have hrow : Row n ds := hrow
  have fin : ∀ es j, Row (10 * n + 10) es → Q (.d (.tup es)) [jr j] := fun es j h => hQ (es, j) h
  clear hQ
  obtain ⟨ne, l60, _⟩ := id hrow
  have l0 : 0 < ds.length := List.length_pos_iff.mpr ne
  unfold m_L_bent
  refine seq_step fun k1 hk1 => ?_
  simp only [entry, lend, jr, List.map_cons, List.map_nil, List.length_cons, List.length_nil, List.replicate_succ, List.replicate_zero, List.cons_append, List.nil_append, List.append_nil, Nat.reduceAdd, Nat.reduceSub, Nat.reduceMul, Nat.zero_add, dNext, dSet, dSetO, dPut, dPar, dPar3, dParOD, dParOO, dParDO, dRet, dRetO, dRetN, dDrop, dBin, dUn, dC, dVar, dCB, dCBO, daCons, daNil, daLend, dats, one, two, oneO, dIxO, dOwn1, dOwn2, fIx, fLen, dBl, dTru, dNot, dAnd, dOr, dAndV, dOrV, dNotV, dChain, dFr, dTup, dLst, dApp, dPopAt, dFor, diRng1, diRng2, diAny, gN, items, itemsD, oAdd, oSub, oMul, oDiv, oMod, oPow, oNeg, oCmp, oLt, oLe, oGt, oGe, oEq, oNe, oIn, oIsN, oNotN, isN, oIx, oLen, lenD, oInt, oAbs, oInts, oBool, oTuple, oAll, oAny, oSum, oSumA, oSl, dSl, pNo, pSo, oSorted, oList, oJoin, dMt1, dCall, dCallO, dCallT, argsOf, lent, opt, truth, MO.toD, Rv.toD, putOuts, putMO, List.getElem?_cons_zero, List.getElem?_cons_succ, List.set_cons_zero, List.set_cons_succ, Option.map_some, dIsi, dNo, at0, at1, at2, ix30, ix31, ix32, dComp, dYes, wipeD, back, dMake, dMeth, dLenSetS, oInD, dDict0, dDPut, dGet, dPar3DDO, dProp, dFld, dFldO, dFldSet, dSortSet, daKw, decide_eq_true_eq, shI, shS, shB, shN, eqI, eqS, true_and, List.contains_nil, beq_iff_eq, ↓reduceIte, Bool.false_eq_true]
  refine use_dip (by omega) (by omega) fun a j a0 a1 => ?_
  simp only [entry, lend, jr, List.map_cons, List.map_nil, List.length_cons, List.length_nil, List.replicate_succ, List.replicate_zero, List.cons_append, List.nil_append, List.append_nil, Nat.reduceAdd, Nat.reduceSub, Nat.reduceMul, Nat.zero_add, dNext, dSet, dSetO, dPut, dPar, dPar3, dParOD, dParOO, dParDO, dRet, dRetO, dRetN, dDrop, dBin, dUn, dC, dVar, dCB, dCBO, daCons, daNil, daLend, dats, one, two, oneO, dIxO, dOwn1, dOwn2, fIx, fLen, dBl, dTru, dNot, dAnd, dOr, dAndV, dOrV, dNotV, dChain, dFr, dTup, dLst, dApp, dPopAt, dFor, diRng1, diRng2, diAny, gN, items, itemsD, oAdd, oSub, oMul, oDiv, oMod, oPow, oNeg, oCmp, oLt, oLe, oGt, oGe, oEq, oNe, oIn, oIsN, oNotN, isN, oIx, oLen, lenD, oInt, oAbs, oInts, oBool, oTuple, oAll, oAny, oSum, oSumA, oSl, dSl, pNo, pSo, oSorted, oList, oJoin, dMt1, dCall, dCallO, dCallT, argsOf, lent, opt, truth, MO.toD, Rv.toD, putOuts, putMO, List.getElem?_cons_zero, List.getElem?_cons_succ, List.set_cons_zero, List.set_cons_succ, Option.map_some, dIsi, dNo, at0, at1, at2, ix30, ix31, ix32, dComp, dYes, wipeD, back, dMake, dMeth, dLenSetS, oInD, dDict0, dDPut, dGet, dPar3DDO, dProp, dFld, dFldO, dFldSet, dSortSet, daKw, decide_eq_true_eq, shI, shS, shB, shN, eqI, eqS, true_and, List.contains_nil, beq_iff_eq, ↓reduceIte, Bool.false_eq_true]
  refine hk1 _ (seq_step fun k2 hk2 => ?_)
  obtain ⟨d, ad, td⟩ := row_get hrow a0 a1
  simp only [ad, entry, lend, jr, List.map_cons, List.map_nil, List.length_cons, List.length_nil, List.replicate_succ, List.replicate_zero, List.cons_append, List.nil_append, List.append_nil, Nat.reduceAdd, Nat.reduceSub, Nat.reduceMul, Nat.zero_add, dNext, dSet, dSetO, dPut, dPar, dPar3, dParOD, dParOO, dParDO, dRet, dRetO, dRetN, dDrop, dBin, dUn, dC, dVar, dCB, dCBO, daCons, daNil, daLend, dats, one, two, oneO, dIxO, dOwn1, dOwn2, fIx, fLen, dBl, dTru, dNot, dAnd, dOr, dAndV, dOrV, dNotV, dChain, dFr, dTup, dLst, dApp, dPopAt, dFor, diRng1, diRng2, diAny, gN, items, itemsD, oAdd, oSub, oMul, oDiv, oMod, oPow, oNeg, oCmp, oLt, oLe, oGt, oGe, oEq, oNe, oIn, oIsN, oNotN, isN, oIx, oLen, lenD, oInt, oAbs, oInts, oBool, oTuple, oAll, oAny, oSum, oSumA, oSl, dSl, pNo, pSo, oSorted, oList, oJoin, dMt1, dCall, dCallO, dCallT, argsOf, lent, opt, truth, MO.toD, Rv.toD, putOuts, putMO, List.getElem?_cons_zero, List.getElem?_cons_succ, List.set_cons_zero, List.set_cons_succ, Option.map_some, dIsi, dNo, at0, at1, at2, ix30, ix31, ix32, dComp, dYes, wipeD, back, dMake, dMeth, dLenSetS, oInD, dDict0, dDPut, dGet, dPar3DDO, dProp, dFld, dFldO, dFldSet, dSortSet, daKw, decide_eq_true_eq, shI, shS, shB, shN, eqI, eqS, true_and, List.contains_nil, beq_iff_eq, ↓reduceIte, Bool.false_eq_true]
  refine ts_strX (by omega) td ?_
  obtain ⟨tl, ta⟩ := ts_txt td
  generalize txtX d = T at tl ta ⊢
  refine hk2 _ (seq_step fun k3 hk3 => ?_)
  simp only [entry, lend, jr, List.map_cons, List.map_nil, List.length_cons, List.length_nil, List.replicate_succ, List.replicate_zero, List.cons_append, List.nil_append, List.append_nil, Nat.reduceAdd, Nat.reduceSub, Nat.reduceMul, Nat.zero_add, dNext, dSet, dSetO, dPut, dPar, dPar3, dParOD, dParOO, dParDO, dRet, dRetO, dRetN, dDrop, dBin, dUn, dC, dVar, dCB, dCBO, daCons, daNil, daLend, dats, one, two, oneO, dIxO, dOwn1, dOwn2, fIx, fLen, dBl, dTru, dNot, dAnd, dOr, dAndV, dOrV, dNotV, dChain, dFr, dTup, dLst, dApp, dPopAt, dFor, diRng1, diRng2, diAny, gN, items, itemsD, oAdd, oSub, oMul, oDiv, oMod, oPow, oNeg, oCmp, oLt, oLe, oGt, oGe, oEq, oNe, oIn, oIsN, oNotN, isN, oIx, oLen, lenD, oInt, oAbs, oInts, oBool, oTuple, oAll, oAny, oSum, oSumA, oSl, dSl, pNo, pSo, oSorted, oList, oJoin, dMt1, dCall, dCallO, dCallT, argsOf, lent, opt, truth, MO.toD, Rv.toD, putOuts, putMO, List.getElem?_cons_zero, List.getElem?_cons_succ, List.set_cons_zero, List.set_cons_succ, Option.map_some, dIsi, dNo, at0, at1, at2, ix30, ix31, ix32, dComp, dYes, wipeD, back, dMake, dMeth, dLenSetS, oInD, dDict0, dDPut, dGet, dPar3DDO, dProp, dFld, dFldO, dFldSet, dSortSet, daKw, decide_eq_true_eq, shI, shS, shB, shN, eqI, eqS, true_and, List.contains_nil, beq_iff_eq, ↓reduceIte, Bool.false_eq_true]
  refine use_pickS (j := j) (by decide) (by decide) fun g j hg => ?_
  have gc : g < 128 := by
    revert hg
    revert g
    decide
  simp only [entry, lend, jr, List.map_cons, List.map_nil, List.length_cons, List.length_nil, List.replicate_succ, List.replicate_zero, List.cons_append, List.nil_append, List.append_nil, Nat.reduceAdd, Nat.reduceSub, Nat.reduceMul, Nat.zero_add, dNext, dSet, dSetO, dPut, dPar, dPar3, dParOD, dParOO, dParDO, dRet, dRetO, dRetN, dDrop, dBin, dUn, dC, dVar, dCB, dCBO, daCons, daNil, daLend, dats, one, two, oneO, dIxO, dOwn1, dOwn2, fIx, fLen, dBl, dTru, dNot, dAnd, dOr, dAndV, dOrV, dNotV, dChain, dFr, dTup, dLst, dApp, dPopAt, dFor, diRng1, diRng2, diAny, gN, items, itemsD, oAdd, oSub, oMul, oDiv, oMod, oPow, oNeg, oCmp, oLt, oLe, oGt, oGe, oEq, oNe, oIn, oIsN, oNotN, isN, oIx, oLen, lenD, oInt, oAbs, oInts, oBool, oTuple, oAll, oAny, oSum, oSumA, oSl, dSl, pNo, pSo, oSorted, oList, oJoin, dMt1, dCall, dCallO, dCallT, argsOf, lent, opt, truth, MO.toD, Rv.toD, putOuts, putMO, List.getElem?_cons_zero, List.getElem?_cons_succ, List.set_cons_zero, List.set_cons_succ, Option.map_some, dIsi, dNo, at0, at1, at2, ix30, ix31, ix32, dComp, dYes, wipeD, back, dMake, dMeth, dLenSetS, oInD, dDict0, dDPut, dGet, dPar3DDO, dProp, dFld, dFldO, dFldSet, dSortSet, daKw, decide_eq_true_eq, shI, shS, shB, shN, eqI, eqS, true_and, List.contains_nil, beq_iff_eq, ↓reduceIte, Bool.false_eq_true]
  refine hk3 _ (seq_step fun k4 hk4 => ?_)
  simp only [oBack, entry, lend, jr, List.map_cons, List.map_nil, List.length_cons, List.length_nil, List.replicate_succ, List.replicate_zero, List.cons_append, List.nil_append, List.append_nil, Nat.reduceAdd, Nat.reduceSub, Nat.reduceMul, Nat.zero_add, dNext, dSet, dSetO, dPut, dPar, dPar3, dParOD, dParOO, dParDO, dRet, dRetO, dRetN, dDrop, dBin, dUn, dC, dVar, dCB, dCBO, daCons, daNil, daLend, dats, one, two, oneO, dIxO, dOwn1, dOwn2, fIx, fLen, dBl, dTru, dNot, dAnd, dOr, dAndV, dOrV, dNotV, dChain, dFr, dTup, dLst, dApp, dPopAt, dFor, diRng1, diRng2, diAny, gN, items, itemsD, oAdd, oSub, oMul, oDiv, oMod, oPow, oNeg, oCmp, oLt, oLe, oGt, oGe, oEq, oNe, oIn, oIsN, oNotN, isN, oIx, oLen, lenD, oInt, oAbs, oInts, oBool, oTuple, oAll, oAny, oSum, oSumA, oSl, dSl, pNo, pSo, oSorted, oList, oJoin, dMt1, dCall, dCallO, dCallT, argsOf, lent, opt, truth, MO.toD, Rv.toD, putOuts, putMO, List.getElem?_cons_zero, List.getElem?_cons_succ, List.set_cons_zero, List.set_cons_succ, Option.map_some, dIsi, dNo, at0, at1, at2, ix30, ix31, ix32, dComp, dYes, wipeD, back, dMake, dMeth, dLenSetS, oInD, dDict0, dDPut, dGet, dPar3DDO, dProp, dFld, dFldO, dFldSet, dSortSet, daKw, decide_eq_true_eq, shI, shS, shB, shN, eqI, eqS, true_and, List.contains_nil, beq_iff_eq, ↓reduceIte, Bool.false_eq_true]
  have cl : ∀ x y, (cutD T x y).length ≤ n := fun x y => Nat.le_trans (cut_len T x y) tl
  have cc : ∀ x y, ∀ c ∈ cutD T x y, c < 128 := fun x y c h => ta c (List.mem_of_mem_drop (List.mem_of_mem_take h))
  have c1 := cl none (some 1)
  have c2 := cl (some 1) none
  have c3 : (cutD T none (some 1)).length ≤ 1 := by
    have := cut_pre T 1
    rw [show cutD T none (some 1) = T.take 1 from this, List.length_take]
    omega
  have mn : n + 1 ≤ 10 * n + 10 := by omega
  have o1 : Ts (10 * n + 10) (.str T.reverse) := ts_str (by rw [List.length_reverse]; omega) fun c hc => ta c (List.mem_reverse.mp hc)
  have o2 : Ts (10 * n + 10) (.str (T ++ [113])) := ts_str (by rw [List.length_append, List.length_singleton]; omega) fun c hc => (List.mem_append.mp hc).elim (ta c) fun h => by rw [List.mem_singleton.mp h]; decide
  have o3 : Ts (10 * n + 10) (.str (cutD T (some 1) none)) := ts_str (by omega) (cc _ _)
  have o4 : Ts (10 * n + 10) (.str (cutD T none (some 1) ++ T)) := ts_str (by rw [List.length_append]; omega) fun c hc => (List.mem_append.mp hc).elim (cc _ _ c) (ta c)
  have o5 : Ts (10 * n + 10) (.str (g :: cutD T (some 1) none)) := ts_str (by rw [List.length_cons]; omega) fun c hc => (List.mem_cons.mp hc).elim (fun h => by rw [h]; exact gc) (cc _ _ c)
  have o6 : Ts (10 * n + 10) .non := ts_mono (show 70 ≤ _ by omega) (odd_ts (by unfold oddL; simp))
  have o7 : Ts (10 * n + 10) (.tup [.str T]) := ts_tup1 tl ta
  have o8 : Ts (10 * n + 10) (.int 0) := ts_mono (show 70 ≤ _ by omega) (odd_ts (by unfold oddL; simp))
  have o9 : Ts (10 * n + 10) (.str (T.map up1)) := ts_str (by rw [List.length_map]; omega) fun c hc => by
    obtain ⟨z, hz, rfl⟩ := List.mem_map.mp hc
    have := ta z hz
    unfold up1
    split <;> omega
  refine ⟨by unfold Fits; omega, by unfold Fits; omega, by unfold Fits; omega, kilo_line (by decide), hk4 _ (seq_step fun k5 hk5 => ?_)⟩
  generalize eL : [Dt.str T.reverse, Dt.str (T ++ [113]), Dt.str (cutD T (some 1) none), Dt.str (cutD T none (some 1) ++ T), Dt.str (g :: cutD T (some 1) none)] = L
  have hL : L.length = 5 ∧ ∀ d ∈ L, Ts (10 * n + 10) d := by
    rw [← eL]
    refine ⟨rfl, fun d hd => ?_⟩
    simp only [List.mem_cons, List.not_mem_nil, or_false] at hd
    rcases hd with rfl | rfl | rfl | rfl | rfl
    · exact o1
    · exact o2
    · exact o3
    · exact o4
    · exact o5
  simp only [dMt0, oUpper, entry, lend, jr, List.map_cons, List.map_nil, List.length_cons, List.length_nil, List.replicate_succ, List.replicate_zero, List.cons_append, List.nil_append, List.append_nil, Nat.reduceAdd, Nat.reduceSub, Nat.reduceMul, Nat.zero_add, dNext, dSet, dSetO, dPut, dPar, dPar3, dParOD, dParOO, dParDO, dRet, dRetO, dRetN, dDrop, dBin, dUn, dC, dVar, dCB, dCBO, daCons, daNil, daLend, dats, one, two, oneO, dIxO, dOwn1, dOwn2, fIx, fLen, dBl, dTru, dNot, dAnd, dOr, dAndV, dOrV, dNotV, dChain, dFr, dTup, dLst, dApp, dPopAt, dFor, diRng1, diRng2, diAny, gN, items, itemsD, oAdd, oSub, oMul, oDiv, oMod, oPow, oNeg, oCmp, oLt, oLe, oGt, oGe, oEq, oNe, oIn, oIsN, oNotN, isN, oIx, oLen, lenD, oInt, oAbs, oInts, oBool, oTuple, oAll, oAny, oSum, oSumA, oSl, dSl, pNo, pSo, oSorted, oList, oJoin, dMt1, dCall, dCallO, dCallT, argsOf, lent, opt, truth, MO.toD, Rv.toD, putOuts, putMO, List.getElem?_cons_zero, List.getElem?_cons_succ, List.set_cons_zero, List.set_cons_succ, Option.map_some, dIsi, dNo, at0, at1, at2, ix30, ix31, ix32, dComp, dYes, wipeD, back, dMake, dMeth, dLenSetS, oInD, dDict0, dDPut, dGet, dPar3DDO, dProp, dFld, dFldO, dFldSet, dSortSet, daKw, decide_eq_true_eq, shI, shS, shB, shN, eqI, eqS, true_and, List.contains_nil, beq_iff_eq, ↓reduceIte, Bool.false_eq_true]
  refine ⟨kilo_line (by decide), ⟨List.all_eq_true.mpr fun c hc => decide_eq_true (ta c hc), by omega⟩, use_odd (j := j) fun o j ho => ?_⟩
  simp only [entry, lend, jr, List.map_cons, List.map_nil, List.length_cons, List.length_nil, List.replicate_succ, List.replicate_zero, List.cons_append, List.nil_append, List.append_nil, Nat.reduceAdd, Nat.reduceSub, Nat.reduceMul, Nat.zero_add, dNext, dSet, dSetO, dPut, dPar, dPar3, dParOD, dParOO, dParDO, dRet, dRetO, dRetN, dDrop, dBin, dUn, dC, dVar, dCB, dCBO, daCons, daNil, daLend, dats, one, two, oneO, dIxO, dOwn1, dOwn2, fIx, fLen, dBl, dTru, dNot, dAnd, dOr, dAndV, dOrV, dNotV, dChain, dFr, dTup, dLst, dApp, dPopAt, dFor, diRng1, diRng2, diAny, gN, items, itemsD, oAdd, oSub, oMul, oDiv, oMod, oPow, oNeg, oCmp, oLt, oLe, oGt, oGe, oEq, oNe, oIn, oIsN, oNotN, isN, oIx, oLen, lenD, oInt, oAbs, oInts, oBool, oTuple, oAll, oAny, oSum, oSumA, oSl, dSl, pNo, pSo, oSorted, oList, oJoin, dMt1, dCall, dCallO, dCallT, argsOf, lent, opt, truth, MO.toD, Rv.toD, putOuts, putMO, List.getElem?_cons_zero, List.getElem?_cons_succ, List.set_cons_zero, List.set_cons_succ, Option.map_some, dIsi, dNo, at0, at1, at2, ix30, ix31, ix32, dComp, dYes, wipeD, back, dMake, dMeth, dLenSetS, oInD, dDict0, dDPut, dGet, dPar3DDO, dProp, dFld, dFldO, dFldSet, dSortSet, daKw, decide_eq_true_eq, shI, shS, shB, shN, eqI, eqS, true_and, List.contains_nil, beq_iff_eq, ↓reduceIte, Bool.false_eq_true]
  refine ⟨kilo_line (by decide), by unfold Fits; omega, hk5 _ ?_⟩
  simp only [entry, lend, jr, List.map_cons, List.map_nil, List.length_cons, List.length_nil, List.replicate_succ, List.replicate_zero, List.cons_append, List.nil_append, List.append_nil, Nat.reduceAdd, Nat.reduceSub, Nat.reduceMul, Nat.zero_add, dSeq, dNext, dSet, dSetO, dPut, dPar, dPar3, dParOD, dParOO, dParDO, dIfS, dRet, dRetO, dRetN, dDrop, dBin, dUn, dC, dVar, dCB, dCBO, daCons, daNil, daLend, dats, one, two, oneO, dIxO, dOwn1, dOwn2, fIx, fLen, dBl, dTru, dNot, dAnd, dOr, dIf, dAndV, dOrV, dNotV, dChain, dFr, dTup, dLst, dApp, dPopAt, dFor, diRng1, diRng2, diAny, gN, items, itemsD, oAdd, oSub, oMul, oDiv, oMod, oPow, oNeg, oCmp, oLt, oLe, oGt, oGe, oEq, oNe, oIn, oIsN, oNotN, isN, oIx, oLen, lenD, oInt, oAbs, oInts, oBool, oTuple, oAll, oAny, oSum, oSumA, oSl, dSl, pNo, pSo, oSorted, oList, oJoin, dMt1, dCall, dCallO, dCallT, argsOf, lent, opt, truth, MO.toD, Rv.toD, putOuts, putMO, List.getElem?_cons_zero, List.getElem?_cons_succ, List.set_cons_zero, List.set_cons_succ, Option.map_some, dIsi, dNo, at0, at1, at2, ix30, ix31, ix32, ends, outW, dComp, dYes, wipeD, back, dMake, dMeth, dLenSetS, oInD, dDict0, dDPut, dGet, dPar3DDO, dProp, dFld, dFldO, dFldSet, dSortSet, daKw, decide_eq_true_eq, shI, shS, shB, shN, eqI, eqS, true_and, List.contains_nil, beq_iff_eq, ↓reduceIte, Bool.false_eq_true]
  refine use_pick (j := j) (by simp) (by rw [List.length_append]; simp only [List.length_cons, List.length_nil]; omega) fun v j hv => ?_
  have tv : Ts (10 * n + 10) v := by
    rcases List.mem_append.mp hv with h | h
    · exact hL.2 v h
    · simp only [List.mem_cons, List.not_mem_nil, or_false] at h
      rcases h with rfl | rfl | rfl | rfl | rfl
      · exact o6
      · exact o7
      · exact o8
      · exact o9
      · exact ts_mono (show 70 ≤ _ by omega) (odd_ts ho)
  simp only [entry, lend, jr, List.map_cons, List.map_nil, List.length_cons, List.length_nil, List.replicate_succ, List.replicate_zero, List.cons_append, List.nil_append, List.append_nil, Nat.reduceAdd, Nat.reduceSub, Nat.reduceMul, Nat.zero_add, dSeq, dNext, dSet, dSetO, dPut, dPar, dPar3, dParOD, dParOO, dParDO, dIfS, dRet, dRetO, dRetN, dDrop, dBin, dUn, dC, dVar, dCB, dCBO, daCons, daNil, daLend, dats, one, two, oneO, dIxO, dOwn1, dOwn2, fIx, fLen, dBl, dTru, dNot, dAnd, dOr, dIf, dAndV, dOrV, dNotV, dChain, dFr, dTup, dLst, dApp, dPopAt, dFor, diRng1, diRng2, diAny, gN, items, itemsD, oAdd, oSub, oMul, oDiv, oMod, oPow, oNeg, oCmp, oLt, oLe, oGt, oGe, oEq, oNe, oIn, oIsN, oNotN, isN, oIx, oLen, lenD, oInt, oAbs, oInts, oBool, oTuple, oAll, oAny, oSum, oSumA, oSl, dSl, pNo, pSo, oSorted, oList, oJoin, dMt1, dCall, dCallO, dCallT, argsOf, lent, opt, truth, MO.toD, Rv.toD, putOuts, putMO, List.getElem?_cons_zero, List.getElem?_cons_succ, List.set_cons_zero, List.set_cons_succ, Option.map_some, dIsi, dNo, at0, at1, at2, ix30, ix31, ix32, ends, outW, dComp, dYes, wipeD, back, dMake, dMeth, dLenSetS, oInD, dDict0, dDPut, dGet, dPar3DDO, dProp, dFld, dFldO, dFldSet, dSortSet, daKw, decide_eq_true_eq, shI, shS, shB, shN, eqI, eqS, true_and, List.contains_nil, beq_iff_eq, ↓reduceIte, Bool.false_eq_true]
  have p1 := cut_pre ds a.toNat
  have p2 := cut_suf ds (a.toNat + 1)
  rw [show ((a.toNat : Nat) : Int) = a by omega] at p1
  rw [show (((a.toNat + 1 : Nat)) : Int) = a + 1 by omega] at p2
  rw [p1, p2]
  have q1 : (ds.take a.toNat).length = a.toNat := by rw [List.length_take]; omega
  have q2 : (ds.drop (a.toNat + 1)).length = ds.length - (a.toNat + 1) := List.length_drop
  have q3 : (ds.take a.toNat ++ [v]).length = a.toNat + 1 := by rw [List.length_append, q1, List.length_singleton]
  refine ⟨one_line, by unfold Fits; omega, by unfold Fits; omega, fin _ j ⟨by simp, by rw [List.length_append, q3, q2]; omega, fun x hx => ?_⟩⟩
  rcases List.mem_append.mp hx with h | h
  · rcases List.mem_append.mp h with h | h
    · exact ts_mono (show n ≤ _ by omega) (hrow.2.2 x (List.mem_of_mem_take h))
    · rw [List.mem_singleton.mp h]; exact tv
  · exact ts_mono (show n ≤ _ by omega) (hrow.2.2 x (List.mem_of_mem_drop h))
theorem math_L_many (K : PySem.W.Frag) : ∀ args Q U, sp_L_many K args Q U → m_L_many K (ends args Q U) (entry (List.length N_L_many) args) := by
  rintro args Q U ⟨⟨⟨b, p, j⟩, x⟩, rfl, _, hQ⟩
  have fin : ∀ lot j, Row 6 (stL lot) → Q (.d (.tup (stL lot))) [jr j] := fun lot j h => hQ (lot, j) h
  clear hQ
  unfold m_L_many
  refine seq_step fun k1 hk1 => ?_
  simp only [entry, lend, jr, List.map_cons, List.map_nil, List.length_cons, List.length_nil, List.replicate_succ, List.replicate_zero, List.cons_append, List.nil_append, List.append_nil, Nat.reduceAdd, Nat.reduceSub, Nat.reduceMul, Nat.zero_add, dNext, dSet, dSetO, dPut, dPar, dPar3, dParOD, dParOO, dParDO, dRet, dRetO, dRetN, dDrop, dBin, dUn, dC, dVar, dCB, dCBO, daCons, daNil, daLend, dats, one, two, oneO, dIxO, dOwn1, dOwn2, fIx, fLen, dBl, dTru, dNot, dAnd, dOr, dAndV, dOrV, dNotV, dChain, dFr, dTup, dLst, dApp, dPopAt, dFor, diRng1, diRng2, diAny, gN, items, itemsD, oAdd, oSub, oMul, oDiv, oMod, oPow, oNeg, oCmp, oLt, oLe, oGt, oGe, oEq, oNe, oIn, oIsN, oNotN, isN, oIx, oLen, lenD, oInt, oAbs, oInts, oBool, oTuple, oAll, oAny, oSum, oSumA, oSl, dSl, pNo, pSo, oSorted, oList, oJoin, dMt1, dCall, dCallO, dCallT, argsOf, lent, opt, truth, MO.toD, Rv.toD, putOuts, putMO, List.getElem?_cons_zero, List.getElem?_cons_succ, List.set_cons_zero, List.set_cons_succ, Option.map_some, dIsi, dNo, at0, at1, at2, ix30, ix31, ix32, dComp, dYes, wipeD, back, dMake, dMeth, dLenSetS, oInD, dDict0, dDPut, dGet, dPar3DDO, dProp, dFld, dFldO, dFldSet, dSortSet, daKw, decide_eq_true_eq, shI, shS, shB, shN, eqI, eqS, true_and, List.contains_nil, beq_iff_eq, ↓reduceIte, Bool.false_eq_true]
  refine ⟨Nat.zero_le _, fun p2 => ⟨((true, p, j), 5), rfl, by show 5 ≤ 11; decide, fun y hy => ?_⟩⟩
  obtain ⟨L, j⟩ := y
  obtain ⟨l5, _, sm⟩ : L.length = 5 ∧ L.Pairwise (· < ·) ∧ ∀ c ∈ L, small c = true := hy
  simp only [entry, lend, jr, List.map_cons, List.map_nil, List.length_cons, List.length_nil, List.replicate_succ, List.replicate_zero, List.cons_append, List.nil_append, List.append_nil, Nat.reduceAdd, Nat.reduceSub, Nat.reduceMul, Nat.zero_add, dNext, dSet, dSetO, dPut, dPar, dPar3, dParOD, dParOO, dParDO, dRet, dRetO, dRetN, dDrop, dBin, dUn, dC, dVar, dCB, dCBO, daCons, daNil, daLend, dats, one, two, oneO, dIxO, dOwn1, dOwn2, fIx, fLen, dBl, dTru, dNot, dAnd, dOr, dAndV, dOrV, dNotV, dChain, dFr, dTup, dLst, dApp, dPopAt, dFor, diRng1, diRng2, diAny, gN, items, itemsD, oAdd, oSub, oMul, oDiv, oMod, oPow, oNeg, oCmp, oLt, oLe, oGt, oGe, oEq, oNe, oIn, oIsN, oNotN, isN, oIx, oLen, lenD, oInt, oAbs, oInts, oBool, oTuple, oAll, oAny, oSum, oSumA, oSl, dSl, pNo, pSo, oSorted, oList, oJoin, dMt1, dCall, dCallO, dCallT, argsOf, lent, opt, truth, MO.toD, Rv.toD, putOuts, putMO, List.getElem?_cons_zero, List.getElem?_cons_succ, List.set_cons_zero, List.set_cons_succ, Option.map_some, dIsi, dNo, at0, at1, at2, ix30, ix31, ix32, dComp, dYes, wipeD, back, dMake, dMeth, dLenSetS, oInD, dDict0, dDPut, dGet, dPar3DDO, dProp, dFld, dFldO, dFldSet, dSortSet, daKw, decide_eq_true_eq, shI, shS, shB, shN, eqI, eqS, true_and, List.contains_nil, beq_iff_eq, ↓reduceIte, Bool.false_eq_true]
  refine hk1 _ (seq_step fun k2 hk2 => ?_)
  simp only [entry, lend, jr, List.map_cons, List.map_nil, List.length_cons, List.length_nil, List.replicate_succ, List.replicate_zero, List.cons_append, List.nil_append, List.append_nil, Nat.reduceAdd, Nat.reduceSub, Nat.reduceMul, Nat.zero_add, dNext, dSet, dSetO, dPut, dPar, dPar3, dParOD, dParOO, dParDO, dRet, dRetO, dRetN, dDrop, dBin, dUn, dC, dVar, dCB, dCBO, daCons, daNil, daLend, dats, one, two, oneO, dIxO, dOwn1, dOwn2, fIx, fLen, dBl, dTru, dNot, dAnd, dOr, dAndV, dOrV, dNotV, dChain, dFr, dTup, dLst, dApp, dPopAt, dFor, diRng1, diRng2, diAny, gN, items, itemsD, oAdd, oSub, oMul, oDiv, oMod, oPow, oNeg, oCmp, oLt, oLe, oGt, oGe, oEq, oNe, oIn, oIsN, oNotN, isN, oIx, oLen, lenD, oInt, oAbs, oInts, oBool, oTuple, oAll, oAny, oSum, oSumA, oSl, dSl, pNo, pSo, oSorted, oList, oJoin, dMt1, dCall, dCallO, dCallT, argsOf, lent, opt, truth, MO.toD, Rv.toD, putOuts, putMO, List.getElem?_cons_zero, List.getElem?_cons_succ, List.set_cons_zero, List.set_cons_succ, Option.map_some, dIsi, dNo, at0, at1, at2, ix30, ix31, ix32, dComp, dYes, wipeD, back, dMake, dMeth, dLenSetS, oInD, dDict0, dDPut, dGet, dPar3DDO, dProp, dFld, dFldO, dFldSet, dSortSet, daKw, decide_eq_true_eq, shI, shS, shB, shN, eqI, eqS, true_and, List.contains_nil, beq_iff_eq, ↓reduceIte, Bool.false_eq_true]
  refine ⟨by decide, by decide, ?_⟩
  refine loop_range 0 150 (fun i ρ => ∃ (j : Jr) (s1 : Sl) (ls : List (List Nat)), ls.length = i ∧ (∀ l ∈ ls, l.Perm L) ∧ ρ = [.own true p (jr j), s1, .own false p2 (.lst (stL ls)), .dat (.str L)]) ⟨j, _, [], rfl, nofun, rfl⟩ ?_ ?_
  · rintro i ρ k hi ⟨j, s1, ls, ln, hp, rfl⟩ hk
    simp only [gN, entry, lend, jr, List.map_cons, List.map_nil, List.length_cons, List.length_nil, List.replicate_succ, List.replicate_zero, List.cons_append, List.nil_append, List.append_nil, Nat.reduceAdd, Nat.reduceSub, Nat.reduceMul, Nat.zero_add, dSeq, dNext, dSet, dSetO, dPut, dPar, dPar3, dParOD, dParOO, dParDO, dIfS, dRet, dRetO, dRetN, dDrop, dBin, dUn, dC, dVar, dCB, dCBO, daCons, daNil, daLend, dats, one, two, oneO, dIxO, dOwn1, dOwn2, fIx, fLen, dBl, dTru, dNot, dAnd, dOr, dIf, dAndV, dOrV, dNotV, dChain, dFr, dTup, dLst, dApp, dPopAt, dFor, diRng1, diRng2, diAny, gN, items, itemsD, oAdd, oSub, oMul, oDiv, oMod, oPow, oNeg, oCmp, oLt, oLe, oGt, oGe, oEq, oNe, oIn, oIsN, oNotN, isN, oIx, oLen, lenD, oInt, oAbs, oInts, oBool, oTuple, oAll, oAny, oSum, oSumA, oSl, dSl, pNo, pSo, oSorted, oList, oJoin, dMt1, dCall, dCallO, dCallT, argsOf, lent, opt, truth, MO.toD, Rv.toD, putOuts, putMO, List.getElem?_cons_zero, List.getElem?_cons_succ, List.set_cons_zero, List.set_cons_succ, Option.map_some, dIsi, dNo, at0, at1, at2, ix30, ix31, ix32, ends, outW, dComp, dYes, wipeD, back, dMake, dMeth, dLenSetS, oInD, dDict0, dDPut, dGet, dPar3DDO, dProp, dFld, dFldO, dFldSet, dSortSet, daKw, decide_eq_true_eq, shI, shS, shB, shN, eqI, eqS, true_and, List.contains_nil, beq_iff_eq, ↓reduceIte, Bool.false_eq_true]
    refine ⟨((true, p, j), L), rfl, by show L.length ≤ 26; omega, fun y hy => ?_⟩
    obtain ⟨M, j⟩ := y
    have hM : M.Perm L := hy
    simp only [entry, lend, jr, List.map_cons, List.map_nil, List.length_cons, List.length_nil, List.replicate_succ, List.replicate_zero, List.cons_append, List.nil_append, List.append_nil, Nat.reduceAdd, Nat.reduceSub, Nat.reduceMul, Nat.zero_add, dSeq, dNext, dSet, dSetO, dPut, dPar, dPar3, dParOD, dParOO, dParDO, dIfS, dRet, dRetO, dRetN, dDrop, dBin, dUn, dC, dVar, dCB, dCBO, daCons, daNil, daLend, dats, one, two, oneO, dIxO, dOwn1, dOwn2, fIx, fLen, dBl, dTru, dNot, dAnd, dOr, dIf, dAndV, dOrV, dNotV, dChain, dFr, dTup, dLst, dApp, dPopAt, dFor, diRng1, diRng2, diAny, gN, items, itemsD, oAdd, oSub, oMul, oDiv, oMod, oPow, oNeg, oCmp, oLt, oLe, oGt, oGe, oEq, oNe, oIn, oIsN, oNotN, isN, oIx, oLen, lenD, oInt, oAbs, oInts, oBool, oTuple, oAll, oAny, oSum, oSumA, oSl, dSl, pNo, pSo, oSorted, oList, oJoin, dMt1, dCall, dCallO, dCallT, argsOf, lent, opt, truth, MO.toD, Rv.toD, putOuts, putMO, List.getElem?_cons_zero, List.getElem?_cons_succ, List.set_cons_zero, List.set_cons_succ, Option.map_some, dIsi, dNo, at0, at1, at2, ix30, ix31, ix32, ends, outW, dComp, dYes, wipeD, back, dMake, dMeth, dLenSetS, oInD, dDict0, dDPut, dGet, dPar3DDO, dProp, dFld, dFldO, dFldSet, dSortSet, daKw, decide_eq_true_eq, shI, shS, shB, shN, eqI, eqS, true_and, List.contains_nil, beq_iff_eq, ↓reduceIte, Bool.false_eq_true]
    have e : stL ls ++ [Dt.str M] = stL (ls ++ [M]) := by unfold stL; rw [List.map_append]; rfl
    have ll : (stL ls).length = ls.length := List.length_map _
    rw [e]
    refine ⟨by unfold Fits; omega, hk _ ⟨j, _, ls ++ [M], by rw [List.length_append, ln]; rfl, fun l hl => ?_, rfl⟩⟩
    rcases List.mem_append.mp hl with h | h
    · exact hp l h
    · rw [List.mem_singleton.mp h]; exact hM
  · rintro ρ ⟨j, s1, ls, ln, hp, rfl⟩
    refine hk2 _ ?_
    simp only [dSortSetW, stL, strsD_map, entry, lend, jr, List.map_cons, List.map_nil, List.length_cons, List.length_nil, List.replicate_succ, List.replicate_zero, List.cons_append, List.nil_append, List.append_nil, Nat.reduceAdd, Nat.reduceSub, Nat.reduceMul, Nat.zero_add, dSeq, dNext, dSet, dSetO, dPut, dPar, dPar3, dParOD, dParOO, dParDO, dIfS, dRet, dRetO, dRetN, dDrop, dBin, dUn, dC, dVar, dCB, dCBO, daCons, daNil, daLend, dats, one, two, oneO, dIxO, dOwn1, dOwn2, fIx, fLen, dBl, dTru, dNot, dAnd, dOr, dIf, dAndV, dOrV, dNotV, dChain, dFr, dTup, dLst, dApp, dPopAt, dFor, diRng1, diRng2, diAny, gN, items, itemsD, oAdd, oSub, oMul, oDiv, oMod, oPow, oNeg, oCmp, oLt, oLe, oGt, oGe, oEq, oNe, oIn, oIsN, oNotN, isN, oIx, oLen, lenD, oInt, oAbs, oInts, oBool, oTuple, oAll, oAny, oSum, oSumA, oSl, dSl, pNo, pSo, oSorted, oList, oJoin, dMt1, dCall, dCallO, dCallT, argsOf, lent, opt, truth, MO.toD, Rv.toD, putOuts, putMO, List.getElem?_cons_zero, List.getElem?_cons_succ, List.set_cons_zero, List.set_cons_succ, Option.map_some, dIsi, dNo, at0, at1, at2, ix30, ix31, ix32, ends, outW, dComp, dYes, wipeD, back, dMake, dMeth, dLenSetS, oInD, dDict0, dDPut, dGet, dPar3DDO, dProp, dFld, dFldO, dFldSet, dSortSet, daKw, decide_eq_true_eq, shI, shS, shB, shN, eqI, eqS, true_and, List.contains_nil, beq_iff_eq, ↓reduceIte, Bool.false_eq_true]
    refine ⟨by omega, use_dip (by decide) (by decide) fun r j r0 r1 => ?_⟩
    simp only [entry, lend, jr, List.map_cons, List.map_nil, List.length_cons, List.length_nil, List.replicate_succ, List.replicate_zero, List.cons_append, List.nil_append, List.append_nil, Nat.reduceAdd, Nat.reduceSub, Nat.reduceMul, Nat.zero_add, dSeq, dNext, dSet, dSetO, dPut, dPar, dPar3, dParOD, dParOO, dParDO, dIfS, dRet, dRetO, dRetN, dDrop, dBin, dUn, dC, dVar, dCB, dCBO, daCons, daNil, daLend, dats, one, two, oneO, dIxO, dOwn1, dOwn2, fIx, fLen, dBl, dTru, dNot, dAnd, dOr, dIf, dAndV, dOrV, dNotV, dChain, dFr, dTup, dLst, dApp, dPopAt, dFor, diRng1, diRng2, diAny, gN, items, itemsD, oAdd, oSub, oMul, oDiv, oMod, oPow, oNeg, oCmp, oLt, oLe, oGt, oGe, oEq, oNe, oIn, oIsN, oNotN, isN, oIx, oLen, lenD, oInt, oAbs, oInts, oBool, oTuple, oAll, oAny, oSum, oSumA, oSl, dSl, pNo, pSo, oSorted, oList, oJoin, dMt1, dCall, dCallO, dCallT, argsOf, lent, opt, truth, MO.toD, Rv.toD, putOuts, putMO, List.getElem?_cons_zero, List.getElem?_cons_succ, List.set_cons_zero, List.set_cons_succ, Option.map_some, dIsi, dNo, at0, at1, at2, ix30, ix31, ix32, ends, outW, dComp, dYes, wipeD, back, dMake, dMeth, dLenSetS, oInD, dDict0, dDPut, dGet, dPar3DDO, dProp, dFld, dFldO, dFldSet, dSortSet, daKw, decide_eq_true_eq, shI, shS, shB, shN, eqI, eqS, true_and, List.contains_nil, beq_iff_eq, ↓reduceIte, Bool.false_eq_true]
    have pr := cut_pre (srtL (dd ls)) (47 + r).toNat
    rw [show (((47 + r).toNat : Nat) : Int) = 47 + r by omega] at pr
    rw [cut_map, pr]
    have ms : ∀ l ∈ srtL (dd ls), l ∈ ls := fun l hl => by
      have := (dd_mem l ls []).mp ((srtL_perm _).mem_iff.mp hl)
      exact this.elim id fun h => nomatch h
    have nz : ls ≠ [] := fun e => by rw [e] at ln; cases ln
    obtain ⟨l0, r0', e0⟩ := List.exists_cons_of_ne_nil nz
    have m0 : l0 ∈ srtL (dd ls) := (srtL_perm _).mem_iff.mpr ((dd_mem l0 ls []).mpr (.inl (by rw [e0]; exact List.mem_cons_self)))
    have ns : srtL (dd ls) ≠ [] := fun e => by rw [e] at m0; cases m0
    refine fin ((srtL (dd ls)).take (47 + r).toNat) j ⟨fun e => ?_, ?_, fun d hd => ?_⟩
    · have := congrArg List.length e
      rw [show (stL ((srtL (dd ls)).take (47 + r).toNat)).length = ((srtL (dd ls)).take (47 + r).toNat).length from List.length_map _, List.length_take, List.length_nil] at this
      have := List.length_pos_iff.mpr ns
      omega
    · rw [show (stL ((srtL (dd ls)).take (47 + r).toNat)).length = ((srtL (dd ls)).take (47 + r).toNat).length from List.length_map _, List.length_take]
      omega
    · obtain ⟨l, hl, rfl⟩ := List.mem_map.mp hd
      have hl := hp l (ms l (List.mem_of_mem_take hl))
      exact ts_str (by rw [hl.length_eq]; omega) fun c hc => small_128 (sm c (hl.mem_iff.mp hc))
theorem is_one {C : Addr} {b : Bool} {k : Bool → Prop} : (∃ b', (C, b') ∈ [(C, b)] ∧ k b') = k b := by simp
theorem math_L_bases (K : PySem.W.Frag) : ∀ q args Q U, sp_L_bases K q args Q U → m_L_bases K q (ends args Q U) (entry (List.length N_L_bases) args) := by
  rintro q args Q U ⟨⟨d, v⟩, rfl, _, hQ⟩
  have fin : Q (.d (.lst [.bl true, .bl false, .bl false])) [] := hQ () trivial
  unfold m_L_bases
  simp only [dIsE, is_one, entry, lend, jr, List.map_cons, List.map_nil, List.length_cons, List.length_nil, List.replicate_succ, List.replicate_zero, List.cons_append, List.nil_append, List.append_nil, Nat.reduceAdd, Nat.reduceSub, Nat.reduceMul, Nat.zero_add, dSeq, dNext, dSet, dSetO, dPut, dPar, dPar3, dParOD, dParOO, dParDO, dIfS, dRet, dRetO, dRetN, dDrop, dBin, dUn, dC, dVar, dCB, dCBO, daCons, daNil, daLend, dats, one, two, oneO, dIxO, dOwn1, dOwn2, fIx, fLen, dBl, dTru, dNot, dAnd, dOr, dIf, dAndV, dOrV, dNotV, dChain, dFr, dTup, dLst, dApp, dPopAt, dFor, diRng1, diRng2, diAny, gN, items, itemsD, oAdd, oSub, oMul, oDiv, oMod, oPow, oNeg, oCmp, oLt, oLe, oGt, oGe, oEq, oNe, oIn, oIsN, oNotN, isN, oIx, oLen, lenD, oInt, oAbs, oInts, oBool, oTuple, oAll, oAny, oSum, oSumA, oSl, dSl, pNo, pSo, oSorted, oList, oJoin, dMt1, dCall, dCallO, dCallT, argsOf, lent, opt, truth, MO.toD, Rv.toD, putOuts, putMO, List.getElem?_cons_zero, List.getElem?_cons_succ, List.set_cons_zero, List.set_cons_succ, Option.map_some, dIsi, dNo, at0, at1, at2, ix30, ix31, ix32, ends, outW, dComp, dYes, wipeD, back, dMake, dMeth, dLenSetS, oInD, dDict0, dDPut, dGet, dPar3DDO, dProp, dFld, dFldO, dFldSet, dSortSet, daKw, decide_eq_true_eq, shI, shS, shB, shN, eqI, eqS, true_and, List.contains_nil, beq_iff_eq, ↓reduceIte, Bool.false_eq_true]
  exact ⟨one_line, fun p => ⟨by unfold Fits; omega, one_line, by unfold Fits; omega, fin⟩⟩
theorem use_bases {K : PySem.W.Frag} {q : Addr × Obj} {d : Option Addr} {v : Dt} {Q : Rv → List MO → Prop} {U : Xn → List MO → Prop} (h : Q (.d (.lst [.bl true, .bl false, .bl false])) []) : sp_L_bases K q [.exc q (He.ga K "InvalidOrders") d [("index", v)]] Q U :=
  use_F (A := fun x : Option Addr × Dt => [.exc q (He.ga K "InvalidOrders") x.1 [("index", x.2)]]) (d, v) trivial h
theorem math_L_shown (K : PySem.W.Frag) : ∀ q args Q U, sp_L_shown K q args Q U → m_L_shown K q (ends args Q U) (entry (List.length N_L_shown) args) := by
  rintro q args Q U ⟨⟨d, v⟩, rfl, hv, hQ⟩
  have hv : Shw v := hv
  have fin : Q (.d (.lst [.str sOrders, .str (reprL v)])) [] := hQ () trivial
  unfold m_L_shown
  simp only [dIsE, dXf, dCallX, oReprX, is_one, List.lookup_cons_self, entry, lend, jr, List.map_cons, List.map_nil, List.length_cons, List.length_nil, List.replicate_succ, List.replicate_zero, List.cons_append, List.nil_append, List.append_nil, Nat.reduceAdd, Nat.reduceSub, Nat.reduceMul, Nat.zero_add, dSeq, dNext, dSet, dSetO, dPut, dPar, dPar3, dParOD, dParOO, dParDO, dIfS, dRet, dRetO, dRetN, dDrop, dBin, dUn, dC, dVar, dCB, dCBO, daCons, daNil, daLend, dats, one, two, oneO, dIxO, dOwn1, dOwn2, fIx, fLen, dBl, dTru, dNot, dAnd, dOr, dIf, dAndV, dOrV, dNotV, dChain, dFr, dTup, dLst, dApp, dPopAt, dFor, diRng1, diRng2, diAny, gN, items, itemsD, oAdd, oSub, oMul, oDiv, oMod, oPow, oNeg, oCmp, oLt, oLe, oGt, oGe, oEq, oNe, oIn, oIsN, oNotN, isN, oIx, oLen, lenD, oInt, oAbs, oInts, oBool, oTuple, oAll, oAny, oSum, oSumA, oSl, dSl, pNo, pSo, oSorted, oList, oJoin, dMt1, dCall, dCallO, dCallT, argsOf, lent, opt, truth, MO.toD, Rv.toD, putOuts, putMO, List.getElem?_cons_zero, List.getElem?_cons_succ, List.set_cons_zero, List.set_cons_succ, Option.map_some, dIsi, dNo, at0, at1, at2, ix30, ix31, ix32, ends, outW, dComp, dYes, wipeD, back, dMake, dMeth, dLenSetS, oInD, dDict0, dDPut, dGet, dPar3DDO, dProp, dFld, dFldO, dFldSet, dSortSet, daKw, decide_eq_true_eq, shI, shS, shB, shN, eqI, eqS, true_and, List.contains_nil, beq_iff_eq, ↓reduceIte, Bool.false_eq_true]
  refine use_bases ?_
  simp only [eq_bls3, entry, lend, jr, List.map_cons, List.map_nil, List.length_cons, List.length_nil, List.replicate_succ, List.replicate_zero, List.cons_append, List.nil_append, List.append_nil, Nat.reduceAdd, Nat.reduceSub, Nat.reduceMul, Nat.zero_add, dSeq, dNext, dSet, dSetO, dPut, dPar, dPar3, dParOD, dParOO, dParDO, dIfS, dRet, dRetO, dRetN, dDrop, dBin, dUn, dC, dVar, dCB, dCBO, daCons, daNil, daLend, dats, one, two, oneO, dIxO, dOwn1, dOwn2, fIx, fLen, dBl, dTru, dNot, dAnd, dOr, dIf, dAndV, dOrV, dNotV, dChain, dFr, dTup, dLst, dApp, dPopAt, dFor, diRng1, diRng2, diAny, gN, items, itemsD, oAdd, oSub, oMul, oDiv, oMod, oPow, oNeg, oCmp, oLt, oLe, oGt, oGe, oEq, oNe, oIn, oIsN, oNotN, isN, oIx, oLen, lenD, oInt, oAbs, oInts, oBool, oTuple, oAll, oAny, oSum, oSumA, oSl, dSl, pNo, pSo, oSorted, oList, oJoin, dMt1, dCall, dCallO, dCallT, argsOf, lent, opt, truth, MO.toD, Rv.toD, putOuts, putMO, List.getElem?_cons_zero, List.getElem?_cons_succ, List.set_cons_zero, List.set_cons_succ, Option.map_some, dIsi, dNo, at0, at1, at2, ix30, ix31, ix32, ends, outW, dComp, dYes, wipeD, back, dMake, dMeth, dLenSetS, oInD, dDict0, dDPut, dGet, dPar3DDO, dProp, dFld, dFldO, dFldSet, dSortSet, daKw, decide_eq_true_eq, shI, shS, shB, shN, eqI, eqS, true_and, List.contains_nil, beq_iff_eq, ↓reduceIte, Bool.false_eq_true]
  exact ⟨kilo_line (by decide), sh_bls3 _ _ _, sh_bls3 _ _ _, List.mem_singleton.mpr rfl, shw_ok hv, kilo_line (by decide), fin⟩
theorem use_shown {K : PySem.W.Frag} {q : Addr × Obj} {d : Option Addr} {v : Dt} {Q : Rv → List MO → Prop} {U : Xn → List MO → Prop} (hv : Shw v) (h : Q (.d (.lst [.str sOrders, .str (reprL v)])) []) : sp_L_shown K q [.exc q (He.ga K "InvalidOrders") d [("index", v)]] Q U :=
  use_F (A := fun x : Option Addr × Dt => [.exc q (He.ga K "InvalidOrders") x.1 [("index", x.2)]]) (C := fun x => Shw x.2) (d, v) hv h
theorem use_caught {K : PySem.W.Frag} {mb : DT} {ρ : En} {R : Dt → En → Prop} {U : XP} (h : ∀ (Rc : Dt → En → Prop) (Uc : XP), (∀ d ρ', R (.lst [.str sTold, d]) ρ → Rc d ρ') → (∀ d ρ', Shw d → R (.lst [.str sOrders, .str (reprL d)]) ρ → Uc (xOrders K d) ρ') → mb (sealE ρ) Rc Uc) : dLam (sp_L_caught K) mb ρ R U := by
  intro f
  refine ⟨f, rfl, ?_⟩
  unfold m_L_caught
  simp only [dTry, dAct, clX, actS, DCl.ends, putI, entry, lend, jr, List.map_cons, List.map_nil, List.length_cons, List.length_nil, List.replicate_succ, List.replicate_zero, List.cons_append, List.nil_append, List.append_nil, Nat.reduceAdd, Nat.reduceSub, Nat.reduceMul, Nat.zero_add, dSeq, dNext, dSet, dSetO, dPut, dPar, dPar3, dParOD, dParOO, dParDO, dIfS, dRet, dRetO, dRetN, dDrop, dBin, dUn, dC, dVar, dCB, dCBO, daCons, daNil, daLend, dats, one, two, oneO, dIxO, dOwn1, dOwn2, fIx, fLen, dBl, dTru, dNot, dAnd, dOr, dIf, dAndV, dOrV, dNotV, dChain, dFr, dTup, dLst, dApp, dPopAt, dFor, diRng1, diRng2, diAny, gN, items, itemsD, oAdd, oSub, oMul, oDiv, oMod, oPow, oNeg, oCmp, oLt, oLe, oGt, oGe, oEq, oNe, oIn, oIsN, oNotN, isN, oIx, oLen, lenD, oInt, oAbs, oInts, oBool, oTuple, oAll, oAny, oSum, oSumA, oSl, dSl, pNo, pSo, oSorted, oList, oJoin, dMt1, dCall, dCallO, dCallT, argsOf, lent, opt, truth, MO.toD, Rv.toD, putOuts, putMO, List.getElem?_cons_zero, List.getElem?_cons_succ, List.set_cons_zero, List.set_cons_succ, Option.map_some, dIsi, dNo, at0, at1, at2, ix30, ix31, ix32, ends, outW, dComp, dYes, wipeD, back, dMake, dMeth, dLenSetS, oInD, dDict0, dDPut, dGet, dPar3DDO, dProp, dFld, dFldO, dFldSet, dSortSet, daKw, decide_eq_true_eq, shI, shS, shB, shN, eqI, eqS, true_and, List.contains_nil, beq_iff_eq, ↓reduceIte, Bool.false_eq_true]
  refine h _ _ (fun d ρ' hr => ⟨kilo_line (by decide), hr⟩) (fun d ρ' hd hr => ⟨true, by simp [xOrders], fun _ q d' => ?_, fun z => nomatch z⟩)
  simp only [dCallX, xOrders, entry, lend, jr, List.map_cons, List.map_nil, List.length_cons, List.length_nil, List.replicate_succ, List.replicate_zero, List.cons_append, List.nil_append, List.append_nil, Nat.reduceAdd, Nat.reduceSub, Nat.reduceMul, Nat.zero_add, dSeq, dNext, dSet, dSetO, dPut, dPar, dPar3, dParOD, dParOO, dParDO, dIfS, dRet, dRetO, dRetN, dDrop, dBin, dUn, dC, dVar, dCB, dCBO, daCons, daNil, daLend, dats, one, two, oneO, dIxO, dOwn1, dOwn2, fIx, fLen, dBl, dTru, dNot, dAnd, dOr, dIf, dAndV, dOrV, dNotV, dChain, dFr, dTup, dLst, dApp, dPopAt, dFor, diRng1, diRng2, diAny, gN, items, itemsD, oAdd, oSub, oMul, oDiv, oMod, oPow, oNeg, oCmp, oLt, oLe, oGt, oGe, oEq, oNe, oIn, oIsN, oNotN, isN, oIx, oLen, lenD, oInt, oAbs, oInts, oBool, oTuple, oAll, oAny, oSum, oSumA, oSl, dSl, pNo, pSo, oSorted, oList, oJoin, dMt1, dCall, dCallO, dCallT, argsOf, lent, opt, truth, MO.toD, Rv.toD, putOuts, putMO, List.getElem?_cons_zero, List.getElem?_cons_succ, List.set_cons_zero, List.set_cons_succ, Option.map_some, dIsi, dNo, at0, at1, at2, ix30, ix31, ix32, ends, outW, dComp, dYes, wipeD, back, dMake, dMeth, dLenSetS, oInD, dDict0, dDPut, dGet, dPar3DDO, dProp, dFld, dFldO, dFldSet, dSortSet, daKw, decide_eq_true_eq, shI, shS, shB, shN, eqI, eqS, true_and, List.contains_nil, beq_iff_eq, ↓reduceIte, Bool.false_eq_true]
  first | refine ⟨rfl, use_shown hd ?_⟩ | refine use_shown hd ?_
  simp only [entry, lend, jr, List.map_cons, List.map_nil, List.length_cons, List.length_nil, List.replicate_succ, List.replicate_zero, List.cons_append, List.nil_append, List.append_nil, Nat.reduceAdd, Nat.reduceSub, Nat.reduceMul, Nat.zero_add, dSeq, dNext, dSet, dSetO, dPut, dPar, dPar3, dParOD, dParOO, dParDO, dIfS, dRet, dRetO, dRetN, dDrop, dBin, dUn, dC, dVar, dCB, dCBO, daCons, daNil, daLend, dats, one, two, oneO, dIxO, dOwn1, dOwn2, fIx, fLen, dBl, dTru, dNot, dAnd, dOr, dIf, dAndV, dOrV, dNotV, dChain, dFr, dTup, dLst, dApp, dPopAt, dFor, diRng1, diRng2, diAny, gN, items, itemsD, oAdd, oSub, oMul, oDiv, oMod, oPow, oNeg, oCmp, oLt, oLe, oGt, oGe, oEq, oNe, oIn, oIsN, oNotN, isN, oIx, oLen, lenD, oInt, oAbs, oInts, oBool, oTuple, oAll, oAny, oSum, oSumA, oSl, dSl, pNo, pSo, oSorted, oList, oJoin, dMt1, dCall, dCallO, dCallT, argsOf, lent, opt, truth, MO.toD, Rv.toD, putOuts, putMO, List.getElem?_cons_zero, List.getElem?_cons_succ, List.set_cons_zero, List.set_cons_succ, Option.map_some, dIsi, dNo, at0, at1, at2, ix30, ix31, ix32, ends, outW, dComp, dYes, wipeD, back, dMake, dMeth, dLenSetS, oInD, dDict0, dDPut, dGet, dPar3DDO, dProp, dFld, dFldO, dFldSet, dSortSet, daKw, decide_eq_true_eq, shI, shS, shB, shN, eqI, eqS, true_and, List.contains_nil, beq_iff_eq, ↓reduceIte, Bool.false_eq_true]
  exact hr

def lvR : Nat → Nat
  | 0 => 6
  | n + 1 => 10 * lvR n + 10
theorem lv_le {i : Nat} (h : i < 2) : 6 ≤ lvR i ∧ lvR i ≤ 100 := by
  match i, h with
  | 0, _ => exact ⟨by decide, by decide⟩
  | 1, _ => exact ⟨by decide, by decide⟩
theorem lv_710 {i : Nat} (h : i ≤ 2) : lvR i ≤ 710 := by
  match i, h with
  | 0, _ => decide
  | 1, _ => decide
  | 2, _ => decide
theorem row_tp {n : Nat} (hn : n ≤ 710) {ds : List Dt} (h : Row n ds) : Tp (.tup ds) := ⟨by have := h.2.1; omega, fun d hd => ts_noIns (by omega) (h.2.2 d hd)⟩
/-- what the index that is told is like -/
theorem slip_ix {v i : Dt} (hv : Tp v) (h : slipI v = some i) : Shw i := by
  have nn : Shw .non := ⟨(Rp.non (k := 8)).1, (Rp.non (k := 8)).2.1, Nat.le_trans (Rp.non (k := 8)).2.2 (by decide)⟩
  have rn : ∀ z : Int, z.natAbs < 10 ^ 100 → Shw (.int z) := fun z h => ⟨(Rp.int h (k := 8)).1, (Rp.int h (k := 8)).2.1, Nat.le_trans (Rp.int h (k := 8)).2.2 (by decide)⟩
  cases v with
  | tup ds =>
    have h : (if ds.isEmpty = true then some Dt.non else (badR ds).map fun i => .int (i : Nat)) = some i := h
    have hl : ds.length ≤ 1000 := hv.1
    split at h
    · rw [← Option.some.inj h]; exact nn
    · cases e : badR ds with
      | none => rw [e] at h; cases h
      | some k =>
        rw [e] at h
        rw [← Option.some.inj h]
        unfold badR at e
        have := List.mem_range.mp (List.mem_of_find?_eq_some e)
        exact rn _ (by omega)
  | _ => rw [← Option.some.inj h]; exact nn
theorem all_strs : ∀ {ds : List Dt}, (∀ d ∈ ds, ∃ M, d = .str M) → ∃ ls : List (List Nat), ds = stL ls
  | [], _ => ⟨[], rfl⟩
  | d :: r, h => by
    obtain ⟨M, rfl⟩ := h d List.mem_cons_self
    obtain ⟨ls, e⟩ := all_strs fun x hx => h x (List.mem_cons_of_mem _ hx)
    exact ⟨M :: ls, by rw [e]; rfl⟩
theorem slip_strs {v : Dt} (h : slipI v = none) : ∃ ls : List (List Nat), v = .tup (stL ls) := by
  cases v with
  | tup ds =>
    have h : (if ds.isEmpty = true then some Dt.non else (badR ds).map fun i => .int (i : Nat)) = none := h
    split at h
    · cases h
    · have hb : badR ds = none := by
        cases e : badR ds with
        | none => rfl
        | some k => rw [e] at h; cases h
      have : ∀ d ∈ ds, ∃ M, d = .str M := fun d hd => by
        obtain ⟨i, hi, rfl⟩ := List.mem_iff_getElem.mp hd
        obtain ⟨M, e, _⟩ := fine_str hi (badR_fine hb hi)
        exact ⟨M, e⟩
      obtain ⟨ls, e⟩ := all_strs this
      exact ⟨ls, by rw [e]⟩
  | _ => cases h
def toldX (K : PySem.W.Frag) (v : Dt) : Dt := match slipI v with
  | none => .lst [.str sTold, rollD K v]
  | some i => .lst [.str sOrders, .str (reprL i)]
theorem toldX_yes {K : PySem.W.Frag} {v : Dt} (h : slipI v = none) : toldX K v = .lst [.str sTold, rollD K v] := by unfold toldX; rw [h]
theorem toldX_no {K : PySem.W.Frag} {v i : Dt} (h : slipI v = some i) : toldX K v = .lst [.str sOrders, .str (reprL i)] := by unfold toldX; rw [h]
theorem use_make {K : PySem.W.Frag} {b : Bool} {p : Addr} {v : Dt} {Q : Rv → List MO → Prop} {U : Xn → List MO → Prop} (hv : Tp v) (h : match slipI v with
    | none => Q (.d .non) [.ins (He.ga K "Roll") [("lot", v)]]
    | some i => U (xOrders K i) [.ins (He.ga K "Roll") []]) : sp_Roll_init K [.own b p (.ins (He.ga K "Roll") []), .dat v] Q U := by
  refine ⟨((b, p), v), rfl, hv, ?_⟩
  dsimp only
  cases e : slipI v with
  | none => rw [e] at h; exact h
  | some i => rw [e] at h; exact h
theorem math_L_right (K : PySem.W.Frag) : ∀ args Q U, sp_L_right K args Q U → m_L_right K (ends args Q U) (entry (List.length N_L_right) args) := by
  rintro args Q U ⟨⟨⟨bb, p, j⟩, x⟩, rfl, _, hQ⟩
  have fin : ∀ j, Q (.d (.bl true)) [jr j] := fun j => hQ ((), j) trivial
  clear hQ
  unfold m_L_right
  refine seq_step fun k1 hk1 => ?_
  simp only [entry, lend, jr, List.map_cons, List.map_nil, List.length_cons, List.length_nil, List.replicate_succ, List.replicate_zero, List.cons_append, List.nil_append, List.append_nil, Nat.reduceAdd, Nat.reduceSub, Nat.reduceMul, Nat.zero_add, dNext, dSet, dSetO, dPut, dPar, dPar3, dParOD, dParOO, dParDO, dRet, dRetO, dRetN, dDrop, dBin, dUn, dC, dVar, dCB, dCBO, daCons, daNil, daLend, dats, one, two, oneO, dIxO, dOwn1, dOwn2, fIx, fLen, dBl, dTru, dNot, dAnd, dOr, dAndV, dOrV, dNotV, dChain, dFr, dTup, dLst, dApp, dPopAt, dFor, diRng1, diRng2, diAny, gN, items, itemsD, oAdd, oSub, oMul, oDiv, oMod, oPow, oNeg, oCmp, oLt, oLe, oGt, oGe, oEq, oNe, oIn, oIsN, oNotN, isN, oIx, oLen, lenD, oInt, oAbs, oInts, oBool, oTuple, oAll, oAny, oSum, oSumA, oSl, dSl, pNo, pSo, oSorted, oList, oJoin, dMt1, dCall, dCallO, dCallT, argsOf, lent, opt, truth, MO.toD, Rv.toD, putOuts, putMO, List.getElem?_cons_zero, List.getElem?_cons_succ, List.set_cons_zero, List.set_cons_succ, Option.map_some, dIsi, dNo, at0, at1, at2, ix30, ix31, ix32, dComp, dYes, wipeD, back, dMake, dMeth, dLenSetS, oInD, dDict0, dDPut, dGet, dPar3DDO, dProp, dFld, dFldO, dFldSet, dSortSet, daKw, decide_eq_true_eq, shI, shS, shB, shN, eqI, eqS, true_and, List.contains_nil, beq_iff_eq, ↓reduceIte, Bool.false_eq_true]
  refine ⟨by decide, by decide, ?_⟩
  refine loop_range 0 10 (fun i ρ => ∃ (j : Jr) (s1 s2 s3 s4 s5 : Sl), ρ = [.own true p (jr j), s1, s2, s3, s4, s5]) ⟨j, _, _, _, _, _, rfl⟩ ?_ ?_
  · rintro i ρ k' hi ⟨j, s1, s2, s3, s4, s5, rfl⟩ hk
    refine seq_step fun k2 hk2 => ?_
    have base : ∀ ds j, Row 6 ds → k2 [.own true p (jr j), .dat (.int (0 + (i : Nat))), .dat (.tup ds), s3, s4, s5] := by
      intro ds j hr
      refine hk2 _ (seq_step fun k3 hk3 => ?_)
      simp only [entry, lend, jr, List.map_cons, List.map_nil, List.length_cons, List.length_nil, List.replicate_succ, List.replicate_zero, List.cons_append, List.nil_append, List.append_nil, Nat.reduceAdd, Nat.reduceSub, Nat.reduceMul, Nat.zero_add, dNext, dSet, dSetO, dPut, dPar, dPar3, dParOD, dParOO, dParDO, dRet, dRetO, dRetN, dDrop, dBin, dUn, dC, dVar, dCB, dCBO, daCons, daNil, daLend, dats, one, two, oneO, dIxO, dOwn1, dOwn2, fIx, fLen, dBl, dTru, dNot, dAnd, dOr, dAndV, dOrV, dNotV, dChain, dFr, dTup, dLst, dApp, dPopAt, dFor, diRng1, diRng2, diAny, gN, items, itemsD, oAdd, oSub, oMul, oDiv, oMod, oPow, oNeg, oCmp, oLt, oLe, oGt, oGe, oEq, oNe, oIn, oIsN, oNotN, isN, oIx, oLen, lenD, oInt, oAbs, oInts, oBool, oTuple, oAll, oAny, oSum, oSumA, oSl, dSl, pNo, pSo, oSorted, oList, oJoin, dMt1, dCall, dCallO, dCallT, argsOf, lent, opt, truth, MO.toD, Rv.toD, putOuts, putMO, List.getElem?_cons_zero, List.getElem?_cons_succ, List.set_cons_zero, List.set_cons_succ, Option.map_some, dIsi, dNo, at0, at1, at2, ix30, ix31, ix32, dComp, dYes, wipeD, back, dMake, dMeth, dLenSetS, oInD, dDict0, dDPut, dGet, dPar3DDO, dProp, dFld, dFldO, dFldSet, dSortSet, daKw, decide_eq_true_eq, shI, shS, shB, shN, eqI, eqS, true_and, List.contains_nil, beq_iff_eq, ↓reduceIte, Bool.false_eq_true]
      refine ⟨kilo_line (by decide), use_pick (j := j) (by simp) (by simp) fun c j hc => ?_⟩
      simp only [entry, lend, jr, List.map_cons, List.map_nil, List.length_cons, List.length_nil, List.replicate_succ, List.replicate_zero, List.cons_append, List.nil_append, List.append_nil, Nat.reduceAdd, Nat.reduceSub, Nat.reduceMul, Nat.zero_add, dNext, dSet, dSetO, dPut, dPar, dPar3, dParOD, dParOO, dParDO, dRet, dRetO, dRetN, dDrop, dBin, dUn, dC, dVar, dCB, dCBO, daCons, daNil, daLend, dats, one, two, oneO, dIxO, dOwn1, dOwn2, fIx, fLen, dBl, dTru, dNot, dAnd, dOr, dAndV, dOrV, dNotV, dChain, dFr, dTup, dLst, dApp, dPopAt, dFor, diRng1, diRng2, diAny, gN, items, itemsD, oAdd, oSub, oMul, oDiv, oMod, oPow, oNeg, oCmp, oLt, oLe, oGt, oGe, oEq, oNe, oIn, oIsN, oNotN, isN, oIx, oLen, lenD, oInt, oAbs, oInts, oBool, oTuple, oAll, oAny, oSum, oSumA, oSl, dSl, pNo, pSo, oSorted, oList, oJoin, dMt1, dCall, dCallO, dCallT, argsOf, lent, opt, truth, MO.toD, Rv.toD, putOuts, putMO, List.getElem?_cons_zero, List.getElem?_cons_succ, List.set_cons_zero, List.set_cons_succ, Option.map_some, dIsi, dNo, at0, at1, at2, ix30, ix31, ix32, dComp, dYes, wipeD, back, dMake, dMeth, dLenSetS, oInD, dDict0, dDPut, dGet, dPar3DDO, dProp, dFld, dFldO, dFldSet, dSortSet, daKw, decide_eq_true_eq, shI, shS, shB, shN, eqI, eqS, true_and, List.contains_nil, beq_iff_eq, ↓reduceIte, Bool.false_eq_true]
      have ec : ∃ n : Nat, n ≤ 2 ∧ c = .int n := by
        simp only [List.mem_cons, List.not_mem_nil, or_false] at hc
        rcases hc with rfl | rfl | rfl | rfl | rfl
        · exact ⟨0, by decide, rfl⟩
        · exact ⟨0, by decide, rfl⟩
        · exact ⟨1, by decide, rfl⟩
        · exact ⟨1, by decide, rfl⟩
        · exact ⟨2, by decide, rfl⟩
      obtain ⟨n, hn, rfl⟩ := ec
      simp only [entry, lend, jr, List.map_cons, List.map_nil, List.length_cons, List.length_nil, List.replicate_succ, List.replicate_zero, List.cons_append, List.nil_append, List.append_nil, Nat.reduceAdd, Nat.reduceSub, Nat.reduceMul, Nat.zero_add, dNext, dSet, dSetO, dPut, dPar, dPar3, dParOD, dParOO, dParDO, dRet, dRetO, dRetN, dDrop, dBin, dUn, dC, dVar, dCB, dCBO, daCons, daNil, daLend, dats, one, two, oneO, dIxO, dOwn1, dOwn2, fIx, fLen, dBl, dTru, dNot, dAnd, dOr, dAndV, dOrV, dNotV, dChain, dFr, dTup, dLst, dApp, dPopAt, dFor, diRng1, diRng2, diAny, gN, items, itemsD, oAdd, oSub, oMul, oDiv, oMod, oPow, oNeg, oCmp, oLt, oLe, oGt, oGe, oEq, oNe, oIn, oIsN, oNotN, isN, oIx, oLen, lenD, oInt, oAbs, oInts, oBool, oTuple, oAll, oAny, oSum, oSumA, oSl, dSl, pNo, pSo, oSorted, oList, oJoin, dMt1, dCall, dCallO, dCallT, argsOf, lent, opt, truth, MO.toD, Rv.toD, putOuts, putMO, List.getElem?_cons_zero, List.getElem?_cons_succ, List.set_cons_zero, List.set_cons_succ, Option.map_some, dIsi, dNo, at0, at1, at2, ix30, ix31, ix32, dComp, dYes, wipeD, back, dMake, dMeth, dLenSetS, oInD, dDict0, dDPut, dGet, dPar3DDO, dProp, dFld, dFldO, dFldSet, dSortSet, daKw, decide_eq_true_eq, shI, shS, shB, shN, eqI, eqS, true_and, List.contains_nil, beq_iff_eq, ↓reduceIte, Bool.false_eq_true]
      refine ⟨by omega, by omega, ?_⟩
      rw [Int.toNat_natCast]
      refine loop_range 0 n (fun i2 ρ => ∃ (j : Jr) (s3 : Sl) (ds : List Dt), Row (lvR i2) ds ∧ ρ = [.own true p (jr j), .dat (.int (0 + (i : Nat))), .dat (.tup ds), s3, s4, s5]) ⟨j, _, ds, hr, rfl⟩ ?_ ?_
      · rintro i2 ρ k4 hi2 ⟨j, s3, ds, hr, rfl⟩ hk4
        simp only [gN, entry, lend, jr, List.map_cons, List.map_nil, List.length_cons, List.length_nil, List.replicate_succ, List.replicate_zero, List.cons_append, List.nil_append, List.append_nil, Nat.reduceAdd, Nat.reduceSub, Nat.reduceMul, Nat.zero_add, dSeq, dNext, dSet, dSetO, dPut, dPar, dPar3, dParOD, dParOO, dParDO, dIfS, dRet, dRetO, dRetN, dDrop, dBin, dUn, dC, dVar, dCB, dCBO, daCons, daNil, daLend, dats, one, two, oneO, dIxO, dOwn1, dOwn2, fIx, fLen, dBl, dTru, dNot, dAnd, dOr, dIf, dAndV, dOrV, dNotV, dChain, dFr, dTup, dLst, dApp, dPopAt, dFor, diRng1, diRng2, diAny, gN, items, itemsD, oAdd, oSub, oMul, oDiv, oMod, oPow, oNeg, oCmp, oLt, oLe, oGt, oGe, oEq, oNe, oIn, oIsN, oNotN, isN, oIx, oLen, lenD, oInt, oAbs, oInts, oBool, oTuple, oAll, oAny, oSum, oSumA, oSl, dSl, pNo, pSo, oSorted, oList, oJoin, dMt1, dCall, dCallO, dCallT, argsOf, lent, opt, truth, MO.toD, Rv.toD, putOuts, putMO, List.getElem?_cons_zero, List.getElem?_cons_succ, List.set_cons_zero, List.set_cons_succ, Option.map_some, dIsi, dNo, at0, at1, at2, ix30, ix31, ix32, ends, outW, dComp, dYes, wipeD, back, dMake, dMeth, dLenSetS, oInD, dDict0, dDPut, dGet, dPar3DDO, dProp, dFld, dFldO, dFldSet, dSortSet, daKw, decide_eq_true_eq, shI, shS, shB, shN, eqI, eqS, true_and, List.contains_nil, beq_iff_eq, ↓reduceIte, Bool.false_eq_true]
        obtain ⟨l1, l2⟩ := lv_le (show i2 < 2 by omega)
        refine ⟨((true, p, j), lvR i2, ds), rfl, ⟨l1, l2, hr⟩, fun y hy => ?_⟩
        obtain ⟨es, j⟩ := y
        have hy : Row (lvR (i2 + 1)) es := hy
        simp only [entry, lend, jr, List.map_cons, List.map_nil, List.length_cons, List.length_nil, List.replicate_succ, List.replicate_zero, List.cons_append, List.nil_append, List.append_nil, Nat.reduceAdd, Nat.reduceSub, Nat.reduceMul, Nat.zero_add, dSeq, dNext, dSet, dSetO, dPut, dPar, dPar3, dParOD, dParOO, dParDO, dIfS, dRet, dRetO, dRetN, dDrop, dBin, dUn, dC, dVar, dCB, dCBO, daCons, daNil, daLend, dats, one, two, oneO, dIxO, dOwn1, dOwn2, fIx, fLen, dBl, dTru, dNot, dAnd, dOr, dIf, dAndV, dOrV, dNotV, dChain, dFr, dTup, dLst, dApp, dPopAt, dFor, diRng1, diRng2, diAny, gN, items, itemsD, oAdd, oSub, oMul, oDiv, oMod, oPow, oNeg, oCmp, oLt, oLe, oGt, oGe, oEq, oNe, oIn, oIsN, oNotN, isN, oIx, oLen, lenD, oInt, oAbs, oInts, oBool, oTuple, oAll, oAny, oSum, oSumA, oSl, dSl, pNo, pSo, oSorted, oList, oJoin, dMt1, dCall, dCallO, dCallT, argsOf, lent, opt, truth, MO.toD, Rv.toD, putOuts, putMO, List.getElem?_cons_zero, List.getElem?_cons_succ, List.set_cons_zero, List.set_cons_succ, Option.map_some, dIsi, dNo, at0, at1, at2, ix30, ix31, ix32, ends, outW, dComp, dYes, wipeD, back, dMake, dMeth, dLenSetS, oInD, dDict0, dDPut, dGet, dPar3DDO, dProp, dFld, dFldO, dFldSet, dSortSet, daKw, decide_eq_true_eq, shI, shS, shB, shN, eqI, eqS, true_and, List.contains_nil, beq_iff_eq, ↓reduceIte, Bool.false_eq_true]
        exact hk4 _ ⟨j, _, es, hy, rfl⟩
      · rintro ρ ⟨j, s3, ds, hr, rfl⟩
        have ht := row_tp (lv_710 hn) hr
        have l60 := hr.2.1
        refine hk3 _ (seq_step fun k5 hk5 => ?_)
        have value : ∀ v j, Tp v → k5 [.own true p (jr j), .dat (.int (0 + (i : Nat))), .dat v, s3, s4, s5] := by
          intro v j hv
          refine hk5 _ (seq_step fun k6 hk6 => ?_)
          have told : k6 [.own true p (jr j), .dat (.int (0 + (i : Nat))), .dat v, s3, .dat (.lst (slipL (slipI v))), .dat (toldX K v)] := by
            refine hk6 _ (if_step fun kb kt kf => ?_)
            cases es : slipI v with
            | none =>
              rw [toldX_yes es]
              obtain ⟨ls, rfl⟩ := slip_strs es
              have el : (!(sTold == [116, 111, 108, 100])) = false := by decide
              have n8 : Sh 8 (.lst []) := nofun
              have s8 : Sh 8 (.tup (stL ls)) := sh_strs 7 ls
              have ee : eqD (.tup (stL ls)) (.tup (stL ls)) = true := by
                show eqD (.tup (ls.map Dt.str)) (.tup (ls.map Dt.str)) = true
                rw [eq_tup, beq_self_eq_true]
              simp only [slipL, eq_nilL, rollD, List.isEmpty_nil, List.isEmpty_cons, Bool.not_true, Bool.not_false, el, entry, lend, jr, List.map_cons, List.map_nil, List.length_cons, List.length_nil, List.replicate_succ, List.replicate_zero, List.cons_append, List.nil_append, List.append_nil, Nat.reduceAdd, Nat.reduceSub, Nat.reduceMul, Nat.zero_add, dNext, dSet, dSetO, dPut, dPar, dPar3, dParOD, dParOO, dParDO, dRet, dRetO, dRetN, dDrop, dBin, dUn, dC, dVar, dCB, dCBO, daCons, daNil, daLend, dats, one, two, oneO, dIxO, dOwn1, dOwn2, fIx, fLen, dBl, dTru, dNot, dAnd, dOr, dAndV, dOrV, dNotV, dChain, dFr, dTup, dLst, dApp, dPopAt, dFor, diRng1, diRng2, diAny, gN, items, itemsD, oAdd, oSub, oMul, oDiv, oMod, oPow, oNeg, oCmp, oLt, oLe, oGt, oGe, oEq, oNe, oIn, oIsN, oNotN, isN, oIx, oLen, lenD, oInt, oAbs, oInts, oBool, oTuple, oAll, oAny, oSum, oSumA, oSl, dSl, pNo, pSo, oSorted, oList, oJoin, dMt1, dCall, dCallO, dCallT, argsOf, lent, opt, truth, MO.toD, Rv.toD, putOuts, putMO, List.getElem?_cons_zero, List.getElem?_cons_succ, List.set_cons_zero, List.set_cons_succ, Option.map_some, dIsi, dNo, at0, at1, at2, ix30, ix31, ix32, dComp, dYes, wipeD, back, dMake, dMeth, dLenSetS, oInD, dDict0, dDPut, dGet, dPar3DDO, dProp, dFld, dFldO, dFldSet, dSortSet, daKw, decide_eq_true_eq, shI, shS, shB, shN, eqI, eqS, true_and, List.contains_nil, beq_iff_eq, ↓reduceIte, Bool.false_eq_true]
              refine ⟨Nat.zero_le _, n8, n8, Nat.zero_le _, n8, n8, ?_⟩
              refine use_F (A := fun d : Dt => [.dat (rollD K d)]) (C := fun _ => True) (.tup (stL ls)) trivial ?_
              simp only [ee, Bool.not_true, entry, lend, jr, List.map_cons, List.map_nil, List.length_cons, List.length_nil, List.replicate_succ, List.replicate_zero, List.cons_append, List.nil_append, List.append_nil, Nat.reduceAdd, Nat.reduceSub, Nat.reduceMul, Nat.zero_add, dNext, dSet, dSetO, dPut, dPar, dPar3, dParOD, dParOO, dParDO, dRet, dRetO, dRetN, dDrop, dBin, dUn, dC, dVar, dCB, dCBO, daCons, daNil, daLend, dats, one, two, oneO, dIxO, dOwn1, dOwn2, fIx, fLen, dBl, dTru, dNot, dAnd, dOr, dAndV, dOrV, dNotV, dChain, dFr, dTup, dLst, dApp, dPopAt, dFor, diRng1, diRng2, diAny, gN, items, itemsD, oAdd, oSub, oMul, oDiv, oMod, oPow, oNeg, oCmp, oLt, oLe, oGt, oGe, oEq, oNe, oIn, oIsN, oNotN, isN, oIx, oLen, lenD, oInt, oAbs, oInts, oBool, oTuple, oAll, oAny, oSum, oSumA, oSl, dSl, pNo, pSo, oSorted, oList, oJoin, dMt1, dCall, dCallO, dCallT, argsOf, lent, opt, truth, MO.toD, Rv.toD, putOuts, putMO, List.getElem?_cons_zero, List.getElem?_cons_succ, List.set_cons_zero, List.set_cons_succ, Option.map_some, dIsi, dNo, at0, at1, at2, ix30, ix31, ix32, dComp, dYes, wipeD, back, dMake, dMeth, dLenSetS, oInD, dDict0, dDPut, dGet, dPar3DDO, dProp, dFld, dFldO, dFldSet, dSortSet, daKw, decide_eq_true_eq, shI, shS, shB, shN, eqI, eqS, true_and, List.contains_nil, beq_iff_eq, ↓reduceIte, Bool.false_eq_true]
              refine ⟨s8, s8, kf _ ?_⟩
              simp only [entry, lend, jr, List.map_cons, List.map_nil, List.length_cons, List.length_nil, List.replicate_succ, List.replicate_zero, List.cons_append, List.nil_append, List.append_nil, Nat.reduceAdd, Nat.reduceSub, Nat.reduceMul, Nat.zero_add, dSeq, dNext, dSet, dSetO, dPut, dPar, dPar3, dParOD, dParOO, dParDO, dIfS, dRet, dRetO, dRetN, dDrop, dBin, dUn, dC, dVar, dCB, dCBO, daCons, daNil, daLend, dats, one, two, oneO, dIxO, dOwn1, dOwn2, fIx, fLen, dBl, dTru, dNot, dAnd, dOr, dIf, dAndV, dOrV, dNotV, dChain, dFr, dTup, dLst, dApp, dPopAt, dFor, diRng1, diRng2, diAny, gN, items, itemsD, oAdd, oSub, oMul, oDiv, oMod, oPow, oNeg, oCmp, oLt, oLe, oGt, oGe, oEq, oNe, oIn, oIsN, oNotN, isN, oIx, oLen, lenD, oInt, oAbs, oInts, oBool, oTuple, oAll, oAny, oSum, oSumA, oSl, dSl, pNo, pSo, oSorted, oList, oJoin, dMt1, dCall, dCallO, dCallT, argsOf, lent, opt, truth, MO.toD, Rv.toD, putOuts, putMO, List.getElem?_cons_zero, List.getElem?_cons_succ, List.set_cons_zero, List.set_cons_succ, Option.map_some, dIsi, dNo, at0, at1, at2, ix30, ix31, ix32, ends, outW, dComp, dYes, wipeD, back, dMake, dMeth, dLenSetS, oInD, dDict0, dDPut, dGet, dPar3DDO, dProp, dFld, dFldO, dFldSet, dSortSet, daKw, decide_eq_true_eq, shI, shS, shB, shN, eqI, eqS, true_and, List.contains_nil, beq_iff_eq, ↓reduceIte, Bool.false_eq_true]
              exact hk _ ⟨j, _, _, _, _, _, rfl⟩
            | some i9 =>
              rw [toldX_no es]
              have n8 : Sh 8 (.lst []) := nofun
              have s8 : Sh 8 (.lst [.str sOrders, .str (reprL i9)]) := sh_strs 7 [sOrders, reprL i9]
              have ee : eqD (.lst [.str sOrders, .str (reprL i9)]) (.lst [.str sOrders, .str (reprL i9)]) = true := by
                show eqD (.lst ([sOrders, reprL i9].map Dt.str)) (.lst ([sOrders, reprL i9].map Dt.str)) = true
                rw [eq_lst, beq_self_eq_true]
              simp only [slipL, eq_nilL, ee, List.isEmpty_nil, List.isEmpty_cons, Bool.not_true, Bool.not_false, entry, lend, jr, List.map_cons, List.map_nil, List.length_cons, List.length_nil, List.replicate_succ, List.replicate_zero, List.cons_append, List.nil_append, List.append_nil, Nat.reduceAdd, Nat.reduceSub, Nat.reduceMul, Nat.zero_add, dNext, dSet, dSetO, dPut, dPar, dPar3, dParOD, dParOO, dParDO, dRet, dRetO, dRetN, dDrop, dBin, dUn, dC, dVar, dCB, dCBO, daCons, daNil, daLend, dats, one, two, oneO, dIxO, dOwn1, dOwn2, fIx, fLen, dBl, dTru, dNot, dAnd, dOr, dAndV, dOrV, dNotV, dChain, dFr, dTup, dLst, dApp, dPopAt, dFor, diRng1, diRng2, diAny, gN, items, itemsD, oAdd, oSub, oMul, oDiv, oMod, oPow, oNeg, oCmp, oLt, oLe, oGt, oGe, oEq, oNe, oIn, oIsN, oNotN, isN, oIx, oLen, lenD, oInt, oAbs, oInts, oBool, oTuple, oAll, oAny, oSum, oSumA, oSl, dSl, pNo, pSo, oSorted, oList, oJoin, dMt1, dCall, dCallO, dCallT, argsOf, lent, opt, truth, MO.toD, Rv.toD, putOuts, putMO, List.getElem?_cons_zero, List.getElem?_cons_succ, List.set_cons_zero, List.set_cons_succ, Option.map_some, dIsi, dNo, at0, at1, at2, ix30, ix31, ix32, dComp, dYes, wipeD, back, dMake, dMeth, dLenSetS, oInD, dDict0, dDPut, dGet, dPar3DDO, dProp, dFld, dFldO, dFldSet, dSortSet, daKw, decide_eq_true_eq, shI, shS, shB, shN, eqI, eqS, true_and, List.contains_nil, beq_iff_eq, ↓reduceIte, Bool.false_eq_true]
              refine ⟨Nat.zero_le _, s8, n8, s8, s8, Nat.zero_le _, s8, n8, kf _ ?_⟩
              simp only [entry, lend, jr, List.map_cons, List.map_nil, List.length_cons, List.length_nil, List.replicate_succ, List.replicate_zero, List.cons_append, List.nil_append, List.append_nil, Nat.reduceAdd, Nat.reduceSub, Nat.reduceMul, Nat.zero_add, dSeq, dNext, dSet, dSetO, dPut, dPar, dPar3, dParOD, dParOO, dParDO, dIfS, dRet, dRetO, dRetN, dDrop, dBin, dUn, dC, dVar, dCB, dCBO, daCons, daNil, daLend, dats, one, two, oneO, dIxO, dOwn1, dOwn2, fIx, fLen, dBl, dTru, dNot, dAnd, dOr, dIf, dAndV, dOrV, dNotV, dChain, dFr, dTup, dLst, dApp, dPopAt, dFor, diRng1, diRng2, diAny, gN, items, itemsD, oAdd, oSub, oMul, oDiv, oMod, oPow, oNeg, oCmp, oLt, oLe, oGt, oGe, oEq, oNe, oIn, oIsN, oNotN, isN, oIx, oLen, lenD, oInt, oAbs, oInts, oBool, oTuple, oAll, oAny, oSum, oSumA, oSl, dSl, pNo, pSo, oSorted, oList, oJoin, dMt1, dCall, dCallO, dCallT, argsOf, lent, opt, truth, MO.toD, Rv.toD, putOuts, putMO, List.getElem?_cons_zero, List.getElem?_cons_succ, List.set_cons_zero, List.set_cons_succ, Option.map_some, dIsi, dNo, at0, at1, at2, ix30, ix31, ix32, ends, outW, dComp, dYes, wipeD, back, dMake, dMeth, dLenSetS, oInD, dDict0, dDPut, dGet, dPar3DDO, dProp, dFld, dFldO, dFldSet, dSortSet, daKw, decide_eq_true_eq, shI, shS, shB, shN, eqI, eqS, true_and, List.contains_nil, beq_iff_eq, ↓reduceIte, Bool.false_eq_true]
              exact hk _ ⟨j, _, _, _, _, _, rfl⟩
          simp only [entry, lend, jr, List.map_cons, List.map_nil, List.length_cons, List.length_nil, List.replicate_succ, List.replicate_zero, List.cons_append, List.nil_append, List.append_nil, Nat.reduceAdd, Nat.reduceSub, Nat.reduceMul, Nat.zero_add, dNext, dSet, dSetO, dPut, dPar, dPar3, dParOD, dParOO, dParDO, dRet, dRetO, dRetN, dDrop, dBin, dUn, dC, dVar, dCB, dCBO, daCons, daNil, daLend, dats, one, two, oneO, dIxO, dOwn1, dOwn2, fIx, fLen, dBl, dTru, dNot, dAnd, dOr, dAndV, dOrV, dNotV, dChain, dFr, dTup, dLst, dApp, dPopAt, dFor, diRng1, diRng2, diAny, gN, items, itemsD, oAdd, oSub, oMul, oDiv, oMod, oPow, oNeg, oCmp, oLt, oLe, oGt, oGe, oEq, oNe, oIn, oIsN, oNotN, isN, oIx, oLen, lenD, oInt, oAbs, oInts, oBool, oTuple, oAll, oAny, oSum, oSumA, oSl, dSl, pNo, pSo, oSorted, oList, oJoin, dMt1, dCall, dCallO, dCallT, argsOf, lent, opt, truth, MO.toD, Rv.toD, putOuts, putMO, List.getElem?_cons_zero, List.getElem?_cons_succ, List.set_cons_zero, List.set_cons_succ, Option.map_some, dIsi, dNo, at0, at1, at2, ix30, ix31, ix32, dComp, dYes, wipeD, back, dMake, dMeth, dLenSetS, oInD, dDict0, dDPut, dGet, dPar3DDO, dProp, dFld, dFldO, dFldSet, dSortSet, daKw, decide_eq_true_eq, shI, shS, shB, shN, eqI, eqS, true_and, List.contains_nil, beq_iff_eq, ↓reduceIte, Bool.false_eq_true]
          refine use_F (A := fun d : Dt => [.dat d]) (C := Tp) v hv ?_
          simp only [entry, lend, jr, List.map_cons, List.map_nil, List.length_cons, List.length_nil, List.replicate_succ, List.replicate_zero, List.cons_append, List.nil_append, List.append_nil, Nat.reduceAdd, Nat.reduceSub, Nat.reduceMul, Nat.zero_add, dNext, dSet, dSetO, dPut, dPar, dPar3, dParOD, dParOO, dParDO, dRet, dRetO, dRetN, dDrop, dBin, dUn, dC, dVar, dCB, dCBO, daCons, daNil, daLend, dats, one, two, oneO, dIxO, dOwn1, dOwn2, fIx, fLen, dBl, dTru, dNot, dAnd, dOr, dAndV, dOrV, dNotV, dChain, dFr, dTup, dLst, dApp, dPopAt, dFor, diRng1, diRng2, diAny, gN, items, itemsD, oAdd, oSub, oMul, oDiv, oMod, oPow, oNeg, oCmp, oLt, oLe, oGt, oGe, oEq, oNe, oIn, oIsN, oNotN, isN, oIx, oLen, lenD, oInt, oAbs, oInts, oBool, oTuple, oAll, oAny, oSum, oSumA, oSl, dSl, pNo, pSo, oSorted, oList, oJoin, dMt1, dCall, dCallO, dCallT, argsOf, lent, opt, truth, MO.toD, Rv.toD, putOuts, putMO, List.getElem?_cons_zero, List.getElem?_cons_succ, List.set_cons_zero, List.set_cons_succ, Option.map_some, dIsi, dNo, at0, at1, at2, ix30, ix31, ix32, dComp, dYes, wipeD, back, dMake, dMeth, dLenSetS, oInD, dDict0, dDPut, dGet, dPar3DDO, dProp, dFld, dFldO, dFldSet, dSortSet, daKw, decide_eq_true_eq, shI, shS, shB, shN, eqI, eqS, true_and, List.contains_nil, beq_iff_eq, ↓reduceIte, Bool.false_eq_true]
          refine use_caught fun Rc Uc hR hU => ?_
          simp only [sealE, List.map_cons, List.map_nil, perm, List.filterMap_cons, List.filterMap_nil, entry, lend, jr, List.map_cons, List.map_nil, List.length_cons, List.length_nil, List.replicate_succ, List.replicate_zero, List.cons_append, List.nil_append, List.append_nil, Nat.reduceAdd, Nat.reduceSub, Nat.reduceMul, Nat.zero_add, dNext, dSet, dSetO, dPut, dPar, dPar3, dParOD, dParOO, dParDO, dRet, dRetO, dRetN, dDrop, dBin, dUn, dC, dVar, dCB, dCBO, daCons, daNil, daLend, dats, one, two, oneO, dIxO, dOwn1, dOwn2, fIx, fLen, dBl, dTru, dNot, dAnd, dOr, dAndV, dOrV, dNotV, dChain, dFr, dTup, dLst, dApp, dPopAt, dFor, diRng1, diRng2, diAny, gN, items, itemsD, oAdd, oSub, oMul, oDiv, oMod, oPow, oNeg, oCmp, oLt, oLe, oGt, oGe, oEq, oNe, oIn, oIsN, oNotN, isN, oIx, oLen, lenD, oInt, oAbs, oInts, oBool, oTuple, oAll, oAny, oSum, oSumA, oSl, dSl, pNo, pSo, oSorted, oList, oJoin, dMt1, dCall, dCallO, dCallT, argsOf, lent, opt, truth, MO.toD, Rv.toD, putOuts, putMO, List.getElem?_cons_zero, List.getElem?_cons_succ, List.set_cons_zero, List.set_cons_succ, Option.map_some, dIsi, dNo, at0, at1, at2, ix30, ix31, ix32, dComp, dYes, wipeD, back, dMake, dMeth, dLenSetS, oInD, dDict0, dDPut, dGet, dPar3DDO, dProp, dFld, dFldO, dFldSet, dSortSet, daKw, decide_eq_true_eq, shI, shS, shB, shN, eqI, eqS, true_and, List.contains_nil, beq_iff_eq, ↓reduceIte, Bool.false_eq_true]
          intro p9 _
          refine use_make hv ?_
          cases es : slipI v with
          | none =>
            rw [toldX_yes es] at told
            simp only [entry, lend, jr, List.map_cons, List.map_nil, List.length_cons, List.length_nil, List.replicate_succ, List.replicate_zero, List.cons_append, List.nil_append, List.append_nil, Nat.reduceAdd, Nat.reduceSub, Nat.reduceMul, Nat.zero_add, dNext, dSet, dSetO, dPut, dPar, dPar3, dParOD, dParOO, dParDO, dRet, dRetO, dRetN, dDrop, dBin, dUn, dC, dVar, dCB, dCBO, daCons, daNil, daLend, dats, one, two, oneO, dIxO, dOwn1, dOwn2, fIx, fLen, dBl, dTru, dNot, dAnd, dOr, dAndV, dOrV, dNotV, dChain, dFr, dTup, dLst, dApp, dPopAt, dFor, diRng1, diRng2, diAny, gN, items, itemsD, oAdd, oSub, oMul, oDiv, oMod, oPow, oNeg, oCmp, oLt, oLe, oGt, oGe, oEq, oNe, oIn, oIsN, oNotN, isN, oIx, oLen, lenD, oInt, oAbs, oInts, oBool, oTuple, oAll, oAny, oSum, oSumA, oSl, dSl, pNo, pSo, oSorted, oList, oJoin, dMt1, dCall, dCallO, dCallT, argsOf, lent, opt, truth, MO.toD, Rv.toD, putOuts, putMO, List.getElem?_cons_zero, List.getElem?_cons_succ, List.set_cons_zero, List.set_cons_succ, Option.map_some, dIsi, dNo, at0, at1, at2, ix30, ix31, ix32, dComp, dYes, wipeD, back, dMake, dMeth, dLenSetS, oInD, dDict0, dDPut, dGet, dPar3DDO, dProp, dFld, dFldO, dFldSet, dSortSet, daKw, decide_eq_true_eq, shI, shS, shB, shN, eqI, eqS, true_and, List.contains_nil, beq_iff_eq, ↓reduceIte, Bool.false_eq_true]
            exact hR _ _ told
          | some i9 =>
            rw [toldX_no es] at told
            simp only [entry, lend, jr, List.map_cons, List.map_nil, List.length_cons, List.length_nil, List.replicate_succ, List.replicate_zero, List.cons_append, List.nil_append, List.append_nil, Nat.reduceAdd, Nat.reduceSub, Nat.reduceMul, Nat.zero_add, dNext, dSet, dSetO, dPut, dPar, dPar3, dParOD, dParOO, dParDO, dRet, dRetO, dRetN, dDrop, dBin, dUn, dC, dVar, dCB, dCBO, daCons, daNil, daLend, dats, one, two, oneO, dIxO, dOwn1, dOwn2, fIx, fLen, dBl, dTru, dNot, dAnd, dOr, dAndV, dOrV, dNotV, dChain, dFr, dTup, dLst, dApp, dPopAt, dFor, diRng1, diRng2, diAny, gN, items, itemsD, oAdd, oSub, oMul, oDiv, oMod, oPow, oNeg, oCmp, oLt, oLe, oGt, oGe, oEq, oNe, oIn, oIsN, oNotN, isN, oIx, oLen, lenD, oInt, oAbs, oInts, oBool, oTuple, oAll, oAny, oSum, oSumA, oSl, dSl, pNo, pSo, oSorted, oList, oJoin, dMt1, dCall, dCallO, dCallT, argsOf, lent, opt, truth, MO.toD, Rv.toD, putOuts, putMO, List.getElem?_cons_zero, List.getElem?_cons_succ, List.set_cons_zero, List.set_cons_succ, Option.map_some, dIsi, dNo, at0, at1, at2, ix30, ix31, ix32, dComp, dYes, wipeD, back, dMake, dMeth, dLenSetS, oInD, dDict0, dDPut, dGet, dPar3DDO, dProp, dFld, dFldO, dFldSet, dSortSet, daKw, decide_eq_true_eq, shI, shS, shB, shN, eqI, eqS, true_and, List.contains_nil, beq_iff_eq, ↓reduceIte, Bool.false_eq_true]
            exact hU i9 _ (slip_ix hv es) told
        simp only [oBackI, entry, lend, jr, List.map_cons, List.map_nil, List.length_cons, List.length_nil, List.replicate_succ, List.replicate_zero, List.cons_append, List.nil_append, List.append_nil, Nat.reduceAdd, Nat.reduceSub, Nat.reduceMul, Nat.zero_add, dNext, dSet, dSetO, dPut, dPar, dPar3, dParOD, dParOO, dParDO, dRet, dRetO, dRetN, dDrop, dBin, dUn, dC, dVar, dCB, dCBO, daCons, daNil, daLend, dats, one, two, oneO, dIxO, dOwn1, dOwn2, fIx, fLen, dBl, dTru, dNot, dAnd, dOr, dAndV, dOrV, dNotV, dChain, dFr, dTup, dLst, dApp, dPopAt, dFor, diRng1, diRng2, diAny, gN, items, itemsD, oAdd, oSub, oMul, oDiv, oMod, oPow, oNeg, oCmp, oLt, oLe, oGt, oGe, oEq, oNe, oIn, oIsN, oNotN, isN, oIx, oLen, lenD, oInt, oAbs, oInts, oBool, oTuple, oAll, oAny, oSum, oSumA, oSl, dSl, pNo, pSo, oSorted, oList, oJoin, dMt1, dCall, dCallO, dCallT, argsOf, lent, opt, truth, MO.toD, Rv.toD, putOuts, putMO, List.getElem?_cons_zero, List.getElem?_cons_succ, List.set_cons_zero, List.set_cons_succ, Option.map_some, dIsi, dNo, at0, at1, at2, ix30, ix31, ix32, dComp, dYes, wipeD, back, dMake, dMeth, dLenSetS, oInD, dDict0, dDPut, dGet, dPar3DDO, dProp, dFld, dFldO, dFldSet, dSortSet, daKw, decide_eq_true_eq, shI, shS, shB, shN, eqI, eqS, true_and, List.contains_nil, beq_iff_eq, ↓reduceIte, Bool.false_eq_true]
        refine ⟨kilo_line (by decide), ⟨by decide, by decide, by decide⟩, kilo_line (by decide), use_odd (j := j) fun o j ho => ?_⟩
        simp only [entry, lend, jr, List.map_cons, List.map_nil, List.length_cons, List.length_nil, List.replicate_succ, List.replicate_zero, List.cons_append, List.nil_append, List.append_nil, Nat.reduceAdd, Nat.reduceSub, Nat.reduceMul, Nat.zero_add, dNext, dSet, dSetO, dPut, dPar, dPar3, dParOD, dParOO, dParDO, dRet, dRetO, dRetN, dDrop, dBin, dUn, dC, dVar, dCB, dCBO, daCons, daNil, daLend, dats, one, two, oneO, dIxO, dOwn1, dOwn2, fIx, fLen, dBl, dTru, dNot, dAnd, dOr, dAndV, dOrV, dNotV, dChain, dFr, dTup, dLst, dApp, dPopAt, dFor, diRng1, diRng2, diAny, gN, items, itemsD, oAdd, oSub, oMul, oDiv, oMod, oPow, oNeg, oCmp, oLt, oLe, oGt, oGe, oEq, oNe, oIn, oIsN, oNotN, isN, oIx, oLen, lenD, oInt, oAbs, oInts, oBool, oTuple, oAll, oAny, oSum, oSumA, oSl, dSl, pNo, pSo, oSorted, oList, oJoin, dMt1, dCall, dCallO, dCallT, argsOf, lent, opt, truth, MO.toD, Rv.toD, putOuts, putMO, List.getElem?_cons_zero, List.getElem?_cons_succ, List.set_cons_zero, List.set_cons_succ, Option.map_some, dIsi, dNo, at0, at1, at2, ix30, ix31, ix32, dComp, dYes, wipeD, back, dMake, dMeth, dLenSetS, oInD, dDict0, dDPut, dGet, dPar3DDO, dProp, dFld, dFldO, dFldSet, dSortSet, daKw, decide_eq_true_eq, shI, shS, shB, shN, eqI, eqS, true_and, List.contains_nil, beq_iff_eq, ↓reduceIte, Bool.false_eq_true]
        refine ⟨kilo_line (by decide), by
          have : ((List.replicate (Int.toNat 6) [Dt.tup ds]).flatten).length = 6 := rfl
          unfold Fits; omega, use_pick (j := j) (by simp) (by
          have : ((List.replicate (Int.toNat 6) [Dt.tup ds]).flatten).length = 6 := rfl
          rw [List.length_append]
          simp only [List.length_cons, List.length_nil]
          omega) fun v j hv => ?_⟩
        simp only [entry, lend, jr, List.map_cons, List.map_nil, List.length_cons, List.length_nil, List.replicate_succ, List.replicate_zero, List.cons_append, List.nil_append, List.append_nil, Nat.reduceAdd, Nat.reduceSub, Nat.reduceMul, Nat.zero_add, dNext, dSet, dSetO, dPut, dPar, dPar3, dParOD, dParOO, dParDO, dRet, dRetO, dRetN, dDrop, dBin, dUn, dC, dVar, dCB, dCBO, daCons, daNil, daLend, dats, one, two, oneO, dIxO, dOwn1, dOwn2, fIx, fLen, dBl, dTru, dNot, dAnd, dOr, dAndV, dOrV, dNotV, dChain, dFr, dTup, dLst, dApp, dPopAt, dFor, diRng1, diRng2, diAny, gN, items, itemsD, oAdd, oSub, oMul, oDiv, oMod, oPow, oNeg, oCmp, oLt, oLe, oGt, oGe, oEq, oNe, oIn, oIsN, oNotN, isN, oIx, oLen, lenD, oInt, oAbs, oInts, oBool, oTuple, oAll, oAny, oSum, oSumA, oSl, dSl, pNo, pSo, oSorted, oList, oJoin, dMt1, dCall, dCallO, dCallT, argsOf, lent, opt, truth, MO.toD, Rv.toD, putOuts, putMO, List.getElem?_cons_zero, List.getElem?_cons_succ, List.set_cons_zero, List.set_cons_succ, Option.map_some, dIsi, dNo, at0, at1, at2, ix30, ix31, ix32, dComp, dYes, wipeD, back, dMake, dMeth, dLenSetS, oInD, dDict0, dDPut, dGet, dPar3DDO, dProp, dFld, dFldO, dFldSet, dSortSet, daKw, decide_eq_true_eq, shI, shS, shB, shN, eqI, eqS, true_and, List.contains_nil, beq_iff_eq, ↓reduceIte, Bool.false_eq_true]
        refine value v j ?_
        rcases List.mem_append.mp hv with h | h
        · have h : v ∈ [Dt.tup ds, Dt.tup ds, Dt.tup ds, Dt.tup ds, Dt.tup ds, Dt.tup ds] := h
          simp only [List.mem_cons, List.not_mem_nil, or_false, or_self] at h
          rw [h]; exact ht
        · simp only [List.mem_cons, List.not_mem_nil, or_false] at h
          rcases h with rfl | rfl | rfl | rfl
          · exact ⟨by rw [List.length_reverse]; exact ht.1, fun d hd => ht.2 d (List.mem_reverse.mp hd)⟩
          · exact trivial
          · exact ⟨Nat.zero_le _, nofun⟩
          · exact odd_tp _ ho
    refine ifv_step fun kb kt kf => ?_
    simp only [gN, entry, lend, jr, List.map_cons, List.map_nil, List.length_cons, List.length_nil, List.replicate_succ, List.replicate_zero, List.cons_append, List.nil_append, List.append_nil, Nat.reduceAdd, Nat.reduceSub, Nat.reduceMul, Nat.zero_add, dNext, dSet, dSetO, dPut, dPar, dPar3, dParOD, dParOO, dParDO, dRet, dRetO, dRetN, dDrop, dBin, dUn, dC, dVar, dCB, dCBO, daCons, daNil, daLend, dats, one, two, oneO, dIxO, dOwn1, dOwn2, fIx, fLen, dBl, dTru, dNot, dAnd, dOr, dAndV, dOrV, dNotV, dChain, dFr, dTup, dLst, dApp, dPopAt, dFor, diRng1, diRng2, diAny, gN, items, itemsD, oAdd, oSub, oMul, oDiv, oMod, oPow, oNeg, oCmp, oLt, oLe, oGt, oGe, oEq, oNe, oIn, oIsN, oNotN, isN, oIx, oLen, lenD, oInt, oAbs, oInts, oBool, oTuple, oAll, oAny, oSum, oSumA, oSl, dSl, pNo, pSo, oSorted, oList, oJoin, dMt1, dCall, dCallO, dCallT, argsOf, lent, opt, truth, MO.toD, Rv.toD, putOuts, putMO, List.getElem?_cons_zero, List.getElem?_cons_succ, List.set_cons_zero, List.set_cons_succ, Option.map_some, dIsi, dNo, at0, at1, at2, ix30, ix31, ix32, dComp, dYes, wipeD, back, dMake, dMeth, dLenSetS, oInD, dDict0, dDPut, dGet, dPar3DDO, dProp, dFld, dFldO, dFldSet, dSortSet, daKw, decide_eq_true_eq, shI, shS, shB, shN, eqI, eqS, true_and, List.contains_nil, beq_iff_eq, ↓reduceIte, Bool.false_eq_true]
    by_cases r9 : (0 : Int) + (i : Nat) < 9
    · rw [decide_eq_true r9]
      refine kt _ ?_
      simp only [entry, lend, jr, List.map_cons, List.map_nil, List.length_cons, List.length_nil, List.replicate_succ, List.replicate_zero, List.cons_append, List.nil_append, List.append_nil, Nat.reduceAdd, Nat.reduceSub, Nat.reduceMul, Nat.zero_add, dNext, dSet, dSetO, dPut, dPar, dPar3, dParOD, dParOO, dParDO, dRet, dRetO, dRetN, dDrop, dBin, dUn, dC, dVar, dCB, dCBO, daCons, daNil, daLend, dats, one, two, oneO, dIxO, dOwn1, dOwn2, fIx, fLen, dBl, dTru, dNot, dAnd, dOr, dAndV, dOrV, dNotV, dChain, dFr, dTup, dLst, dApp, dPopAt, dFor, diRng1, diRng2, diAny, gN, items, itemsD, oAdd, oSub, oMul, oDiv, oMod, oPow, oNeg, oCmp, oLt, oLe, oGt, oGe, oEq, oNe, oIn, oIsN, oNotN, isN, oIx, oLen, lenD, oInt, oAbs, oInts, oBool, oTuple, oAll, oAny, oSum, oSumA, oSl, dSl, pNo, pSo, oSorted, oList, oJoin, dMt1, dCall, dCallO, dCallT, argsOf, lent, opt, truth, MO.toD, Rv.toD, putOuts, putMO, List.getElem?_cons_zero, List.getElem?_cons_succ, List.set_cons_zero, List.set_cons_succ, Option.map_some, dIsi, dNo, at0, at1, at2, ix30, ix31, ix32, dComp, dYes, wipeD, back, dMake, dMeth, dLenSetS, oInD, dDict0, dDPut, dGet, dPar3DDO, dProp, dFld, dFldO, dFldSet, dSortSet, daKw, decide_eq_true_eq, shI, shS, shB, shN, eqI, eqS, true_and, List.contains_nil, beq_iff_eq, ↓reduceIte, Bool.false_eq_true]
      refine use_roster (n := 6) (m := 9) (j := j) (by decide) (by decide) (by decide) (by decide) fun L lot j hL h9 => ?_
      simp only [entry, lend, jr, List.map_cons, List.map_nil, List.length_cons, List.length_nil, List.replicate_succ, List.replicate_zero, List.cons_append, List.nil_append, List.append_nil, Nat.reduceAdd, Nat.reduceSub, Nat.reduceMul, Nat.zero_add, dNext, dSet, dSetO, dPut, dPar, dPar3, dParOD, dParOO, dParDO, dRet, dRetO, dRetN, dDrop, dBin, dUn, dC, dVar, dCB, dCBO, daCons, daNil, daLend, dats, one, two, oneO, dIxO, dOwn1, dOwn2, fIx, fLen, dBl, dTru, dNot, dAnd, dOr, dAndV, dOrV, dNotV, dChain, dFr, dTup, dLst, dApp, dPopAt, dFor, diRng1, diRng2, diAny, gN, items, itemsD, oAdd, oSub, oMul, oDiv, oMod, oPow, oNeg, oCmp, oLt, oLe, oGt, oGe, oEq, oNe, oIn, oIsN, oNotN, isN, oIx, oLen, lenD, oInt, oAbs, oInts, oBool, oTuple, oAll, oAny, oSum, oSumA, oSl, dSl, pNo, pSo, oSorted, oList, oJoin, dMt1, dCall, dCallO, dCallT, argsOf, lent, opt, truth, MO.toD, Rv.toD, putOuts, putMO, List.getElem?_cons_zero, List.getElem?_cons_succ, List.set_cons_zero, List.set_cons_succ, Option.map_some, dIsi, dNo, at0, at1, at2, ix30, ix31, ix32, dComp, dYes, wipeD, back, dMake, dMeth, dLenSetS, oInD, dDict0, dDPut, dGet, dPar3DDO, dProp, dFld, dFldO, dFldSet, dSortSet, daKw, decide_eq_true_eq, shI, shS, shB, shN, eqI, eqS, true_and, List.contains_nil, beq_iff_eq, ↓reduceIte, Bool.false_eq_true]
      have lD : (stL lot).length = lot.length := List.length_map _
      exact base (stL lot) j ⟨fun e => h9.ne (List.map_eq_nil_iff.mp e), by have := h9.len; omega, fun d hd => by
        obtain ⟨l, hl, rfl⟩ := List.mem_map.mp hd
        have p := h9.perm l hl
        exact ts_str (by rw [p.length_eq]; exact hL.hi) fun c hc => small_128 (hL.sm c (p.mem_iff.mp hc))⟩
    · rw [decide_eq_false r9]
      refine kf _ ?_
      simp only [entry, lend, jr, List.map_cons, List.map_nil, List.length_cons, List.length_nil, List.replicate_succ, List.replicate_zero, List.cons_append, List.nil_append, List.append_nil, Nat.reduceAdd, Nat.reduceSub, Nat.reduceMul, Nat.zero_add, dNext, dSet, dSetO, dPut, dPar, dPar3, dParOD, dParOO, dParDO, dRet, dRetO, dRetN, dDrop, dBin, dUn, dC, dVar, dCB, dCBO, daCons, daNil, daLend, dats, one, two, oneO, dIxO, dOwn1, dOwn2, fIx, fLen, dBl, dTru, dNot, dAnd, dOr, dAndV, dOrV, dNotV, dChain, dFr, dTup, dLst, dApp, dPopAt, dFor, diRng1, diRng2, diAny, gN, items, itemsD, oAdd, oSub, oMul, oDiv, oMod, oPow, oNeg, oCmp, oLt, oLe, oGt, oGe, oEq, oNe, oIn, oIsN, oNotN, isN, oIx, oLen, lenD, oInt, oAbs, oInts, oBool, oTuple, oAll, oAny, oSum, oSumA, oSl, dSl, pNo, pSo, oSorted, oList, oJoin, dMt1, dCall, dCallO, dCallT, argsOf, lent, opt, truth, MO.toD, Rv.toD, putOuts, putMO, List.getElem?_cons_zero, List.getElem?_cons_succ, List.set_cons_zero, List.set_cons_succ, Option.map_some, dIsi, dNo, at0, at1, at2, ix30, ix31, ix32, dComp, dYes, wipeD, back, dMake, dMeth, dLenSetS, oInD, dDict0, dDPut, dGet, dPar3DDO, dProp, dFld, dFldO, dFldSet, dSortSet, daKw, decide_eq_true_eq, shI, shS, shB, shN, eqI, eqS, true_and, List.contains_nil, beq_iff_eq, ↓reduceIte, Bool.false_eq_true]
      refine ⟨((true, p, j), ()), rfl, trivial, fun y hy => ?_⟩
      obtain ⟨lot, j⟩ := y
      simp only [entry, lend, jr, List.map_cons, List.map_nil, List.length_cons, List.length_nil, List.replicate_succ, List.replicate_zero, List.cons_append, List.nil_append, List.append_nil, Nat.reduceAdd, Nat.reduceSub, Nat.reduceMul, Nat.zero_add, dNext, dSet, dSetO, dPut, dPar, dPar3, dParOD, dParOO, dParDO, dRet, dRetO, dRetN, dDrop, dBin, dUn, dC, dVar, dCB, dCBO, daCons, daNil, daLend, dats, one, two, oneO, dIxO, dOwn1, dOwn2, fIx, fLen, dBl, dTru, dNot, dAnd, dOr, dAndV, dOrV, dNotV, dChain, dFr, dTup, dLst, dApp, dPopAt, dFor, diRng1, diRng2, diAny, gN, items, itemsD, oAdd, oSub, oMul, oDiv, oMod, oPow, oNeg, oCmp, oLt, oLe, oGt, oGe, oEq, oNe, oIn, oIsN, oNotN, isN, oIx, oLen, lenD, oInt, oAbs, oInts, oBool, oTuple, oAll, oAny, oSum, oSumA, oSl, dSl, pNo, pSo, oSorted, oList, oJoin, dMt1, dCall, dCallO, dCallT, argsOf, lent, opt, truth, MO.toD, Rv.toD, putOuts, putMO, List.getElem?_cons_zero, List.getElem?_cons_succ, List.set_cons_zero, List.set_cons_succ, Option.map_some, dIsi, dNo, at0, at1, at2, ix30, ix31, ix32, dComp, dYes, wipeD, back, dMake, dMeth, dLenSetS, oInD, dDict0, dDPut, dGet, dPar3DDO, dProp, dFld, dFldO, dFldSet, dSortSet, daKw, decide_eq_true_eq, shI, shS, shB, shN, eqI, eqS, true_and, List.contains_nil, beq_iff_eq, ↓reduceIte, Bool.false_eq_true]
      exact base (stL lot) j hy
  · rintro ρ ⟨j, s1, s2, s3, s4, s5, rfl⟩
    refine hk1 _ ?_
    simp only [entry, lend, jr, List.map_cons, List.map_nil, List.length_cons, List.length_nil, List.replicate_succ, List.replicate_zero, List.cons_append, List.nil_append, List.append_nil, Nat.reduceAdd, Nat.reduceSub, Nat.reduceMul, Nat.zero_add, dSeq, dNext, dSet, dSetO, dPut, dPar, dPar3, dParOD, dParOO, dParDO, dIfS, dRet, dRetO, dRetN, dDrop, dBin, dUn, dC, dVar, dCB, dCBO, daCons, daNil, daLend, dats, one, two, oneO, dIxO, dOwn1, dOwn2, fIx, fLen, dBl, dTru, dNot, dAnd, dOr, dIf, dAndV, dOrV, dNotV, dChain, dFr, dTup, dLst, dApp, dPopAt, dFor, diRng1, diRng2, diAny, gN, items, itemsD, oAdd, oSub, oMul, oDiv, oMod, oPow, oNeg, oCmp, oLt, oLe, oGt, oGe, oEq, oNe, oIn, oIsN, oNotN, isN, oIx, oLen, lenD, oInt, oAbs, oInts, oBool, oTuple, oAll, oAny, oSum, oSumA, oSl, dSl, pNo, pSo, oSorted, oList, oJoin, dMt1, dCall, dCallO, dCallT, argsOf, lent, opt, truth, MO.toD, Rv.toD, putOuts, putMO, List.getElem?_cons_zero, List.getElem?_cons_succ, List.set_cons_zero, List.set_cons_succ, Option.map_some, dIsi, dNo, at0, at1, at2, ix30, ix31, ix32, ends, outW, dComp, dYes, wipeD, back, dMake, dMeth, dLenSetS, oInD, dDict0, dDPut, dGet, dPar3DDO, dProp, dFld, dFldO, dFldSet, dSortSet, daKw, decide_eq_true_eq, shI, shS, shB, shN, eqI, eqS, true_and, List.contains_nil, beq_iff_eq, ↓reduceIte, Bool.false_eq_true]
    exact fin j

structure Facts (K : PySem.W.Frag) (mg : Str → Option Value) (w : World) : Prop where
  b_ArithmeticError : mg "ArithmeticError" = none
  b_LookupError : mg "LookupError" = none
  b_ValueError : mg "ValueError" = none
  b_abs : mg "abs" = none
  b_all : mg "all" = none
  b_int : mg "int" = none
  b_isinstance : mg "isinstance" = none
  b_len : mg "len" = none
  b_list : mg "list" = none
  b_max : mg "max" = none
  b_min : mg "min" = none
  b_range : mg "range" = none
  b_repr : mg "repr" = none
  b_set : mg "set" = none
  b_sorted : mg "sorted" = none
  b_str : mg "str" = none
  b_tuple : mg "tuple" = none
  f_L_dip : mg "_law_dip" = some (.ref (He.ga K "_law_dip"))
  f_L_shuffled : mg "_law_shuffled" = some (.ref (He.ga K "_law_shuffled"))
  f_L_hill : mg "_law_hill" = some (.ref (He.ga K "_law_hill"))
  f_L_lot_of : mg "_law_lot_of" = some (.ref (He.ga K "_law_lot_of"))
  f_L_letters : mg "_law_letters" = some (.ref (He.ga K "_law_letters"))
  f_L_roster : mg "_law_roster" = some (.ref (He.ga K "_law_roster"))
  f_L_many : mg "_law_many" = some (.ref (He.ga K "_law_many"))
  f_L_pick : mg "_law_pick" = some (.ref (He.ga K "_law_pick"))
  f_L_odd : mg "_law_odd" = some (.ref (He.ga K "_law_odd"))
  f_L_bent : mg "_law_bent" = some (.ref (He.ga K "_law_bent"))
  f_L_lot_slip : mg "_law_lot_slip" = some (.ref (He.ga K "_law_lot_slip"))
  f_L_bases : mg "_law_bases" = some (.ref (He.ga K "_law_bases"))
  f_L_shown : mg "_law_shown" = some (.ref (He.ga K "_law_shown"))
  f_L_caught : mg "_law_caught" = some (.ref (He.ga K "_law_caught"))
  f_are_letters : mg "are_letters" = some (.ref (He.ga K "are_letters"))
  f_is_order : mg "is_order" = some (.ref (He.ga K "is_order"))
  f_is_order_of : mg "is_order_of" = some (.ref (He.ga K "is_order_of"))
  f_check_orders : mg "check_orders" = some (.ref (He.ga K "check_orders"))
  f_L_right : mg "_law_right" = some (.ref (He.ga K "_law_right"))
  f_L_jar : mg "_law_jar" = some (.ref (He.ga K "_law_jar"))
  f_law : mg "law" = some (.ref (He.ga K "law"))
  i_LEAST_THINGS : ∃ t, mg "LEAST_THINGS" = some (.int 3 t)
  i_LETTERS : ∃ t, mg "LETTERS" = some (.str "abcdefghijklmnopqrstuvwxyz" t)
  i_MOST_ORDERS : ∃ t, mg "MOST_ORDERS" = some (.int 48 t)
  i_MOST_THINGS : ∃ t, mg "MOST_THINGS" = some (.int 6 t)
  c_InvalidOrders : mg "InvalidOrders" = some (.ref (He.ga K "InvalidOrders"))
  c_NotPossible : mg "NotPossible" = some (.ref (He.ga K "NotPossible"))
  c_Roll : mg "Roll" = some (.ref (He.ga K "Roll"))
  cls_Roll : Cls K (He.ga K "Roll")
  mk_Roll : Mk K (He.ga K "Roll") (He.ma K (He.ga K "Roll") "__init__")
  c_WrongName : mg "WrongName" = some (.ref (He.ga K "WrongName"))
  c_WrongValue : mg "WrongValue" = some (.ref (He.ga K "WrongValue"))
  xm_InvalidOrders : XcM K (He.ga K "InvalidOrders") .ve (He.ma K (He.ga K "InvalidOrders") "__init__") "index"
  xi_InvalidOrders : ∀ z ∈ ([(He.ga K "InvalidOrders", true)] : List (Addr × Bool)), L2.ExcC K z.1 ∧ PySem.W.kitOne K (.ref z.1) (.ref (He.ga K "InvalidOrders")) = some z.2
  xi_WrongValue : ∀ z ∈ ([(He.ga K "InvalidOrders", true)] : List (Addr × Bool)), L2.ExcC K z.1 ∧ PySem.W.kitOne K (.ref z.1) (.ref (He.ga K "WrongValue")) = some z.2
  xi_ValueError : ∀ z ∈ ([(He.ga K "InvalidOrders", true)] : List (Addr × Bool)), L2.ExcC K z.1 ∧ PySem.W.kitOne K (.ref z.1) (.type "ValueError") = some z.2
  xi_WrongName : ∀ z ∈ ([(He.ga K "InvalidOrders", false)] : List (Addr × Bool)), L2.ExcC K z.1 ∧ PySem.W.kitOne K (.ref z.1) (.ref (He.ga K "WrongName")) = some z.2
  xi_LookupError : ∀ z ∈ ([(He.ga K "InvalidOrders", false)] : List (Addr × Bool)), L2.ExcC K z.1 ∧ PySem.W.kitOne K (.ref z.1) (.type "LookupError") = some z.2
  xi_NotPossible : ∀ z ∈ ([(He.ga K "InvalidOrders", false)] : List (Addr × Bool)), L2.ExcC K z.1 ∧ PySem.W.kitOne K (.ref z.1) (.ref (He.ga K "NotPossible")) = some z.2
  xi_ArithmeticError : ∀ z ∈ ([(He.ga K "InvalidOrders", false)] : List (Addr × Bool)), L2.ExcC K z.1 ∧ PySem.W.kitOne K (.ref z.1) (.type "ArithmeticError") = some z.2
  xf_index : ∀ C ∈ ([He.ga K "InvalidOrders"] : List Addr), XfC K C ∧ PySem.W.findIn K (.ref C) "index" = some none
  sy_WrongValue_WrongName_NotPossible : Says (fun cls => PySem.W.exmAny K cls [.ref (He.ga K "WrongValue"), .ref (He.ga K "WrongName"), .ref (He.ga K "NotPossible")]) [(He.ga K "InvalidOrders", true)]
  p_Roll_orders : PropOf K (He.ga K "Roll") "orders" (He.ma K (He.ga K "Roll") "orders") (propG K (He.ma K (He.ga K "Roll") "orders"))
  n_lot : PlainF K "lot" [He.ga K "Roll"]
  is_str : ∀ C ∈ ([] : List Addr), PySem.W.kitOne K (.ref C) (.type (Bt.nm .str)) = some false ∧ OwnTy K C
  is_tuple : ∀ C ∈ ([] : List Addr), PySem.W.kitOne K (.ref C) (.type (Bt.nm .tup)) = some false ∧ OwnTy K C
  iso_Roll : ∀ p ∈ ([(He.ga K "Roll", true)] : List (Addr × Bool)), PySem.W.kitOne K (.ref p.1) (.ref (He.ga K "Roll")) = some p.2 ∧ OwnTy K p.1
  isb_Roll : ∀ t : Bt, PySem.W.kitOne K (.type t.nm) (.ref (He.ga K "Roll")) = some false
section
variable {P : Program} {w : World} {K : PySem.W.Frag} {mg : Str → Option Value} {base : Heap} {T : List (Addr × Str)}
theorem der_L_dip (F : Facts K mg w) {fd : FuncData} (Fn : FnA K a_L_dip fd) : Fd T P w K mg base 1 (a_L_dip.adr K) P_L_dip fd (sp_L_dip K) := by
  exact fn_D (k := 0) (m := m_L_dip K) Fn sc_L_dip mono_L_dip len_L_dip (fun cdv A outer s H E Z hr hgd =>
    (ds_cons (ds_put 0 (d_op opAddA v_add (d_indexO 0 d_int) d_int) d_int) (ds_cons (ds_if (t_cmp opGt v_cmp (d_indexO 0 d_int) d_int) (ds_cons (ds_set (i := 3) sc_L_dip.nd (d_op op_mod v_mod (d_cb v_int (fun t ha => by exact pe_callTy call_int1 rfl F.b_int rfl ha) (da_cons (d_indexO 0 d_int) da_nil)) (d_var 1))) (ds_cons (ds_put 0 (d_op op_fdivQ v_divQ (d_cb v_int (fun t ha => by exact pe_callTy call_int1 rfl F.b_int rfl ha) (da_cons (d_indexO 0 d_int) da_nil)) (d_var 1)) d_int) (ds_one (ds_ret (d_var 3))))) ds_nil) (ds_cons (ds_set (i := 2) sc_L_dip.nd (d_cb v_int (fun t ha => by exact pe_callTy call_int1 rfl F.b_int rfl ha) (da_cons (d_indexO 0 d_int) da_nil))) (ds_cons (ds_put 0 (d_op op_mod v_mod (d_cb v_int (fun t ha => by exact pe_callTy call_int1 rfl F.b_int rfl ha) (da_cons (d_op opAddA v_add (d_op opAddA v_add (d_op opMulA v_mul (d_var 2) d_int) (d_op opMulA v_mul (d_indexO 0 d_int) d_int)) d_int) da_nil)) d_int) d_int) (ds_one (ds_ret (d_op op_mod v_mod (d_cb v_int (fun t ha => by exact pe_callTy call_int1 rfl F.b_int rfl ha) (da_cons (d_op op_fdivQ v_divQ (d_indexO 0 d_int) d_int) da_nil)) (d_var 1))))))))) (math_L_dip K)
theorem der_L_shuffled (F : Facts K mg w) {fd : FuncData} (Fn : FnA K a_L_shuffled fd) (C_L_dip : ∃ fd, FnA K a_L_dip fd ∧ Fd T P w K mg base 1 (a_L_dip.adr K) P_L_dip fd (sp_L_dip K)) : Fd T P w K mg base 2 (a_L_shuffled.adr K) P_L_shuffled fd (sp_L_shuffled K) := by
  obtain ⟨fd_L_dip, Fn_L_dip, D_L_dip⟩ := C_L_dip
  have bk_L_dip := bindP (ps := P_L_dip) Fn_L_dip fun _ _ _ _ _ _ us hl => match us, hl with | [_, _], _ => rfl
  exact fn_D (k := 1) (m := m_L_shuffled K) Fn sc_L_shuffled mono_L_shuffled len_L_shuffled (fun cdv A outer s H E Z hr hgd =>
    (ds_cons (ds_parOD (i := 3) (j := 4) rfl sc_L_shuffled.nd (d_cbO v_list (fun t ha => by exact pe_callTy (cr_listX rfl) rfl F.b_list rfl ha) (da_cons (d_var 1) da_nil)) (fun _ => (d_str (l := [])))) (ds_cons (ds_for owns_cx rfl (di_range1 F.b_range (d_lenO 3 rfl F.b_len)) (g_name (i := 2) sc_L_shuffled.nd) (ds_one (ds_set (i := 4) sc_L_shuffled.nd (d_op opAddA v_add (d_var 4) (d_popAt 3 (d_call hr hgd (D_L_dip.le (by decide)) F.f_L_dip bk_L_dip pass_cx (ev_pos (da_lend 0 (da_cons (d_lenO 3 rfl F.b_len) da_nil))))))))) (ds_one (ds_ret (d_var 4)))))) (math_L_shuffled K)
theorem der_L_hill (F : Facts K mg w) {fd : FuncData} (Fn : FnA K a_L_hill fd) (C_L_dip : ∃ fd, FnA K a_L_dip fd ∧ Fd T P w K mg base 1 (a_L_dip.adr K) P_L_dip fd (sp_L_dip K)) : Fd T P w K mg base 2 (a_L_hill.adr K) P_L_hill fd (sp_L_hill K) := by
  obtain ⟨fd_L_dip, Fn_L_dip, D_L_dip⟩ := C_L_dip
  have bk_L_dip := bindP (ps := P_L_dip) Fn_L_dip fun _ _ _ _ _ _ us hl => match us, hl with | [_, _], _ => rfl
  exact fn_D (k := 1) (m := m_L_hill K) Fn sc_L_hill mono_L_hill len_L_hill (fun cdv A outer s H E Z hr hgd =>
    (ds_cons (ds_set (i := 2) sc_L_hill.nd (d_call hr hgd (D_L_dip.le (by decide)) F.f_L_dip bk_L_dip pass_cx (ev_pos (da_lend 0 (da_cons (d_cb v_len (fun t ha => by exact pe_callB call_lenX rfl F.b_len rfl ha) (da_cons (d_var 1) da_nil)) da_nil))))) (ds_cons (ds_par3 (i := 4) (j := 5) (l := 6) rfl sc_L_hill.nd (d_op op_sub v_sub (d_var 2) d_int) (d_op opAddA v_add (d_var 2) d_int) (d_index (d_var 1) (d_var 2))) (ds_cons (ds_for owns_cx rfl (di_range1 F.b_range (d_op op_sub v_sub (d_cb v_len (fun t ha => by exact pe_callB call_lenX rfl F.b_len rfl ha) (da_cons (d_var 1) da_nil)) d_int)) (g_name (i := 3) sc_L_hill.nd) (ds_one (ds_if (t_w (w_or (t_cmp (opEqP hr.units) v_eq (d_var 5) (d_cb v_len (fun t ha => by exact pe_callB call_lenX rfl F.b_len rfl ha) (da_cons (d_var 1) da_nil))) (w_or1 (t_w (w_and (t_cmp opGe v_cmp (d_var 4) d_int) (w_and1 (t_cmp (opEqP hr.units) v_eq (d_call hr hgd (D_L_dip.le (by decide)) F.f_L_dip bk_L_dip pass_cx (ev_pos (da_lend 0 (da_cons d_int da_nil)))) d_int))))))) (ds_one (ds_par (i := 6) (j := 4) rfl sc_L_hill.nd (d_op opAddA v_add (d_var 6) (d_index (d_var 1) (d_var 4))) (d_op op_sub v_sub (d_var 4) d_int))) (ds_one (ds_par (i := 6) (j := 5) rfl sc_L_hill.nd (d_op opAddA v_add (d_var 6) (d_index (d_var 1) (d_var 5))) (d_op opAddA v_add (d_var 5) d_int)))))) (ds_one (ds_ret (d_var 6))))))) (math_L_hill K)
theorem der_L_lot_of (F : Facts K mg w) {fd : FuncData} (Fn : FnA K a_L_lot_of fd) (C_L_dip : ∃ fd, FnA K a_L_dip fd ∧ Fd T P w K mg base 1 (a_L_dip.adr K) P_L_dip fd (sp_L_dip K)) (C_L_hill : ∃ fd, FnA K a_L_hill fd ∧ Fd T P w K mg base 2 (a_L_hill.adr K) P_L_hill fd (sp_L_hill K)) (C_L_shuffled : ∃ fd, FnA K a_L_shuffled fd ∧ Fd T P w K mg base 2 (a_L_shuffled.adr K) P_L_shuffled fd (sp_L_shuffled K)) : Fd T P w K mg base 3 (a_L_lot_of.adr K) P_L_lot_of fd (sp_L_lot_of K) := by
  obtain ⟨fd_L_dip, Fn_L_dip, D_L_dip⟩ := C_L_dip
  have bk_L_dip := bindP (ps := P_L_dip) Fn_L_dip fun _ _ _ _ _ _ us hl => match us, hl with | [_, _], _ => rfl
  obtain ⟨fd_L_hill, Fn_L_hill, D_L_hill⟩ := C_L_hill
  have bk_L_hill := bindP (ps := P_L_hill) Fn_L_hill fun _ _ _ _ _ _ us hl => match us, hl with | [_, _], _ => rfl
  obtain ⟨fd_L_shuffled, Fn_L_shuffled, D_L_shuffled⟩ := C_L_shuffled
  have bk_L_shuffled := bindP (ps := P_L_shuffled) Fn_L_shuffled fun _ _ _ _ _ _ us hl => match us, hl with | [_, _], _ => rfl
  exact fn_D (k := 2) (m := m_L_lot_of K) Fn sc_L_lot_of mono_L_lot_of len_L_lot_of (fun cdv A outer s H E Z hr hgd =>
    (ds_cons (ds_parDO (i := 5) (j := 6) rfl sc_L_lot_of.nd (d_call hr hgd (D_L_dip.le (by decide)) F.f_L_dip bk_L_dip pass_cx (ev_pos (da_lend 0 (da_cons d_int da_nil)))) (d_lst da_nil)) (ds_cons (ds_set (i := 3) sc_L_lot_of.nd (d_call hr hgd (D_L_shuffled.le (by decide)) F.f_L_shuffled bk_L_shuffled pass_cx (ev_pos (da_lend 0 (da_cons (d_var 1) da_nil))))) (ds_cons (ds_for owns_cx rfl (di_range1 F.b_range (d_op opAddA v_add d_int (d_call hr hgd (D_L_dip.le (by decide)) F.f_L_dip bk_L_dip pass_cx (ev_pos (da_lend 0 (da_cons (d_var 2) da_nil)))))) (g_name (i := 4) sc_L_lot_of.nd) (ds_cons (ds_set (i := 7) sc_L_lot_of.nd (d_if (t_w (w_or (t_cmp (opEqP hr.units) v_eq (d_var 5) d_int) (w_or1 (t_cmp (opEqP hr.units) v_eq (d_call hr hgd (D_L_dip.le (by decide)) F.f_L_dip bk_L_dip pass_cx (ev_pos (da_lend 0 (da_cons d_int da_nil)))) d_int)))) (d_call hr hgd (D_L_shuffled.le (by decide)) F.f_L_shuffled bk_L_shuffled pass_cx (ev_pos (da_lend 0 (da_cons (d_var 1) da_nil)))) (d_call hr hgd (D_L_hill.le (by decide)) F.f_L_hill bk_L_hill pass_cx (ev_pos (da_lend 0 (da_cons (d_var 3) da_nil)))))) (ds_cons (ds_if (t_cmp (opEqP hr.units) v_eq (d_var 5) d_int) (ds_cons (ds_set (i := 8) sc_L_lot_of.nd (d_call hr hgd (D_L_dip.le (by decide)) F.f_L_dip bk_L_dip pass_cx (ev_pos (da_lend 0 (da_cons (d_op op_sub v_sub (d_cb v_len (fun t ha => by exact pe_callB call_lenX rfl F.b_len rfl ha) (da_cons (d_var 3) da_nil)) d_int) da_nil))))) (ds_cons (ds_set (i := 9) sc_L_lot_of.nd (d_op opAddA v_add (d_index (d_var 3) (d_op opAddA v_add (d_var 8) d_int)) (d_index (d_var 3) (d_var 8)))) (ds_cons (ds_set (i := 3) sc_L_lot_of.nd (d_op opAddA v_add (d_op opAddA v_add (d_sl (d_var 3) p_no (p_so (d_var 8))) (d_var 9)) (d_sl (d_var 3) (p_so (d_op opAddA v_add (d_var 8) d_int)) p_no))) (ds_one (ds_set (i := 7) sc_L_lot_of.nd (d_var 3)))))) ds_nil) (ds_one (ds_expr (d_append 6 (d_var 7))))))) (ds_one (ds_ret (d_cb v_tuple (fun t ha => by exact pe_callTy call_tuple_of rfl F.b_tuple rfl ha) (da_cons (DOk.frz (d_sortSet (d_var 6) rfl rfl F.b_sorted rfl F.b_set)) da_nil)))))))) (math_L_lot_of K)
theorem der_L_letters (F : Facts K mg w) {fd : FuncData} (Fn : FnA K a_L_letters fd) (C_L_dip : ∃ fd, FnA K a_L_dip fd ∧ Fd T P w K mg base 1 (a_L_dip.adr K) P_L_dip fd (sp_L_dip K)) : Fd T P w K mg base 2 (a_L_letters.adr K) P_L_letters fd (sp_L_letters K) := by
  obtain ⟨fd_L_dip, Fn_L_dip, D_L_dip⟩ := C_L_dip
  have bk_L_dip := bindP (ps := P_L_dip) Fn_L_dip fun _ _ _ _ _ _ us hl => match us, hl with | [_, _], _ => rfl
  exact fn_D (k := 1) (m := m_L_letters K) Fn sc_L_letters mono_L_letters len_L_letters (fun cdv A outer s H E Z hr hgd =>
    (ds_cons (ds_parOO (i := 3) (j := 4) rfl sc_L_letters.nd (d_cbO v_list (fun t ha => by exact pe_callTy (cr_listX rfl) rfl F.b_list rfl ha) (da_cons (d_str (l := [97, 98, 99, 100, 101, 102, 107, 109, 120, 121, 122])) da_nil)) (fun _ => (d_lst da_nil))) (ds_cons (ds_for owns_cx rfl (di_range1 F.b_range (d_var 1)) (g_name (i := 2) sc_L_letters.nd) (ds_one (ds_expr (d_append 4 (d_popAt 3 (d_call hr hgd (D_L_dip.le (by decide)) F.f_L_dip bk_L_dip pass_cx (ev_pos (da_lend 0 (da_cons (d_lenO 3 rfl F.b_len) da_nil))))))))) (ds_one (ds_ret (d_join (d_str (l := [])) (DOk.frz (d_cbO v_sorted (fun t ha => by exact pe_callB (cr_sortX rfl) rfl F.b_sorted rfl ha) (da_cons (d_var 4) da_nil))))))))) (math_L_letters K)
theorem der_L_roster (F : Facts K mg w) {fd : FuncData} (Fn : FnA K a_L_roster fd) (C_L_dip : ∃ fd, FnA K a_L_dip fd ∧ Fd T P w K mg base 1 (a_L_dip.adr K) P_L_dip fd (sp_L_dip K)) (C_L_letters : ∃ fd, FnA K a_L_letters fd ∧ Fd T P w K mg base 2 (a_L_letters.adr K) P_L_letters fd (sp_L_letters K)) (C_L_lot_of : ∃ fd, FnA K a_L_lot_of fd ∧ Fd T P w K mg base 3 (a_L_lot_of.adr K) P_L_lot_of fd (sp_L_lot_of K)) : Fd T P w K mg base 4 (a_L_roster.adr K) P_L_roster fd (sp_L_roster K) := by
  obtain ⟨fd_L_dip, Fn_L_dip, D_L_dip⟩ := C_L_dip
  have bk_L_dip := bindP (ps := P_L_dip) Fn_L_dip fun _ _ _ _ _ _ us hl => match us, hl with | [_, _], _ => rfl
  obtain ⟨fd_L_letters, Fn_L_letters, D_L_letters⟩ := C_L_letters
  have bk_L_letters := bindP (ps := P_L_letters) Fn_L_letters fun _ _ _ _ _ _ us hl => match us, hl with | [_, _], _ => rfl
  obtain ⟨fd_L_lot_of, Fn_L_lot_of, D_L_lot_of⟩ := C_L_lot_of
  have bk_L_lot_of := bindP (ps := P_L_lot_of) Fn_L_lot_of fun _ _ _ _ _ _ us hl => match us, hl with | [_, _, _], _ => rfl
  exact fn_D (k := 3) (m := m_L_roster K) Fn sc_L_roster mono_L_roster len_L_roster (fun cdv A outer s H E Z hr hgd =>
    (ds_one (ds_ret (d_call hr hgd (D_L_lot_of.le (by decide)) F.f_L_lot_of bk_L_lot_of pass_cx (ev_pos (da_lend 0 (da_cons (d_call hr hgd (D_L_letters.le (by decide)) F.f_L_letters bk_L_letters pass_cx (ev_pos (da_lend 0 (da_cons (d_op opAddA v_add d_int (d_call hr hgd (D_L_dip.le (by decide)) F.f_L_dip bk_L_dip pass_cx (ev_pos (da_lend 0 (da_cons (d_op op_sub v_sub (d_var 1) d_int) da_nil))))) da_nil)))) (da_cons (d_var 2) da_nil)))))))) (math_L_roster K)
theorem der_L_many (F : Facts K mg w) {fd : FuncData} (Fn : FnA K a_L_many fd) (C_L_dip : ∃ fd, FnA K a_L_dip fd ∧ Fd T P w K mg base 1 (a_L_dip.adr K) P_L_dip fd (sp_L_dip K)) (C_L_letters : ∃ fd, FnA K a_L_letters fd ∧ Fd T P w K mg base 2 (a_L_letters.adr K) P_L_letters fd (sp_L_letters K)) (C_L_shuffled : ∃ fd, FnA K a_L_shuffled fd ∧ Fd T P w K mg base 2 (a_L_shuffled.adr K) P_L_shuffled fd (sp_L_shuffled K)) : Fd T P w K mg base 3 (a_L_many.adr K) P_L_many fd (sp_L_many K) := by
  obtain ⟨fd_L_dip, Fn_L_dip, D_L_dip⟩ := C_L_dip
  have bk_L_dip := bindP (ps := P_L_dip) Fn_L_dip fun _ _ _ _ _ _ us hl => match us, hl with | [_, _], _ => rfl
  obtain ⟨fd_L_letters, Fn_L_letters, D_L_letters⟩ := C_L_letters
  have bk_L_letters := bindP (ps := P_L_letters) Fn_L_letters fun _ _ _ _ _ _ us hl => match us, hl with | [_, _], _ => rfl
  obtain ⟨fd_L_shuffled, Fn_L_shuffled, D_L_shuffled⟩ := C_L_shuffled
  have bk_L_shuffled := bindP (ps := P_L_shuffled) Fn_L_shuffled fun _ _ _ _ _ _ us hl => match us, hl with | [_, _], _ => rfl
  exact fn_D (k := 2) (m := m_L_many K) Fn sc_L_many mono_L_many len_L_many (fun cdv A outer s H E Z hr hgd =>
    (ds_cons (ds_parODP (i := 2) (j := 3) rfl sc_L_many.nd (d_lst da_nil) (fun _ => (d_call hr hgd (D_L_letters.le (by decide)) F.f_L_letters bk_L_letters pass_cx (ev_pos (da_lend 0 (da_cons d_int da_nil)))))) (ds_cons (ds_for owns_cx rfl (di_range1 F.b_range d_int) (g_name (i := 1) sc_L_many.nd) (ds_one (ds_expr (d_append 2 (d_call hr hgd (D_L_shuffled.le (by decide)) F.f_L_shuffled bk_L_shuffled pass_cx (ev_pos (da_lend 0 (da_cons (d_var 3) da_nil)))))))) (ds_one (ds_ret (d_cb v_tuple (fun t ha => by exact pe_callTy call_tuple_of rfl F.b_tuple rfl ha) (da_cons (d_sl (DOk.frz (d_sortSetW (d_var 2) rfl rfl F.b_sorted rfl F.b_set)) p_no (p_so (d_op opAddA v_add d_int (d_call hr hgd (D_L_dip.le (by decide)) F.f_L_dip bk_L_dip pass_cx (ev_pos (da_lend 0 (da_cons d_int da_nil))))))) da_nil))))))) (math_L_many K)
theorem der_L_pick (F : Facts K mg w) {fd : FuncData} (Fn : FnA K a_L_pick fd) (C_L_dip : ∃ fd, FnA K a_L_dip fd ∧ Fd T P w K mg base 1 (a_L_dip.adr K) P_L_dip fd (sp_L_dip K)) : Fd T P w K mg base 2 (a_L_pick.adr K) P_L_pick fd (sp_L_pick K) := by
  obtain ⟨fd_L_dip, Fn_L_dip, D_L_dip⟩ := C_L_dip
  have bk_L_dip := bindP (ps := P_L_dip) Fn_L_dip fun _ _ _ _ _ _ us hl => match us, hl with | [_, _], _ => rfl
  exact fn_D (k := 1) (m := m_L_pick K) Fn sc_L_pick mono_L_pick len_L_pick (fun cdv A outer s H E Z hr hgd =>
    (ds_cons (ds_set (i := 2) sc_L_pick.nd (d_call hr hgd (D_L_dip.le (by decide)) F.f_L_dip bk_L_dip pass_cx (ev_pos (da_lend 0 (da_cons (d_cb v_len (fun t ha => by exact pe_callB call_lenX rfl F.b_len rfl ha) (da_cons (d_var 1) da_nil)) da_nil))))) (ds_one (ds_ret (d_index (d_var 1) (d_var 2)))))) (math_L_pick K)
theorem der_L_odd (F : Facts K mg w) {fd : FuncData} (Fn : FnA K a_L_odd fd) (C_L_pick : ∃ fd, FnA K a_L_pick fd ∧ Fd T P w K mg base 2 (a_L_pick.adr K) P_L_pick fd (sp_L_pick K)) : Fd T P w K mg base 3 (a_L_odd.adr K) P_L_odd fd (sp_L_odd K) := by
  obtain ⟨fd_L_pick, Fn_L_pick, D_L_pick⟩ := C_L_pick
  have bk_L_pick := bindP (ps := P_L_pick) Fn_L_pick fun _ _ _ _ _ _ us hl => match us, hl with | [_, _], _ => rfl
  exact fn_D (k := 2) (m := m_L_odd K) Fn sc_L_odd mono_L_odd len_L_odd (fun cdv A outer s H E Z hr hgd =>
    (ds_cons (ds_set (i := 1) sc_L_odd.nd (DOk.frz (d_lst (da_cons d_non (da_cons d_bl (da_cons d_bl (da_cons d_int (da_cons d_int (da_cons (d_un un_neg v_neg d_int) (da_cons d_int (da_cons (d_op op_pow v_pow d_int d_int) (da_cons (d_str (l := [])) da_nil)))))))))))) (ds_cons (ds_set (i := 1) sc_L_odd.nd (d_op opAddA v_add (d_var 1) (DOk.frz (d_lst (da_cons (d_str (l := [97])) (da_cons (d_str (l := [97, 98])) (da_cons (d_str (l := [97, 98, 99])) (da_cons (d_str (l := [97, 99, 98])) (da_cons (d_tup da_nil) (da_cons (d_tup (da_cons (d_str (l := [97, 98, 99])) da_nil)) (da_cons (d_tup (da_cons d_int (da_cons d_int da_nil))) (da_cons (DOk.frz (d_lst (da_cons (d_str (l := [97, 98, 99])) da_nil))) (da_cons (DOk.frz (d_lst da_nil)) da_nil))))))))))))) (ds_one (ds_ret (d_call hr hgd (D_L_pick.le (by decide)) F.f_L_pick bk_L_pick pass_cx (ev_pos (da_lend 0 (da_cons (d_op opAddA v_add (d_var 1) (DOk.frz (d_lst (da_cons (DOk.frz d_dict0) (da_cons (DOk.frz (d_dictC [([97, 98, 99], 1)] (pps_cons pe_str pe_int pps_nil))) (da_cons (d_tup (da_cons d_non (da_cons d_int da_nil))) (da_cons (d_str (l := [97, 98, 99, 10, 99, 98, 97])) (da_cons (d_tup (da_cons (d_tup (da_cons (d_str (l := [97, 98, 99])) da_nil)) da_nil)) (da_cons (d_tup (da_cons (d_str (l := [97, 98, 99])) (da_cons (d_str (l := [97, 98, 99])) da_nil))) (da_cons (DOk.frz (d_lst (da_cons (DOk.frz (d_lst da_nil)) da_nil))) (da_cons (d_tup (da_cons (d_tup da_nil) da_nil)) (da_cons (d_str (l := [67, 65, 66])) da_nil)))))))))))) da_nil))))))))) (math_L_odd K)
theorem der_L_bent (F : Facts K mg w) {fd : FuncData} (Fn : FnA K a_L_bent fd) (C_L_dip : ∃ fd, FnA K a_L_dip fd ∧ Fd T P w K mg base 1 (a_L_dip.adr K) P_L_dip fd (sp_L_dip K)) (C_L_odd : ∃ fd, FnA K a_L_odd fd ∧ Fd T P w K mg base 3 (a_L_odd.adr K) P_L_odd fd (sp_L_odd K)) (C_L_pick : ∃ fd, FnA K a_L_pick fd ∧ Fd T P w K mg base 2 (a_L_pick.adr K) P_L_pick fd (sp_L_pick K)) : Fd T P w K mg base 4 (a_L_bent.adr K) P_L_bent fd (sp_L_bent K) := by
  obtain ⟨fd_L_dip, Fn_L_dip, D_L_dip⟩ := C_L_dip
  have bk_L_dip := bindP (ps := P_L_dip) Fn_L_dip fun _ _ _ _ _ _ us hl => match us, hl with | [_, _], _ => rfl
  obtain ⟨fd_L_odd, Fn_L_odd, D_L_odd⟩ := C_L_odd
  have bk_L_odd := bindP (ps := P_L_odd) Fn_L_odd fun _ _ _ _ _ _ us hl => match us, hl with | [_], _ => rfl
  obtain ⟨fd_L_pick, Fn_L_pick, D_L_pick⟩ := C_L_pick
  have bk_L_pick := bindP (ps := P_L_pick) Fn_L_pick fun _ _ _ _ _ _ us hl => match us, hl with | [_, _], _ => rfl
  exact fn_D (k := 3) (m := m_L_bent K) Fn sc_L_bent mono_L_bent len_L_bent (fun cdv A outer s H E Z hr hgd =>
    (ds_cons (ds_set (i := 2) sc_L_bent.nd (d_call hr hgd (D_L_dip.le (by decide)) F.f_L_dip bk_L_dip pass_cx (ev_pos (da_lend 0 (da_cons (d_cb v_len (fun t ha => by exact pe_callB call_lenX rfl F.b_len rfl ha) (da_cons (d_var 1) da_nil)) da_nil))))) (ds_cons (ds_set (i := 3) sc_L_bent.nd (d_cb v_strX (fun t ha => by exact pe_callTy (cr_strX hgd hr.units) rfl F.b_str rfl ha) (da_cons (d_index (d_var 1) (d_var 2)) da_nil))) (ds_cons (ds_set (i := 4) sc_L_bent.nd (d_call hr hgd (D_L_pick.le (by decide)) F.f_L_pick bk_L_pick pass_cx (ev_pos (da_lend 0 (da_cons (d_str (l := [97, 98, 113, 65, 49, 32])) da_nil))))) (ds_cons (ds_set (i := 5) sc_L_bent.nd (DOk.frz (d_lst (da_cons (d_back (d_var 3)) (da_cons (d_op opAddA v_add (d_var 3) (d_str (l := [113]))) (da_cons (d_sl (d_var 3) (p_so d_int) p_no) (da_cons (d_op opAddA v_add (d_sl (d_var 3) p_no (p_so d_int)) (d_var 3)) (da_cons (d_op opAddA v_add (d_var 4) (d_sl (d_var 3) (p_so d_int) p_no)) da_nil)))))))) (ds_cons (ds_set (i := 5) sc_L_bent.nd (d_op opAddA v_add (d_var 5) (DOk.frz (d_lst (da_cons d_non (da_cons (d_tup (da_cons (d_var 3) da_nil)) (da_cons d_int (da_cons (d_upper (d_var 3)) (da_cons (d_call hr hgd (D_L_odd.le (by decide)) F.f_L_odd bk_L_odd pass_cx (ev_pos (da_lend 0 da_nil))) da_nil))))))))) (ds_one (ds_ret (d_op opAddA v_add (d_op opAddA v_add (d_sl (d_var 1) p_no (p_so (d_var 2))) (d_tup (da_cons (d_call hr hgd (D_L_pick.le (by decide)) F.f_L_pick bk_L_pick pass_cx (ev_pos (da_lend 0 (da_cons (d_var 5) da_nil)))) da_nil))) (d_sl (d_var 1) (p_so (d_op opAddA v_add (d_var 2) d_int)) p_no)))))))))) (math_L_bent K)
theorem der_L_lot_slip (F : Facts K mg w) {fd : FuncData} (Fn : FnA K a_L_lot_slip fd) : Fd T P w K mg base 1 (a_L_lot_slip.adr K) P_L_lot_slip fd (sp_L_lot_slip K) := by
  exact fn_D (k := 0) (m := m_L_lot_slip K) Fn sc_L_lot_slip mono_L_lot_slip len_L_lot_slip (fun cdv A outer s H E Z hr hgd =>
    (ds_cons (ds_if (t_w (w_or (t_not (t_bl (d_isi (isB_ok .tup [] F.is_tuple) (pe_bltn (v := .ty "tuple") rfl F.b_tuple rfl rfl) (ClsV.ty _) (d_var 0) rfl F.b_isinstance))) (w_or1 (t_cmp (opEqU hr.units) v_eqU (d_var 0) (d_tup da_nil))))) (ds_one (ds_ret (DOk.frz (d_lst (da_cons (d_str (l := [111, 114, 100, 101, 114, 115])) (da_cons (d_str (l := [78, 111, 110, 101])) da_nil)))))) ds_nil) (ds_cons (ds_for owns_cx rfl (di_range1 F.b_range (d_cb v_len (fun t ha => by exact pe_callB call_lenX rfl F.b_len rfl ha) (da_cons (d_var 0) da_nil))) (g_name (i := 1) sc_L_lot_slip.nd) (ds_cons (ds_set (i := 2) sc_L_lot_slip.nd (d_index (d_var 0) (d_var 1))) (ds_cons (ds_if (t_w (w_or (t_cmp (opEqP hr.units) v_eq (d_var 1) d_int) (w_or (t_not (t_bl (d_isi (isB_ok .str [] F.is_str) (pe_bltn (v := .ty "str") rfl F.b_str rfl rfl) (ClsV.ty _) (d_var 2) rfl F.b_isinstance))) (w_or (t_not (t_chain opLe opLe v_cmp v_cmp d_int (d_cb v_len (fun t ha => by exact pe_callB call_lenX rfl F.b_len rfl ha) (da_cons (d_var 2) da_nil)) d_int)) (w_or1 (t_cmp (opNeP hr.units) v_ne (d_lenSetS (d_var 2) rfl rfl F.b_len rfl F.b_set) (d_cb v_len (fun t ha => by exact pe_callB call_lenX rfl F.b_len rfl ha) (da_cons (d_var 2) da_nil)))))))) (ds_one (ds_ret (DOk.frz (d_lst (da_cons (d_str (l := [111, 114, 100, 101, 114, 115])) (da_cons (d_cb v_reprX (fun t ha => by exact pe_callB (cr_reprX hgd hr.units) rfl F.b_repr rfl ha) (da_cons (d_var 1) da_nil)) da_nil)))))) ds_nil) (ds_cons (ds_if (t_w (w_or (t_cmp (opNeP hr.units) v_ne (DOk.frz (d_comp rfl sc_L_lot_slip.nd (by exact (di_any (d_var 2))) (blkOk_by (own := [("_law_glyph", 3)]) (by kernel_rfl)) (by decide) (fun s0 H0 C0 cl0 fp0 Z0 => (g_name (i := 3) sc_L_lot_slip.nd)) (fun s0 H0 C0 cl0 fp0 Z0 => (ti_one (t_not (t_chain opLe opLe v_cmp v_cmp (d_str (l := [97])) (d_var 3) (d_str (l := [122])))))) (fun s0 H0 C0 cl0 fp0 Z0 => (d_var 3)))) (DOk.frz (d_lst da_nil))) (w_or1 (t_cmp (opNeP hr.units) v_ne (DOk.frz (d_cbO v_sorted (fun t ha => by exact pe_callB (cr_sortX rfl) rfl F.b_sorted rfl ha) (da_cons (d_var 2) da_nil))) (DOk.frz (d_cbO v_sorted (fun t ha => by exact pe_callB (cr_sortX rfl) rfl F.b_sorted rfl ha) (da_cons (d_index (d_var 0) d_int) da_nil))))))) (ds_one (ds_ret (DOk.frz (d_lst (da_cons (d_str (l := [111, 114, 100, 101, 114, 115])) (da_cons (d_cb v_reprX (fun t ha => by exact pe_callB (cr_reprX hgd hr.units) rfl F.b_repr rfl ha) (da_cons (d_var 1) da_nil)) da_nil)))))) ds_nil) (ds_one (ds_if (t_w (w_and (t_cmp opGt v_cmp (d_var 1) d_int) (w_and1 (t_not (t_cmp opLt v_cmp (d_index (d_var 0) (d_op op_sub v_sub (d_var 1) d_int)) (d_var 2)))))) (ds_one (ds_ret (DOk.frz (d_lst (da_cons (d_str (l := [111, 114, 100, 101, 114, 115])) (da_cons (d_cb v_reprX (fun t ha => by exact pe_callB (cr_reprX hgd hr.units) rfl F.b_repr rfl ha) (da_cons (d_var 1) da_nil)) da_nil)))))) ds_nil)))))) (ds_one (ds_ret (DOk.frz (d_lst da_nil))))))) (math_L_lot_slip K)
theorem der_L_bases (F : Facts K mg w) {fd : FuncData} (Fn : FnA K a_L_bases fd) : FdX T P w K mg base 1 (a_L_bases.adr K) P_L_bases fd (sp_L_bases K) := by
  exact fn_DX (k := 0) (m := m_L_bases K) Fn sc_L_bases mono_L_bases len_L_bases (fun q cdv A outer s H E Z hr hgd =>
    (ds_cons (ds_setO (i := 1) sc_L_bases.nd (d_lst (da_cons (d_and (d_isE 0 pn_cxX F.xi_WrongValue (pe_glob (v := .ref _) rfl F.c_WrongValue rfl) (ClsV.own _) (hm := F.b_isinstance)) (d_one (d_isE 0 pn_cxX F.xi_ValueError (pe_bltn (v := .ty "ValueError") rfl F.b_ValueError rfl rfl) (ClsV.ty _) (hm := F.b_isinstance)))) da_nil))) (ds_cons (ds_expr (d_append 1 (d_and (d_isE 0 pn_cxX F.xi_WrongName (pe_glob (v := .ref _) rfl F.c_WrongName rfl) (ClsV.own _) (hm := F.b_isinstance)) (d_one (d_isE 0 pn_cxX F.xi_LookupError (pe_bltn (v := .ty "LookupError") rfl F.b_LookupError rfl rfl) (ClsV.ty _) (hm := F.b_isinstance)))))) (ds_one (ds_ret (d_op opAddA v_add (d_var 1) (DOk.frz (d_lst (da_cons (d_and (d_isE 0 pn_cxX F.xi_NotPossible (pe_glob (v := .ref _) rfl F.c_NotPossible rfl) (ClsV.own _) (hm := F.b_isinstance)) (d_one (d_isE 0 pn_cxX F.xi_ArithmeticError (pe_bltn (v := .ty "ArithmeticError") rfl F.b_ArithmeticError rfl rfl) (ClsV.ty _) (hm := F.b_isinstance)))) da_nil))))))))) (math_L_bases K)
theorem der_L_shown (F : Facts K mg w) {fd : FuncData} (Fn : FnA K a_L_shown fd) (C_L_bases : ∃ fd, FnA K a_L_bases fd ∧ FdX T P w K mg base 1 (a_L_bases.adr K) P_L_bases fd (sp_L_bases K)) : FdX T P w K mg base 2 (a_L_shown.adr K) P_L_shown fd (sp_L_shown K) := by
  obtain ⟨fd_L_bases, Fn_L_bases, D_L_bases⟩ := C_L_bases
  have bk_L_bases := bindP (ps := P_L_bases) Fn_L_bases fun _ _ _ _ _ _ us hl => match us, hl with | [_], _ => rfl
  exact fn_DX (k := 1) (m := m_L_shown K) Fn sc_L_shown mono_L_shown len_L_shown (fun q cdv A outer s H E Z hr hgd =>
    (ds_one (ds_ret (DOk.frz (d_lst (da_cons (d_if (t_w (w_and (t_bl (d_isE 0 pn_cxX F.xi_InvalidOrders (pe_glob (v := .ref _) rfl F.c_InvalidOrders rfl) (ClsV.own _) (hm := F.b_isinstance))) (w_and1 (t_cmp (opEqP hr.units) v_eq (d_callX 0 pn_cxX hr hgd (D_L_bases.le (by decide)) F.f_L_bases bk_L_bases pass_cxX da_nil) (DOk.frz (d_lst (da_cons d_bl (da_cons d_bl (da_cons d_bl da_nil))))))))) (d_str (l := [111, 114, 100, 101, 114, 115])) (d_str (l := [111, 100, 100]))) (da_cons (d_cb v_reprX (fun t ha => by exact pe_callB (cr_reprX hgd hr.units) rfl F.b_repr rfl ha) (da_cons (d_xf 0 pn_cxX F.xf_index) da_nil)) da_nil))))))) (math_L_shown K)
theorem der_L_caught (F : Facts K mg w) {fd : FuncData} (Fn : FnA K a_L_caught fd) (C_L_shown : ∃ fd, FnA K a_L_shown fd ∧ FdX T P w K mg base 2 (a_L_shown.adr K) P_L_shown fd (sp_L_shown K)) : FdL T P w K mg base 3 (a_L_caught.adr K) fd "_law_act" (sp_L_caught K) := by
  obtain ⟨fd_L_shown, Fn_L_shown, D_L_shown⟩ := C_L_shown
  have bk_L_shown := bindP (ps := P_L_shown) Fn_L_shown fun _ _ _ _ _ _ us hl => match us, hl with | [_], _ => rfl
  exact ⟨⟨_, _, _, _, _, N_L_caught, m_L_caught K, Fn, sc_L_caught, rfl, (by first | exact Or.inl rfl | exact Or.inr (Or.inl rfl)), by decide, by decide, fun cdv A outer s H E Z f sa hr hgd act =>
    (ds_cons (ds_try rfl rfl takes_cx (fun W' pn xe tk => (ds_one (ds_set (i := 2) sc_L_caught.nd (act W' pn xe _ _ tk)))) (.named 1 (tst_three ⟨rfl, by decide, .inl F.c_WrongValue⟩ ⟨rfl, by decide, .inl F.c_WrongName⟩ ⟨rfl, by decide, .inl F.c_NotPossible⟩) F.sy_WrongValue_WrongName_NotPossible sc_L_caught.nd (fun q pn => (ds_one (ds_ret (d_callX 1 List.mem_cons_self (roomM hr) hgd (D_L_shown.le (by decide)) F.f_L_shown bk_L_shown pass_f da_nil)))) .nil)) (ds_one (ds_ret (DOk.frz (d_lst (da_cons (d_str (l := [116, 111, 108, 100])) (da_cons (d_var 2) da_nil))))))), math_L_caught K⟩, bindP (ps := P_L_caught) Fn fun _ _ _ _ _ _ us hl => match us, hl with | [_], _ => rfl, Fn.kp⟩
theorem der_InvalidOrders_init (F : Facts K mg w) {fd : FuncData} (Fn : FnA K a_InvalidOrders_init fd) : IniF P w K mg base (a_InvalidOrders_init.adr K) "index" := by
  exact ini_ok rfl Fn sc_InvalidOrders_init (bindP (ps := P_InvalidOrders_init) Fn fun _ _ _ _ _ _ us hl => match us, hl with | [_, _], _ => rfl)
theorem der_are_letters (F : Facts K mg w) {fd : FuncData} (Fn : FnA K a_are_letters fd) : Fd T P w K mg base 1 (a_are_letters.adr K) P_are_letters fd (sp_are_letters K) := by
  exact fn_D (k := 0) (m := m_are_letters K) Fn sc_are_letters mono_are_letters len_are_letters (fun cdv A outer s H E Z hr hgd =>
    (ds_cons (ds_if (t_w (w_or (t_not (t_bl (d_isi (isB_ok .str [] F.is_str) (pe_bltn (v := .ty "str") rfl F.b_str rfl rfl) (ClsV.ty _) (d_var 0) rfl F.b_isinstance))) (w_or1 (t_not (t_chain opLe opLe v_cmp v_cmp (d_var 1) (d_cb v_len (fun t ha => by exact pe_callB call_lenX rfl F.b_len rfl ha) (da_cons (d_var 0) da_nil)) (d_var 2)))))) (ds_one (ds_ret d_bl)) ds_nil) (ds_one (ds_ret (d_cb v_all (fun t ha => by exact pe_callB (cr_all rfl) rfl F.b_all rfl ha) (da_cons (DOk.frz (d_comp rfl sc_are_letters.nd (by exact (di_range1 F.b_range (d_cb v_len (fun t ha => by exact pe_callB call_lenX rfl F.b_len rfl ha) (da_cons (d_var 0) da_nil)))) (blkOk_by (own := [("k", 3)]) (by kernel_rfl)) (by decide) (fun s0 H0 C0 cl0 fp0 Z0 => (g_name (i := 3) sc_are_letters.nd)) (fun s0 H0 C0 cl0 fp0 Z0 => ti_nil) (fun s0 H0 C0 cl0 fp0 Z0 => (d_and (d_cmp (opInA hr.units) v_in (d_index (d_var 0) (d_var 3)) (d_gS (l := [97, 98, 99, 100, 101, 102, 103, 104, 105, 106, 107, 108, 109, 110, 111, 112, 113, 114, 115, 116, 117, 118, 119, 120, 121, 122]) F.i_LETTERS)) (d_one (d_cmp (opNotInA hr.units) v_in (d_index (d_var 0) (d_var 3)) (d_sl (d_var 0) p_no (p_so (d_var 3))))))))) da_nil)))))) (math_are_letters K)
theorem der_is_order (F : Facts K mg w) {fd : FuncData} (Fn : FnA K a_is_order fd) (C_are_letters : ∃ fd, FnA K a_are_letters fd ∧ Fd T P w K mg base 1 (a_are_letters.adr K) P_are_letters fd (sp_are_letters K)) : Fd T P w K mg base 2 (a_is_order.adr K) P_is_order fd (sp_is_order K) := by
  obtain ⟨fd_are_letters, Fn_are_letters, D_are_letters⟩ := C_are_letters
  have bk_are_letters := bindP (ps := P_are_letters) Fn_are_letters fun _ _ _ _ _ _ us hl => match us, hl with | [_, _, _], _ => rfl
  exact fn_D (k := 1) (m := m_is_order K) Fn sc_is_order mono_is_order len_is_order (fun cdv A outer s H E Z hr hgd =>
    (ds_one (ds_ret (d_call hr hgd (D_are_letters.le (by decide)) F.f_are_letters bk_are_letters pass_cx (ev_pos (da_cons (d_var 0) (da_cons (d_gI F.i_LEAST_THINGS) (da_cons (d_gI F.i_MOST_THINGS) da_nil)))))))) (math_is_order K)
theorem der_is_order_of (F : Facts K mg w) {fd : FuncData} (Fn : FnA K a_is_order_of fd) (C_is_order : ∃ fd, FnA K a_is_order fd ∧ Fd T P w K mg base 2 (a_is_order.adr K) P_is_order fd (sp_is_order K)) : Fd T P w K mg base 3 (a_is_order_of.adr K) P_is_order_of fd (sp_is_order_of K) := by
  obtain ⟨fd_is_order, Fn_is_order, D_is_order⟩ := C_is_order
  have bk_is_order := bindP (ps := P_is_order) Fn_is_order fun _ _ _ _ _ _ us hl => match us, hl with | [_], _ => rfl
  exact fn_D (k := 2) (m := m_is_order_of K) Fn sc_is_order_of mono_is_order_of len_is_order_of (fun cdv A outer s H E Z hr hgd =>
    (ds_one (ds_ret (d_and (d_call hr hgd (D_is_order.le (by decide)) F.f_is_order bk_is_order pass_cx (ev_pos (da_cons (d_var 1) da_nil))) (d_one (d_cmp (opEqP hr.units) v_eq (DOk.frz (d_cbO v_sorted (fun t ha => by exact pe_callB (cr_sortX rfl) rfl F.b_sorted rfl ha) (da_cons (d_var 1) da_nil))) (DOk.frz (d_cbO v_sorted (fun t ha => by exact pe_callB (cr_sortX rfl) rfl F.b_sorted rfl ha) (da_cons (d_var 0) da_nil))))))))) (math_is_order_of K)
theorem der_check_orders (F : Facts K mg w) {fd : FuncData} (Fn : FnA K a_check_orders fd) (C_InvalidOrders_init : ∃ fd, FnA K a_InvalidOrders_init fd ∧ IniF P w K mg base (a_InvalidOrders_init.adr K) "index") (C_is_order : ∃ fd, FnA K a_is_order fd ∧ Fd T P w K mg base 2 (a_is_order.adr K) P_is_order fd (sp_is_order K)) (C_is_order_of : ∃ fd, FnA K a_is_order_of fd ∧ Fd T P w K mg base 3 (a_is_order_of.adr K) P_is_order_of fd (sp_is_order_of K)) : Fd T P w K mg base 4 (a_check_orders.adr K) P_check_orders fd (sp_check_orders K) := by
  obtain ⟨fd_InvalidOrders_init, Fn_InvalidOrders_init, D_InvalidOrders_init⟩ := C_InvalidOrders_init
  obtain ⟨fd_is_order, Fn_is_order, D_is_order⟩ := C_is_order
  have bk_is_order := bindP (ps := P_is_order) Fn_is_order fun _ _ _ _ _ _ us hl => match us, hl with | [_], _ => rfl
  obtain ⟨fd_is_order_of, Fn_is_order_of, D_is_order_of⟩ := C_is_order_of
  have bk_is_order_of := bindP (ps := P_is_order_of) Fn_is_order_of fun _ _ _ _ _ _ us hl => match us, hl with | [_, _], _ => rfl
  exact fn_D (k := 3) (m := m_check_orders K) Fn sc_check_orders mono_check_orders len_check_orders (fun cdv A outer s H E Z hr hgd =>
    (ds_cons (ds_if (t_w (w_or (t_not (t_bl (d_isi (isB_ok .tup [] F.is_tuple) (pe_bltn (v := .ty "tuple") rfl F.b_tuple rfl rfl) (ClsV.ty _) (d_var 0) rfl F.b_isinstance))) (w_or1 (t_cmp (opEqU hr.units) v_eqU (d_var 0) (d_tup da_nil))))) (ds_one (ds_raise rfl takes_cx F.xm_InvalidOrders D_InvalidOrders_init (hr.mono (by decide)) hgd F.c_InvalidOrders d_non)) ds_nil) (ds_one (ds_for owns_cx rfl (di_range1 F.b_range (d_cb v_len (fun t ha => by exact pe_callB call_lenX rfl F.b_len rfl ha) (da_cons (d_var 0) da_nil))) (g_name (i := 1) sc_check_orders.nd) (ds_cons (ds_if (t_w (w_or (t_cmp (opEqP hr.units) v_eq (d_var 1) (d_gI F.i_MOST_ORDERS)) (w_or1 (t_not (t_bl (d_call hr hgd (D_is_order.le (by decide)) F.f_is_order bk_is_order pass_cx (ev_pos (da_cons (d_index (d_var 0) (d_var 1)) da_nil)))))))) (ds_one (ds_raise rfl takes_cx F.xm_InvalidOrders D_InvalidOrders_init (hr.mono (by decide)) hgd F.c_InvalidOrders (d_var 1))) ds_nil) (ds_one (ds_if (t_w (w_or (t_not (t_bl (d_call hr hgd (D_is_order_of.le (by decide)) F.f_is_order_of bk_is_order_of pass_cx (ev_pos (da_cons (d_index (d_var 0) d_int) (da_cons (d_index (d_var 0) (d_var 1)) da_nil)))))) (w_or1 (t_w (w_and (t_cmp opGt v_cmp (d_var 1) d_int) (w_and1 (t_not (t_cmp opLt v_cmp (d_index (d_var 0) (d_op op_sub v_sub (d_var 1) d_int)) (d_index (d_var 0) (d_var 1)))))))))) (ds_one (ds_raise rfl takes_cx F.xm_InvalidOrders D_InvalidOrders_init (hr.mono (by decide)) hgd F.c_InvalidOrders (d_var 1))) ds_nil))))))) (math_check_orders K)
theorem der_Roll_init (F : Facts K mg w) {fd : FuncData} (Fn : FnA K a_Roll_init fd) (C_check_orders : ∃ fd, FnA K a_check_orders fd ∧ Fd T P w K mg base 4 (a_check_orders.adr K) P_check_orders fd (sp_check_orders K)) : Fd T P w K mg base 5 (a_Roll_init.adr K) P_Roll_init fd (sp_Roll_init K) := by
  obtain ⟨fd_check_orders, Fn_check_orders, D_check_orders⟩ := C_check_orders
  have bk_check_orders := bindP (ps := P_check_orders) Fn_check_orders fun _ _ _ _ _ _ us hl => match us, hl with | [_], _ => rfl
  exact fn_D (k := 4) (m := m_Roll_init K) Fn sc_Roll_init mono_Roll_init len_Roll_init (fun cdv A outer s H E Z hr hgd =>
    (ds_cons (ds_expr (d_call hr hgd (D_check_orders.le (by decide)) F.f_check_orders bk_check_orders pass_cx (ev_pos (da_cons (d_var 1) da_nil)))) (ds_one (ds_fld 0 (Cs := [He.ga K "Roll"]) F.n_lot (d_var 1))))) (math_Roll_init K)
theorem der_Roll_orders (F : Facts K mg w) {fd : FuncData} (Fn : FnA K a_Roll_orders fd) : Fd T P w K mg base 1 (a_Roll_orders.adr K) P_Roll_orders fd (sp_Roll_orders K) := by
  exact fn_D (k := 0) (m := m_Roll_orders K) Fn sc_Roll_orders mono_Roll_orders len_Roll_orders (fun cdv A outer s H E Z hr hgd =>
    (ds_one (ds_ret (d_fld (Cs := [He.ga K "Roll"]) F.n_lot (d_var 0))))) (math_Roll_orders K)
theorem der_L_right (F : Facts K mg w) {fd : FuncData} (Fn : FnA K a_L_right fd) (C_Roll_init : ∃ fd, FnA K a_Roll_init fd ∧ Fd T P w K mg base 5 (a_Roll_init.adr K) P_Roll_init fd (sp_Roll_init K)) (C_Roll_orders : ∃ fd, FnA K a_Roll_orders fd ∧ Fd T P w K mg base 1 (a_Roll_orders.adr K) P_Roll_orders fd (sp_Roll_orders K)) (C_L_bent : ∃ fd, FnA K a_L_bent fd ∧ Fd T P w K mg base 4 (a_L_bent.adr K) P_L_bent fd (sp_L_bent K)) (C_L_caught : ∃ fd, FnA K a_L_caught fd ∧ FdL T P w K mg base 3 (a_L_caught.adr K) fd "_law_act" (sp_L_caught K)) (C_L_lot_slip : ∃ fd, FnA K a_L_lot_slip fd ∧ Fd T P w K mg base 1 (a_L_lot_slip.adr K) P_L_lot_slip fd (sp_L_lot_slip K)) (C_L_many : ∃ fd, FnA K a_L_many fd ∧ Fd T P w K mg base 3 (a_L_many.adr K) P_L_many fd (sp_L_many K)) (C_L_odd : ∃ fd, FnA K a_L_odd fd ∧ Fd T P w K mg base 3 (a_L_odd.adr K) P_L_odd fd (sp_L_odd K)) (C_L_pick : ∃ fd, FnA K a_L_pick fd ∧ Fd T P w K mg base 2 (a_L_pick.adr K) P_L_pick fd (sp_L_pick K)) (C_L_roster : ∃ fd, FnA K a_L_roster fd ∧ Fd T P w K mg base 4 (a_L_roster.adr K) P_L_roster fd (sp_L_roster K)) (LT : LamT T K base mg a_L_right) : Fd T P w K mg base 10 (a_L_right.adr K) P_L_right fd (sp_L_right K) := by
  obtain ⟨fd_Roll_init, Fn_Roll_init, D_Roll_init⟩ := C_Roll_init
  have bm_Roll_init := bindM (ps := P_Roll_init) Fn_Roll_init fun _ _ _ _ _ _ us hl => match us, hl with | [_, _], _ => rfl
  obtain ⟨fd_Roll_orders, Fn_Roll_orders, D_Roll_orders⟩ := C_Roll_orders
  have bk_Roll_orders := bindP (ps := P_Roll_orders) Fn_Roll_orders fun _ _ _ _ _ _ us hl => match us, hl with | [_], _ => rfl
  obtain ⟨fd_L_bent, Fn_L_bent, D_L_bent⟩ := C_L_bent
  have bk_L_bent := bindP (ps := P_L_bent) Fn_L_bent fun _ _ _ _ _ _ us hl => match us, hl with | [_, _], _ => rfl
  obtain ⟨fd_L_caught, Fn_L_caught, D_L_caught⟩ := C_L_caught
  have bk_L_caught := bindP (ps := P_L_caught) Fn_L_caught fun _ _ _ _ _ _ us hl => match us, hl with | [_], _ => rfl
  obtain ⟨fd_L_lot_slip, Fn_L_lot_slip, D_L_lot_slip⟩ := C_L_lot_slip
  have bk_L_lot_slip := bindP (ps := P_L_lot_slip) Fn_L_lot_slip fun _ _ _ _ _ _ us hl => match us, hl with | [_], _ => rfl
  obtain ⟨fd_L_many, Fn_L_many, D_L_many⟩ := C_L_many
  have bk_L_many := bindP (ps := P_L_many) Fn_L_many fun _ _ _ _ _ _ us hl => match us, hl with | [_], _ => rfl
  obtain ⟨fd_L_odd, Fn_L_odd, D_L_odd⟩ := C_L_odd
  have bk_L_odd := bindP (ps := P_L_odd) Fn_L_odd fun _ _ _ _ _ _ us hl => match us, hl with | [_], _ => rfl
  obtain ⟨fd_L_pick, Fn_L_pick, D_L_pick⟩ := C_L_pick
  have bk_L_pick := bindP (ps := P_L_pick) Fn_L_pick fun _ _ _ _ _ _ us hl => match us, hl with | [_, _], _ => rfl
  obtain ⟨fd_L_roster, Fn_L_roster, D_L_roster⟩ := C_L_roster
  have bk_L_roster := bindP (ps := P_L_roster) Fn_L_roster fun _ _ _ _ _ _ us hl => match us, hl with | [_, _, _], _ => rfl
  have bwm_Roll_init_0 : BindK K fd_Roll_init P_Roll_init (fun us => match us with | [] => ⟨[], []⟩ | v :: us => ⟨v :: (((fun us => match us with | [x0] => ⟨[], [("orders", x0)]⟩ | _ => ⟨[], []⟩) : List Value → Args) us).pos, (((fun us => match us with | [x0] => ⟨[], [("orders", x0)]⟩ | _ => ⟨[], []⟩) : List Value → Args) us).kw⟩) := bindU Fn_Roll_init fun _ _ _ _ _ _ us hl => match us, hl with | [_, _], _ => rfl
  exact fn_DL (k := 9) (m := m_L_right K) (code_of Fn) Fn sc_L_right mono_L_right len_L_right (fun A outer s H E Z hr hgd =>
    (ds_cons (ds_for owns_cx rfl (di_range1 F.b_range d_int) (g_name (i := 1) sc_L_right.nd) (ds_cons (ds_set (i := 2) sc_L_right.nd (d_if (t_cmp opLt v_cmp (d_var 1) d_int) (d_call hr hgd (D_L_roster.le (by decide)) F.f_L_roster bk_L_roster pass_cx (ev_pos (da_lend 0 (da_cons d_int (da_cons d_int da_nil))))) (d_call hr hgd (D_L_many.le (by decide)) F.f_L_many bk_L_many pass_cx (ev_pos (da_lend 0 da_nil))))) (ds_cons (ds_for owns_cx rfl (di_range1 F.b_range (d_call hr hgd (D_L_pick.le (by decide)) F.f_L_pick bk_L_pick pass_cx (ev_pos (da_lend 0 (da_cons (DOk.frz (d_lst (da_cons d_int (da_cons d_int (da_cons d_int (da_cons d_int (da_cons d_int da_nil))))))) da_nil))))) (g_name (i := 3) sc_L_right.nd) (ds_one (ds_set (i := 2) sc_L_right.nd (d_call hr hgd (D_L_bent.le (by decide)) F.f_L_bent bk_L_bent pass_cx (ev_pos (da_lend 0 (da_cons (d_var 2) da_nil))))))) (ds_cons (ds_set (i := 2) sc_L_right.nd (d_call hr hgd (D_L_pick.le (by decide)) F.f_L_pick bk_L_pick pass_cx (ev_pos (da_lend 0 (da_cons (d_op opAddA v_add (d_op opMulA v_mul (DOk.frz (d_lst (da_cons (d_var 2) da_nil))) d_int) (DOk.frz (d_lst (da_cons (d_backI (d_var 2)) (da_cons (DOk.frz (d_cbO v_list (fun t ha => by exact pe_callTy (cr_listX rfl) rfl F.b_list rfl ha) (da_cons (d_var 2) da_nil))) (da_cons (d_tup da_nil) (da_cons (d_call hr hgd (D_L_odd.le (by decide)) F.f_L_odd bk_L_odd pass_cx (ev_pos (da_lend 0 da_nil))) da_nil))))))) da_nil))))) (ds_cons (ds_par (i := 4) (j := 5) rfl sc_L_right.nd (d_call hr hgd (D_L_lot_slip.le (by decide)) F.f_L_lot_slip bk_L_lot_slip pass_cx (ev_pos (da_cons (d_var 2) da_nil))) (d_lam (k := 7) hr hgd (D_L_caught.le (by decide)) F.f_L_caught (LamX.lamS_by (by kernel_rfl)) LT.mem LT.uniq LT.tb rfl rfl (fun _ _ _ _ _ => rfl) pass_cx (fun A outer s H E fl cdl F1 H1 hr hgd => (DOk.frz (d_make (k := 6) hr hgd F.mk_Roll (D_Roll_init.le (by decide)) F.c_Roll bwm_Roll_init_0 pass_lam (ev_kw0 (ks := ["orders"]) [0] (fun us => match us with | [x0] => ⟨[], [("orders", x0)]⟩ | _ => ⟨[], []⟩) (fun ws hl => match ws, hl with | [_], _ => rfl) (dk_cons (d_var 2) dk_nil))))))) (ds_one (ds_if (t_w (w_or (t_w (w_and (t_cmp (opNeP hr.units) v_ne (d_var 4) (DOk.frz (d_lst da_nil))) (w_and1 (t_cmp (opNeP hr.units) v_ne (d_var 5) (d_var 4))))) (w_or1 (t_w (w_and (t_cmp (opEqP hr.units) v_eq (d_var 4) (DOk.frz (d_lst da_nil))) (w_and1 (t_w (w_or (t_cmp (opNeP hr.units) v_ne (d_index (d_var 5) d_int) (d_str (l := [116, 111, 108, 100]))) (w_or1 (t_cmp (opNeP hr.units) v_ne (d_prop (k := 8) hr hgd (d_index (d_var 5) d_int) F.cls_Roll F.p_Roll_orders (D_Roll_orders.le (by decide)) bk_Roll_orders) (d_var 2))))))))))) (ds_one (ds_ret d_bl)) ds_nil))))))) (ds_one (ds_ret d_bl)))) (math_L_right K)
theorem der_L_jar (F : Facts K mg w) {fd : FuncData} (Fn : FnA K a_L_jar fd) : Fd T P w K mg base 1 (a_L_jar.adr K) P_L_jar fd (sp_L_jar K) := by
  exact fn_D (k := 0) (m := m_L_jar K) Fn sc_L_jar mono_L_jar len_L_jar (fun cdv A outer s H E Z hr hgd =>
    (ds_cons (ds_set (i := 2) sc_L_jar.nd (d_op opAddA v_add (d_op opMulA v_mul (d_op opMulA v_mul d_int (d_op opAddA v_add (d_var 1) d_int)) (d_op opAddA v_add (d_var 1) d_int)) (d_op opMulA v_mul d_int (d_cb v_len (fun t ha => by exact pe_callB call_lenX rfl F.b_len rfl ha) (da_cons (d_var 0) da_nil))))) (ds_cons (ds_for owns_cx rfl (di_any (d_sl (d_var 0) p_no (p_so d_int))) (g_name (i := 3) sc_L_jar.nd) (ds_one (ds_set (i := 2) sc_L_jar.nd (d_op op_mod v_mod (d_cb v_int (fun t ha => by exact pe_callTy call_int1 rfl F.b_int rfl ha) (da_cons (d_op opAddA v_add (d_op opMulA v_mul (d_var 2) d_int) (d_var 3)) da_nil)) d_int)))) (ds_cons (ds_set (i := 4) sc_L_jar.nd (d_if (t_cmp opLt v_cmp (d_var 1) (d_cb v_len (fun t ha => by exact pe_callB call_lenX rfl F.b_len rfl ha) (da_cons (d_var 0) da_nil))) (d_index (d_var 0) (d_var 1)) d_int)) (ds_cons (ds_set (i := 5) sc_L_jar.nd (d_if (t_w (w_or (t_cmp opLt v_cmp (d_var 4) d_int) (w_or1 (t_cmp opGe v_cmp (d_var 4) (d_op op_pow v_pow d_int d_int))))) (d_cb v_abs (fun t ha => by exact pe_callB call_abs rfl F.b_abs rfl ha) (da_cons (d_var 4) da_nil)) d_int)) (ds_one (ds_retO (d_lst (da_cons (d_var 5) (da_cons (d_op op_mod v_mod (d_cb v_int (fun t ha => by exact pe_callTy call_int1 rfl F.b_int rfl ha) (da_cons (d_op opAddA v_add (d_op opAddA v_add (d_op opMulA v_mul (d_var 2) d_int) (d_op opMulA v_mul (d_var 4) d_int)) (d_op opMulA v_mul d_int (d_op opAddA v_add (d_var 1) d_int))) da_nil)) d_int) (da_cons d_int da_nil))))))))))) (math_L_jar K)
theorem der_law (F : Facts K mg w) {fd : FuncData} (Fn : FnA K a_law fd) (C_L_jar : ∃ fd, FnA K a_L_jar fd ∧ Fd T P w K mg base 1 (a_L_jar.adr K) P_L_jar fd (sp_L_jar K)) (C_L_right : ∃ fd, FnA K a_L_right fd ∧ Fd T P w K mg base 10 (a_L_right.adr K) P_L_right fd (sp_L_right K)) : Fd T P w K mg base 11 (a_law.adr K) P_law fd (sp_law K) := by
  obtain ⟨fd_L_jar, Fn_L_jar, D_L_jar⟩ := C_L_jar
  have bk_L_jar := bindP (ps := P_L_jar) Fn_L_jar fun _ _ _ _ _ _ us hl => match us, hl with | [_, _], _ => rfl
  obtain ⟨fd_L_right, Fn_L_right, D_L_right⟩ := C_L_right
  have bk_L_right := bindP (ps := P_L_right) Fn_L_right fun _ _ _ _ _ _ us hl => match us, hl with | [_], _ => rfl
  exact fn_D (k := 10) (m := m_law K) Fn sc_law mono_law len_law (fun cdv A outer s H E Z hr hgd =>
    (ds_cons (ds_for owns_cx rfl (di_range1 F.b_range (d_cb v_ints (fun t ha => by exact pe_callB (call_max2 rfl) rfl F.b_max rfl ha) (da_cons d_int (da_cons (d_cb v_ints (fun t ha => by exact pe_callB (call_min2 rfl) rfl F.b_min rfl ha) (da_cons (d_cb v_len (fun t ha => by exact pe_callB call_lenX rfl F.b_len rfl ha) (da_cons (d_var 0) da_nil)) (da_cons d_int da_nil))) da_nil)))) (g_name (i := 1) sc_law.nd) (ds_one (ds_if (t_not (t_bl (d_callT hr hgd (D_L_right.le (by decide)) F.f_L_right bk_L_right pass_cx (d_callO hr hgd (D_L_jar.le (by decide)) F.f_L_jar (bk_L_jar) pass_cx (ev_pos (da_cons (d_var 0) (da_cons (d_var 1) da_nil))))))) (ds_one (ds_ret d_bl)) ds_nil))) (ds_one (ds_ret d_bl)))) (math_law K)
end
theorem facts_of {K : PySem.W.Frag} {w : World} {h : Heap} {mg : Str → Option Value} (X : K.In h) (G : h.Ns mainGlobals mg) (c : exK K = true) (T : ∀ x : Str, x ∈ tabs.map Prod.fst → ∃ es n, KDict K w (He.ga K x) es n) : Facts K mg w := by
  unfold exK at c
  simp only [Bool.and_eq_true] at c
  obtain ⟨c0, c1, c2, c3, c4, c5, c6, c7, c8, c9, c10, c11, c12, c13, c14, c15, c16, c17, c18, c19, c20, c21, c22, c23, c24, c25, c26, c27, c28, c29, c30, c31, c32, c33, c34, c35, c36, c37, c38, c39, c40, c41, c42, c43, c44, c45, c46, c47, c48, c49, c50, c51, c52, c53, c54, c55, c56, c57, c58, c59, c60, c61, c62, c63, c64⟩ := c
  exact ⟨He.free_ok X G c0, He.free_ok X G c1, He.free_ok X G c2, He.free_ok X G c3, He.free_ok X G c4, He.free_ok X G c5, He.free_ok X G c6, He.free_ok X G c7, He.free_ok X G c8, He.free_ok X G c9, He.free_ok X G c10, He.free_ok X G c11, He.free_ok X G c12, He.free_ok X G c13, He.free_ok X G c14, He.free_ok X G c15, He.free_ok X G c16, He.glo_ok X G c17, He.glo_ok X G c18, He.glo_ok X G c19, He.glo_ok X G c20, He.glo_ok X G c21, He.glo_ok X G c22, He.glo_ok X G c23, He.glo_ok X G c24, He.glo_ok X G c25, He.glo_ok X G c26, He.glo_ok X G c27, He.glo_ok X G c28, He.glo_ok X G c29, He.glo_ok X G c30, He.glo_ok X G c31, He.glo_ok X G c32, He.glo_ok X G c33, He.glo_ok X G c34, He.glo_ok X G c35, He.glo_ok X G c36, He.glo_ok X G c37, He.int_ok X G c38, He.str_ok X G c39, He.int_ok X G c40, He.int_ok X G c41, He.glo_ok X G c42, He.glo_ok X G c43, He.glo_ok X G c44, He.cls_ok c45, He.mkr_ok c46, He.glo_ok X G c47, He.glo_ok X G c48, xcmB_ok c49, xiB_ok c50, xiB_ok c51, xiB_ok c52, xiB_ok c53, xiB_ok c54, xiB_ok c55, xiB_ok c56, xfsB_ok c57, syB_ok c58, propB_ok c59, plainF_ok c60, isiB_ok c61, isiB_ok c62, isoO_ok c63, isoB_ok c64⟩
theorem told {P : Program} {w : World} {K : PySem.W.Frag} {h : Heap} {mg : Str → Option Value} {f : Addr} (X : K.In h) (G : h.Ns mainGlobals mg) (hf : mg ("law" : Str) = some (.ref f)) (c : SaysT fns exK tabs lams w K h) :
    ∃ fd : FuncData, (∀ (s : Shared) (v : Value), BindsTo s fd ⟨[v], []⟩ [("_law_script", v)]) ∧ ∀ base : Heap, K.In base → base.Ns mainGlobals mg → (∀ p ∈ csOf K lams, LamX.TabB base mg p.1 p.2) → Fd (tbOf K lams) P w K mg base 11 f ["_law_script"] fd (sp_law K) := by
  have F : Facts K mg w := facts_of X G c.b.a.more fun x hx => by
    obtain ⟨t, ht, rfl⟩ := List.mem_map.mp hx
    exact c.b.tabs t ht
  obtain ⟨fd_L_dip, Fn_L_dip⟩ := c.b.a.defs a_L_dip (by unfold fns; repeat (first | exact List.mem_cons_self | apply List.mem_cons_of_mem))
  obtain ⟨fd_L_shuffled, Fn_L_shuffled⟩ := c.b.a.defs a_L_shuffled (by unfold fns; repeat (first | exact List.mem_cons_self | apply List.mem_cons_of_mem))
  obtain ⟨fd_L_hill, Fn_L_hill⟩ := c.b.a.defs a_L_hill (by unfold fns; repeat (first | exact List.mem_cons_self | apply List.mem_cons_of_mem))
  obtain ⟨fd_L_lot_of, Fn_L_lot_of⟩ := c.b.a.defs a_L_lot_of (by unfold fns; repeat (first | exact List.mem_cons_self | apply List.mem_cons_of_mem))
  obtain ⟨fd_L_letters, Fn_L_letters⟩ := c.b.a.defs a_L_letters (by unfold fns; repeat (first | exact List.mem_cons_self | apply List.mem_cons_of_mem))
  obtain ⟨fd_L_roster, Fn_L_roster⟩ := c.b.a.defs a_L_roster (by unfold fns; repeat (first | exact List.mem_cons_self | apply List.mem_cons_of_mem))
  obtain ⟨fd_L_many, Fn_L_many⟩ := c.b.a.defs a_L_many (by unfold fns; repeat (first | exact List.mem_cons_self | apply List.mem_cons_of_mem))
  obtain ⟨fd_L_pick, Fn_L_pick⟩ := c.b.a.defs a_L_pick (by unfold fns; repeat (first | exact List.mem_cons_self | apply List.mem_cons_of_mem))
  obtain ⟨fd_L_odd, Fn_L_odd⟩ := c.b.a.defs a_L_odd (by unfold fns; repeat (first | exact List.mem_cons_self | apply List.mem_cons_of_mem))
  obtain ⟨fd_L_bent, Fn_L_bent⟩ := c.b.a.defs a_L_bent (by unfold fns; repeat (first | exact List.mem_cons_self | apply List.mem_cons_of_mem))
  obtain ⟨fd_L_lot_slip, Fn_L_lot_slip⟩ := c.b.a.defs a_L_lot_slip (by unfold fns; repeat (first | exact List.mem_cons_self | apply List.mem_cons_of_mem))
  obtain ⟨fd_L_bases, Fn_L_bases⟩ := c.b.a.defs a_L_bases (by unfold fns; repeat (first | exact List.mem_cons_self | apply List.mem_cons_of_mem))
  obtain ⟨fd_L_shown, Fn_L_shown⟩ := c.b.a.defs a_L_shown (by unfold fns; repeat (first | exact List.mem_cons_self | apply List.mem_cons_of_mem))
  obtain ⟨fd_L_caught, Fn_L_caught⟩ := c.b.a.defs a_L_caught (by unfold fns; repeat (first | exact List.mem_cons_self | apply List.mem_cons_of_mem))
  obtain ⟨fd_InvalidOrders_init, Fn_InvalidOrders_init⟩ := c.b.a.defs a_InvalidOrders_init (by unfold fns; repeat (first | exact List.mem_cons_self | apply List.mem_cons_of_mem))
  obtain ⟨fd_are_letters, Fn_are_letters⟩ := c.b.a.defs a_are_letters (by unfold fns; repeat (first | exact List.mem_cons_self | apply List.mem_cons_of_mem))
  obtain ⟨fd_is_order, Fn_is_order⟩ := c.b.a.defs a_is_order (by unfold fns; repeat (first | exact List.mem_cons_self | apply List.mem_cons_of_mem))
  obtain ⟨fd_is_order_of, Fn_is_order_of⟩ := c.b.a.defs a_is_order_of (by unfold fns; repeat (first | exact List.mem_cons_self | apply List.mem_cons_of_mem))
  obtain ⟨fd_check_orders, Fn_check_orders⟩ := c.b.a.defs a_check_orders (by unfold fns; repeat (first | exact List.mem_cons_self | apply List.mem_cons_of_mem))
  obtain ⟨fd_Roll_init, Fn_Roll_init⟩ := c.b.a.defs a_Roll_init (by unfold fns; repeat (first | exact List.mem_cons_self | apply List.mem_cons_of_mem))
  obtain ⟨fd_Roll_orders, Fn_Roll_orders⟩ := c.b.a.defs a_Roll_orders (by unfold fns; repeat (first | exact List.mem_cons_self | apply List.mem_cons_of_mem))
  obtain ⟨fd_L_right, Fn_L_right⟩ := c.b.a.defs a_L_right (by unfold fns; repeat (first | exact List.mem_cons_self | apply List.mem_cons_of_mem))
  obtain ⟨fd_L_jar, Fn_L_jar⟩ := c.b.a.defs a_L_jar (by unfold fns; repeat (first | exact List.mem_cons_self | apply List.mem_cons_of_mem))
  obtain ⟨fd_law, Fn_law⟩ := c.b.a.defs a_law (by unfold fns; repeat (first | exact List.mem_cons_self | apply List.mem_cons_of_mem))
  have e : f = He.ga K "law" := by
    have := hf.symm.trans F.f_law
    injection this with this
    injection this
  subst e
  refine ⟨fd_law, fun s v => FunD.bindsA (ps := ["_law_script"]) Fn_law (fun _ _ _ _ _ _ us hl => match us, hl with | [_], _ => rfl) s [v] rfl, fun base _ _ tb => ?_⟩
  have D_L_dip : Fd (tbOf K lams) P w K mg base 1 (a_L_dip.adr K) P_L_dip fd_L_dip (sp_L_dip K) := der_L_dip F Fn_L_dip
  have D_L_shuffled : Fd (tbOf K lams) P w K mg base 2 (a_L_shuffled.adr K) P_L_shuffled fd_L_shuffled (sp_L_shuffled K) := der_L_shuffled F Fn_L_shuffled ⟨fd_L_dip, Fn_L_dip, D_L_dip⟩
  have D_L_hill : Fd (tbOf K lams) P w K mg base 2 (a_L_hill.adr K) P_L_hill fd_L_hill (sp_L_hill K) := der_L_hill F Fn_L_hill ⟨fd_L_dip, Fn_L_dip, D_L_dip⟩
  have D_L_lot_of : Fd (tbOf K lams) P w K mg base 3 (a_L_lot_of.adr K) P_L_lot_of fd_L_lot_of (sp_L_lot_of K) := der_L_lot_of F Fn_L_lot_of ⟨fd_L_dip, Fn_L_dip, D_L_dip⟩ ⟨fd_L_hill, Fn_L_hill, D_L_hill⟩ ⟨fd_L_shuffled, Fn_L_shuffled, D_L_shuffled⟩
  have D_L_letters : Fd (tbOf K lams) P w K mg base 2 (a_L_letters.adr K) P_L_letters fd_L_letters (sp_L_letters K) := der_L_letters F Fn_L_letters ⟨fd_L_dip, Fn_L_dip, D_L_dip⟩
  have D_L_roster : Fd (tbOf K lams) P w K mg base 4 (a_L_roster.adr K) P_L_roster fd_L_roster (sp_L_roster K) := der_L_roster F Fn_L_roster ⟨fd_L_dip, Fn_L_dip, D_L_dip⟩ ⟨fd_L_letters, Fn_L_letters, D_L_letters⟩ ⟨fd_L_lot_of, Fn_L_lot_of, D_L_lot_of⟩
  have D_L_many : Fd (tbOf K lams) P w K mg base 3 (a_L_many.adr K) P_L_many fd_L_many (sp_L_many K) := der_L_many F Fn_L_many ⟨fd_L_dip, Fn_L_dip, D_L_dip⟩ ⟨fd_L_letters, Fn_L_letters, D_L_letters⟩ ⟨fd_L_shuffled, Fn_L_shuffled, D_L_shuffled⟩
  have D_L_pick : Fd (tbOf K lams) P w K mg base 2 (a_L_pick.adr K) P_L_pick fd_L_pick (sp_L_pick K) := der_L_pick F Fn_L_pick ⟨fd_L_dip, Fn_L_dip, D_L_dip⟩
  have D_L_odd : Fd (tbOf K lams) P w K mg base 3 (a_L_odd.adr K) P_L_odd fd_L_odd (sp_L_odd K) := der_L_odd F Fn_L_odd ⟨fd_L_pick, Fn_L_pick, D_L_pick⟩
  have D_L_bent : Fd (tbOf K lams) P w K mg base 4 (a_L_bent.adr K) P_L_bent fd_L_bent (sp_L_bent K) := der_L_bent F Fn_L_bent ⟨fd_L_dip, Fn_L_dip, D_L_dip⟩ ⟨fd_L_odd, Fn_L_odd, D_L_odd⟩ ⟨fd_L_pick, Fn_L_pick, D_L_pick⟩
  have D_L_lot_slip : Fd (tbOf K lams) P w K mg base 1 (a_L_lot_slip.adr K) P_L_lot_slip fd_L_lot_slip (sp_L_lot_slip K) := der_L_lot_slip F Fn_L_lot_slip
  have D_L_bases : FdX (tbOf K lams) P w K mg base 1 (a_L_bases.adr K) P_L_bases fd_L_bases (sp_L_bases K) := der_L_bases F Fn_L_bases
  have D_L_shown : FdX (tbOf K lams) P w K mg base 2 (a_L_shown.adr K) P_L_shown fd_L_shown (sp_L_shown K) := der_L_shown F Fn_L_shown ⟨fd_L_bases, Fn_L_bases, D_L_bases⟩
  have D_L_caught : FdL (tbOf K lams) P w K mg base 3 (a_L_caught.adr K) fd_L_caught "_law_act" (sp_L_caught K) := der_L_caught F Fn_L_caught ⟨fd_L_shown, Fn_L_shown, D_L_shown⟩
  have D_InvalidOrders_init : IniF P w K mg base (a_InvalidOrders_init.adr K) "index" := der_InvalidOrders_init F Fn_InvalidOrders_init
  have D_are_letters : Fd (tbOf K lams) P w K mg base 1 (a_are_letters.adr K) P_are_letters fd_are_letters (sp_are_letters K) := der_are_letters F Fn_are_letters
  have D_is_order : Fd (tbOf K lams) P w K mg base 2 (a_is_order.adr K) P_is_order fd_is_order (sp_is_order K) := der_is_order F Fn_is_order ⟨fd_are_letters, Fn_are_letters, D_are_letters⟩
  have D_is_order_of : Fd (tbOf K lams) P w K mg base 3 (a_is_order_of.adr K) P_is_order_of fd_is_order_of (sp_is_order_of K) := der_is_order_of F Fn_is_order_of ⟨fd_is_order, Fn_is_order, D_is_order⟩
  have D_check_orders : Fd (tbOf K lams) P w K mg base 4 (a_check_orders.adr K) P_check_orders fd_check_orders (sp_check_orders K) := der_check_orders F Fn_check_orders ⟨fd_InvalidOrders_init, Fn_InvalidOrders_init, D_InvalidOrders_init⟩ ⟨fd_is_order, Fn_is_order, D_is_order⟩ ⟨fd_is_order_of, Fn_is_order_of, D_is_order_of⟩
  have D_Roll_init : Fd (tbOf K lams) P w K mg base 5 (a_Roll_init.adr K) P_Roll_init fd_Roll_init (sp_Roll_init K) := der_Roll_init F Fn_Roll_init ⟨fd_check_orders, Fn_check_orders, D_check_orders⟩
  have D_Roll_orders : Fd (tbOf K lams) P w K mg base 1 (a_Roll_orders.adr K) P_Roll_orders fd_Roll_orders (sp_Roll_orders K) := der_Roll_orders F Fn_Roll_orders
  have D_L_right : Fd (tbOf K lams) P w K mg base 10 (a_L_right.adr K) P_L_right fd_L_right (sp_L_right K) := der_L_right F Fn_L_right ⟨fd_Roll_init, Fn_Roll_init, D_Roll_init⟩ ⟨fd_Roll_orders, Fn_Roll_orders, D_Roll_orders⟩ ⟨fd_L_bent, Fn_L_bent, D_L_bent⟩ ⟨fd_L_caught, Fn_L_caught, D_L_caught⟩ ⟨fd_L_lot_slip, Fn_L_lot_slip, D_L_lot_slip⟩ ⟨fd_L_many, Fn_L_many, D_L_many⟩ ⟨fd_L_odd, Fn_L_odd, D_L_odd⟩ ⟨fd_L_pick, Fn_L_pick, D_L_pick⟩ ⟨fd_L_roster, Fn_L_roster, D_L_roster⟩ (lamT_of c.nd tb (by unfold lams; repeat (first | exact List.mem_cons_self | apply List.mem_cons_of_mem)))
  have D_L_jar : Fd (tbOf K lams) P w K mg base 1 (a_L_jar.adr K) P_L_jar fd_L_jar (sp_L_jar K) := der_L_jar F Fn_L_jar
  have D_law : Fd (tbOf K lams) P w K mg base 11 (a_law.adr K) P_law fd_law (sp_law K) := der_law F Fn_law ⟨fd_L_jar, Fn_L_jar, D_L_jar⟩ ⟨fd_L_right, Fn_L_right, D_L_right⟩
  exact D_law
end DL
open PySem PySem.W PySem.Calls PyProof.Rows
theorem PySem.Challenge.cw_calmlists_k03_whole_orders_refused_holds : PySem.Challenge.rw_calmlists_k03_whole_orders_refused.Holds := by
  w_on; o_law
  refine HandSHeadRun.head_any (r := OpenLaw.row PySem.Challenge.rw_calmlists_k03_whole_orders_refused) (q := view (OpenLaw.row PySem.Challenge.rw_calmlists_k03_whole_orders_refused).prog [35]) (H := DL.hkA) (ob := DL.lookU 6 DL.fns DL.exK DL.tabs DL.lams) (M := 20000) (loose := DL.loose) (d := HandSHeadRun.topDef (OpenLaw.row PySem.Challenge.rw_calmlists_k03_whole_orders_refused).prog 35) (kwd := []) DL.lookU_eq
    (by kernel_rfl) (fun s => by kernel_rfl) DL.runA (by kernel_rfl) (by kernel_rfl) (by kernel_rfl) (by rfl) (by first | assumption | decide +kernel) (by decide +kernel) ⟨rfl, rfl, rfl, rfl, rfl, by decide +kernel⟩ ?hw ?hc
  case hw => w_witness2
  case hc =>
    refine DL.law_endT (l := PySem.Challenge.rw_calmlists_k03_whole_orders_refused) (n := 63) (k := 11) (x := "_law_script") rfl (by decide) (by kernel_rfl) ⟨rfl, by decide, by decide⟩ ?F
    intro w mg fa h Y G hmg0
    obtain ⟨K, KX, c⟩ := Y
    have hmg : mg ("law" : PySem.Str) = some (.ref fa) := by
      have e : (HandSHeadRun.topDef (OpenLaw.row PySem.Challenge.rw_calmlists_k03_whole_orders_refused).prog 35).name = ("law" : PySem.Str) := by kernel_rfl
      rw [← e]
      exact hmg0
    obtain ⟨fd, hb, hF⟩ := DL.told (P := (PySem.Challenge.rw_calmlists_k03_whole_orders_refused).prog) (w := w) KX G hmg c
    exact ⟨K, fd, DL.sp_law K, DL.csOf K DL.lams, DL.tqOf K DL.lams, KX, c.ats, c.outs, c.hds, hb, fun ns hl hb => ⟨ns, rfl, hl, fun _ _ => rfl⟩, hF⟩
