import PyProof.Rows.All
import Wide.All
import OpenK.AllK
import Wide.FinOn
import HandS.ForExc
import HandS.ForMost
import HandS.Evl
import HandS.StrMore
import HandS.RevRange
import HandS.IsInst
import HandS.Wide
import HandS.Codes
import HandS.Lambda
import HandS.Nested
import KE.KDictKeyed
import KE.KSortTupG
import KE.KSortKey
import HandS.SortKw
import HandS.More
import HandS.Conv
import HandS.WordsDict
import HandS.Style
import PyProof.Rows.StrRev
import HandS.Set
import HandS.SetTxt0
import HandS.TupSets
import KE.KDictDisplayH
import KE.KDictLaws
import KE.GoesEnum
import HandS.Dict
import PyProof.Rows.TupTab
import KE.KDictWalk
import KE.KDictSum
import HandS.Deep
import KE.DataCmp
import HandS.SetFor
import PyProof.SeqRoads2
import KE.KLam
import HandS.Zip
import KE.KDictZip
import HandS.TupMul
import HandS.TupAny
import PyProof.CollectStr
import PyProof.ListStr
import HandS.Rev
import PyProof.CollectWalk
import HandS.TryOnly
import KE.DatumOrd
import HandS.ExcOwn
import HandS.ExcIs
import HandS.WordsExc
import PyProof.ExcBaseAll.ValueError
import KE.KDictPairs
import PyProof.FactsInt
import HandS.Call
import HandS.Text
import HandS.StrSplit
import HandS.Strs
import HandS.MapObj
import HandS.Flow
import HandS.HeadHook3
import KE.KExcIs
import HandS.ExcInit
import HandS.ExcValue
import HandS.ExcField
import KE.DataFind
import PySem.Challenge.RW_spreadwords_k19_texts_of_no_machine
set_option Elab.async false
set_option linter.all false
set_option maxRecDepth 100000
set_option maxHeartbeats 4000000
/-! Dx: readings over data. A layer above HandS: values are trees of data, what a def changes is a list of cells. -/
namespace Dx
open PySem PySem.Spec PyProof.Rows L2
open Evl (Ex)
/-- the layer's own line for sizes -/
theorem szM_of {n : Nat} (h : n ≤ 1000000) : n ≤ sizeLine := Nat.le_trans h (by decide)
theorem szM_lt {n : Nat} (h : n < 1000000) : n < sizeLine := Nat.lt_of_lt_of_le h (by decide)
/-- the tables of code objects in which the making of a lambda looks, each with the name that its code objects bear -/
class Tb where
  tabs : List (Addr × Str)
  /-- defs made by a running def, that lie about -/
  fns : List (Addr × NdefX.NF)
variable [Tb]

/-! ### data -/
inductive D where
  | non | bl (b : Bool) | int (i : Int) | str (s : List Nat)
  | lst (xs : List D) | tup (xs : List D)
  | dk (ks : List Key) (ds : List D)
  /-- a dict whose keys are nested tuples, or ints, bools, texts; the world tells the hashes -/
  | dt (w : World) (ks : List D) (ds : List D)
  /-- what stands at an address: a def, a list of its own that a list holds -/
  | adr (a : Addr)
  /-- the law's script: read once -/
  | scr (K : PySem.W.Frag) (ns : List Int)
  /-- an own exception (true), an own instance that is not changed any more (false): its class, its fields -/
  | ob (x : Bool) (C : Addr) (ns : List Str) (ds : List D)

/-- a slot's value: data, or the k-th cell -/
inductive DV where
  | dat (d : D) | cel (k : Nat)
/-- what a cell holds -/
inductive MC where
  | dead | lst (xs : List D)
  /-- a list whose address is told -/
  | own (a : Addr) (xs : List D)
  | dk (ks : List Key) (ds : List D)
  | dt (w : World) (ks : List D) (ds : List D)
  /-- an instance of an own class: its fields -/
  | ins (C : Addr) (ns : List Str) (ds : List D)
  /-- a dict whose address is told -/
  | ownK (a : Addr) (ks : List Key) (ds : List D)
def MC.toD : MC → D
  | .dead => .non
  | .lst xs => .lst xs
  | .own _ xs => .lst xs
  | .dk ks ds => .dk ks ds
  | .dt w ks ds => .dt w ks ds
  | .ins C ns ds => .ob false C ns ds
  | .ownK _ ks ds => .dk ks ds
mutual
/-- what a key is, up to == -/
def nkD : D → NestedKey
  | .non => .none
  | .bl b => .num (if b = true then 1 else 0)
  | .int i => .num i
  | .str s => .text ⟨s.toArray⟩
  | .tup ds => .tup (nkDs ds)
  | .lst _ => .none
  | .dk _ _ => .none
  | .dt _ _ _ => .none
  | .adr _ => .none
  | .scr _ _ => .none
  | .ob _ _ _ _ => .none
def nkDs : List D → List NestedKey
  | [] => []
  | d :: r => nkD d :: nkDs r
end
def zip3 {α β γ : Type} : List α → List β → List γ → List (α × β × γ)
  | a :: as, b :: bs, c :: cs => (a, b, c) :: zip3 as bs cs
  | _, _, _ => []
def isBoolU : Value → Bool
  | .bool _ => true
  | _ => false
def isBlV : V → Bool
  | .bl _ => true
  | _ => false
/-- truths apart from the numbers they are alike to -/
def leafIs (b : Bool) (l : Leaf) (u : Value) : Bool := decide (isBoolU u = b) && Leaf.isOf l u
/-- a key's value in a dict's entry -/
def KR (k : NestedKey) : V → Value → Prop
  | .ref b, u => u = .ref b
  | v, u => ∃ l : Leaf, l.key = k ∧ leafIs (isBlV v) l u = true
/-- a dict by its entries: what the key is, the key, the value -/
def DicN (w : World) (a : Addr) (ep : Nat) (xs : List (NestedKey × V × V)) : HO := .ext fun h => xs.length ≤ sizeLine ∧ (a == sysModules) = false ∧ (xs.map (·.1)).Nodup ∧
  ∃ ys : List (NestedKey × Value × Value), Paired (fun (p : NestedKey × V × V) (q : NestedKey × Value × Value) => p.1 = q.1 ∧ KR p.1 p.2.1 q.2.1 ∧ RelV p.2.2 q.2.2) xs ys ∧
  ∃ o es, h.get? a = some o ∧ o.ExactDict ∧ o.data = .dict es ep ∧ es.toList = ys.map fun y => ⟨y.1.hash w, y.2.1, y.2.2⟩

/-- an own exception's object: its class, where its dict stands -/
def ExK (cls : Value) (d : Option Addr) (a : Addr) : HO := .ext fun h => ∃ (oe : Obj) (vs : Array Value), h.get? a = some oe ∧ Zc cls d oe ∧ oe.data = .fields vs
def ObAt (x : Bool) (F : Hp) (a C : Addr) (ns : List Str) (vs : List V) : Prop := match x with
  | true => (ns = [] ∧ F a = some (ExK (.ref C) none a)) ∨ ∃ d, F a = some (ExK (.ref C) (some d) a) ∧ F d = some (.xd (ns.zip vs))
  | false => ∃ dx, F a = some (.ins C dx (ns.zip vs))
theorem ObAt.mono {x : Bool} {F F' : Hp} {a C : Addr} {ns : List Str} {vs : List V} (h : ObAt x F a C ns vs) (e : Ex F F') : ObAt x F' a C ns vs := by
  cases x with
  | true =>
    rcases h with ⟨h1, h2⟩ | ⟨d, h1, h2⟩
    · exact .inl ⟨h1, e _ _ h2⟩
    · exact .inr ⟨d, e _ _ h1, e _ _ h2⟩
  | false =>
    obtain ⟨dx, h⟩ := h
    exact ⟨dx, e _ _ h⟩
mutual
def Rep (F : Hp) : D → V → Prop
  | .non, v => v = .non
  | .bl b, v => v = .bl b
  | .int i, v => v = .int i
  | .str s, v => v = .str ⟨s.toArray⟩
  | .lst ds, v => ∃ a vs, v = .ref a ∧ F a = some (.lst vs) ∧ RepL F ds vs
  | .tup ds, v => ∃ a vs, v = .ref a ∧ F a = some (.tup vs) ∧ RepL F ds vs
  | .dk ks ds, v => ∃ a vs, v = .ref a ∧ F a = some (.dK (ks.zip vs)) ∧ ks.length = ds.length ∧ RepL F ds vs
  | .dt w ks ds, v => ∃ a us vs ep, v = .ref a ∧ F a = some (DicN w a ep (zip3 (nkDs ks) us vs)) ∧ ks.length = ds.length ∧ RepL F ks us ∧ RepL F ds vs
  | .adr a, v => v = .ref a
  | .scr K ns, v => ∃ a, v = .ref a ∧ SqL K F a (ns.map V.int)
  | .ob x C ns ds, v => ∃ a vs, v = .ref a ∧ ObAt x F a C ns vs ∧ ns.length = ds.length ∧ RepL F ds vs
def RepL (F : Hp) : List D → List V → Prop
  | [], vs => vs = []
  | d :: ds, vs => ∃ v r, vs = v :: r ∧ Rep F d v ∧ RepL F ds r
end

mutual
theorem Rep.mono {F F' : Hp} (e : Ex F F') : ∀ (d : D) (v : V), Rep F d v → Rep F' d v
  | .non, v, h => by simpa [Rep] using h
  | .bl _, v, h => by simpa [Rep] using h
  | .int _, v, h => by simpa [Rep] using h
  | .str _, v, h => by simpa [Rep] using h
  | .lst ds, v, h => by
    rw [Rep] at h ⊢
    obtain ⟨a, vs, r, q, l⟩ := h
    exact ⟨a, vs, r, e _ _ q, RepL.mono e ds vs l⟩
  | .tup ds, v, h => by
    rw [Rep] at h ⊢
    obtain ⟨a, vs, r, q, l⟩ := h
    exact ⟨a, vs, r, e _ _ q, RepL.mono e ds vs l⟩
  | .dk ks ds, v, h => by
    rw [Rep] at h ⊢
    obtain ⟨a, vs, r, q, z, l⟩ := h
    exact ⟨a, vs, r, e _ _ q, z, RepL.mono e ds vs l⟩
  | .dt w ks ds, v, h => by
    rw [Rep] at h ⊢
    obtain ⟨a, us, vs, ep, r, q, z, k, l⟩ := h
    exact ⟨a, us, vs, ep, r, e _ _ q, z, RepL.mono e ks us k, RepL.mono e ds vs l⟩
  | .adr _, v, h => by simpa [Rep] using h
  | .scr K ns, v, h => by
    rw [Rep] at h ⊢
    obtain ⟨a, r, q⟩ := h
    exact ⟨a, r, Evl.ex_l e q⟩
  | .ob x C ns ds, v, h => by
    rw [Rep] at h ⊢
    obtain ⟨a, vs, r, q, z, l⟩ := h
    exact ⟨a, vs, r, q.mono e, z, RepL.mono e ds vs l⟩
theorem RepL.mono {F F' : Hp} (e : Ex F F') : ∀ (ds : List D) (vs : List V), RepL F ds vs → RepL F' ds vs
  | [], vs, h => by simpa [RepL] using h
  | d :: ds, vs, h => by
    rw [RepL] at h ⊢
    obtain ⟨v, r, q, a, b⟩ := h
    exact ⟨v, r, q, Rep.mono e d v a, RepL.mono e ds r b⟩
end
theorem RepL.len {F : Hp} : ∀ {ds : List D} {vs : List V}, RepL F ds vs → vs.length = ds.length
  | [], vs, h => by
    rw [RepL] at h
    subst h
    rfl
  | d :: ds, vs, h => by
    rw [RepL] at h
    obtain ⟨v, r, q, a, b⟩ := h
    subst q
    rw [List.length_cons, List.length_cons, RepL.len b]
theorem RepL.nil {F : Hp} : RepL F [] [] := by
  rw [RepL]
theorem RepL.cons {F : Hp} {d : D} {v : V} {ds : List D} {vs : List V} (h : Rep F d v) (t : RepL F ds vs) : RepL F (d :: ds) (v :: vs) := by
  rw [RepL]
  exact ⟨v, vs, rfl, h, t⟩
theorem RepL.app {F : Hp} : ∀ {ds es : List D} {vs ws : List V}, RepL F ds vs → RepL F es ws → RepL F (ds ++ es) (vs ++ ws)
  | [], es, vs, ws, h, t => by
    rw [RepL] at h
    subst h
    exact t
  | d :: ds, es, vs, ws, h, t => by
    rw [RepL] at h
    obtain ⟨v, r, q, a, b⟩ := h
    subst q
    exact RepL.cons a (RepL.app b t)
theorem RepL.get {F : Hp} : ∀ {ds : List D} {vs : List V} {i : Nat} {d : D}, RepL F ds vs → ds[i]? = some d → ∃ v, vs[i]? = some v ∧ Rep F d v
  | [], vs, i, d, h, e => by simp at e
  | d' :: ds, vs, 0, d, h, e => by
    rw [RepL] at h
    obtain ⟨v, r, q, a, b⟩ := h
    subst q
    simp at e
    subst e
    exact ⟨v, rfl, a⟩
  | d' :: ds, vs, i + 1, d, h, e => by
    rw [RepL] at h
    obtain ⟨v, r, q, a, b⟩ := h
    subst q
    have e' : ds[i]? = some d := by simpa using e
    obtain ⟨u, q1, q2⟩ := RepL.get b e'
    exact ⟨u, by simpa using q1, q2⟩
theorem RepL.drop {F : Hp} : ∀ {ds : List D} {vs : List V} (n : Nat), RepL F ds vs → RepL F (ds.drop n) (vs.drop n)
  | ds, vs, 0, h => by simpa using h
  | [], vs, n + 1, h => by
    rw [RepL] at h
    subst h
    exact RepL.nil
  | d :: ds, vs, n + 1, h => by
    rw [RepL] at h
    obtain ⟨v, r, q, a, b⟩ := h
    subst q
    exact RepL.drop n b
theorem RepL.take {F : Hp} : ∀ {ds : List D} {vs : List V} (n : Nat), RepL F ds vs → RepL F (ds.take n) (vs.take n)
  | ds, vs, 0, h => by
    rw [List.take_zero, List.take_zero]
    exact RepL.nil
  | [], vs, n + 1, h => by
    rw [RepL] at h
    subst h
    exact RepL.nil
  | d :: ds, vs, n + 1, h => by
    rw [RepL] at h
    obtain ⟨v, r, q, a, b⟩ := h
    subst q
    exact RepL.cons a (RepL.take n b)
theorem RepL.setI {F : Hp} {d : D} {v : V} (h : Rep F d v) : ∀ {ds : List D} {vs : List V} (i : Nat), RepL F ds vs → RepL F (ds.set i d) (vs.set i v)
  | [], vs, i, t => by
    rw [RepL] at t
    subst t
    exact RepL.nil
  | d' :: ds, vs, 0, t => by
    rw [RepL] at t
    obtain ⟨v', r, q, a, b⟩ := t
    subst q
    exact RepL.cons h b
  | d' :: ds, vs, i + 1, t => by
    rw [RepL] at t
    obtain ⟨v', r, q, a, b⟩ := t
    subst q
    exact RepL.cons a (RepL.setI h i b)
theorem RepL.one {F : Hp} {d : D} {vs : List V} (h : RepL F [d] vs) : ∃ v, vs = [v] ∧ Rep F d v := by
  rw [RepL] at h
  obtain ⟨v, r, q, a, b⟩ := h
  rw [RepL] at b
  subst b
  exact ⟨v, q, a⟩
theorem RepL.uncons {F : Hp} {d : D} {ds : List D} {vs : List V} (h : RepL F (d :: ds) vs) : ∃ v r, vs = v :: r ∧ Rep F d v ∧ RepL F ds r := by
  rw [RepL] at h
  exact h
theorem RepL.unnil {F : Hp} {vs : List V} (h : RepL F [] vs) : vs = [] := by
  rw [RepL] at h
  exact h
/-- rows of ints, of texts, of truths -/
theorem RepL.ints {F : Hp} : ∀ {ns : List Int} {vs : List V}, RepL F (ns.map D.int) vs → vs = ns.map V.int
  | [], vs, h => by
    rw [List.map_nil] at h
    exact h.unnil
  | n :: ns, vs, h => by
    rw [List.map_cons] at h
    obtain ⟨v, r, q, a, b⟩ := h.uncons
    rw [Rep] at a
    rw [q, a, RepL.ints b]
    rfl
def mkS (l : List Nat) : Str := ⟨l.toArray⟩
theorem RepL.strs {F : Hp} : ∀ {ns : List (List Nat)} {vs : List V}, RepL F (ns.map D.str) vs → vs = (ns.map mkS).map V.str
  | [], vs, h => by
    rw [List.map_nil] at h
    exact h.unnil
  | n :: ns, vs, h => by
    rw [List.map_cons] at h
    obtain ⟨v, r, q, a, b⟩ := h.uncons
    rw [Rep] at a
    rw [q, a, RepL.strs b]
    rfl
theorem RepL.bls {F : Hp} : ∀ {ns : List Bool} {vs : List V}, RepL F (ns.map D.bl) vs → vs = ns.map V.bl
  | [], vs, h => by
    rw [List.map_nil] at h
    exact h.unnil
  | n :: ns, vs, h => by
    rw [List.map_cons] at h
    obtain ⟨v, r, q, a, b⟩ := h.uncons
    rw [Rep] at a
    rw [q, a, RepL.bls b]
    rfl
theorem RepL.toInts {F : Hp} : ∀ (ns : List Int), RepL F (ns.map D.int) (ns.map V.int)
  | [] => RepL.nil
  | n :: ns => RepL.cons (by rw [Rep]) (RepL.toInts ns)
theorem RepL.toStrs {F : Hp} : ∀ (ns : List (List Nat)), RepL F (ns.map D.str) ((ns.map mkS).map V.str)
  | [] => RepL.nil
  | n :: ns => RepL.cons (by rw [Rep]; rfl) (RepL.toStrs ns)

/-! ### the state -/
abbrev Rho := List (Option DV)
abbrev Mu := List MC
def CelOk (F H : Hp) (a : Addr) : MC → Prop
  | .dead => H a ≠ none
  | .lst ds => F a = none ∧ ∃ vs, H a = some (.lst vs) ∧ RepL F ds vs
  | .own b ds => a = b ∧ F a = none ∧ ∃ vs, H a = some (.lst vs) ∧ RepL F ds vs
  | .dk ks ds => F a = none ∧ ∃ vs, H a = some (.dK (ks.zip vs)) ∧ ks.length = ds.length ∧ RepL F ds vs
  | .dt w ks ds => F a = none ∧ ∃ us vs ep, H a = some (DicN w a ep (zip3 (nkDs ks) us vs)) ∧ ks.length = ds.length ∧ RepL F ks us ∧ RepL F ds vs
  | .ins C ns ds => F a = none ∧ ∃ dx vs, H a = some (.ins C dx (ns.zip vs)) ∧ ns.length = ds.length ∧ RepL F ds vs
  | .ownK b ks ds => a = b ∧ F a = none ∧ ∃ vs, H a = some (.dK (ks.zip vs)) ∧ ks.length = ds.length ∧ RepL F ds vs
theorem CelOk.there {F H : Hp} {a : Addr} {m : MC} (h : CelOk F H a m) : H a ≠ none := by
  cases m with
  | dead => exact h
  | lst ds =>
    obtain ⟨_, vs, e, _⟩ := h
    rw [e]
    exact fun z => nomatch z
  | own b ds =>
    obtain ⟨_, _, vs, e, _⟩ := h
    rw [e]
    exact fun z => nomatch z
  | dk ks ds =>
    obtain ⟨_, vs, e, _⟩ := h
    rw [e]
    exact fun z => nomatch z
  | dt w ks ds =>
    obtain ⟨_, us, vs, ep, e, _⟩ := h
    rw [e]
    exact fun z => nomatch z
  | ins C ns ds =>
    obtain ⟨_, dx, vs, e, _⟩ := h
    rw [e]
    exact fun z => nomatch z
  | ownK b ks ds =>
    obtain ⟨_, _, vs, e, _⟩ := h
    rw [e]
    exact fun z => nomatch z
def isDead : MC → Bool
  | .dead => true
  | _ => false
/-- a live cell is not frozen -/
theorem CelOk.un {F H : Hp} {a : Addr} {m : MC} (h : CelOk F H a m) (l : isDead m = false) : F a = none := by
  cases m with
  | dead => cases l
  | lst ds => exact h.1
  | own b ds => exact h.2.1
  | dk ks ds => exact h.1
  | dt w ks ds => exact h.1
  | ins C ns ds => exact h.1
  | ownK b ks ds => exact h.2.1
/-- the same cell over a larger F, the heap as it was there -/
theorem CelOk.mono {F F' H H' : Hp} {a : Addr} {m : MC} (h : CelOk F H a m) (e : Ex F F') (n : F a = none → F' a = none) (k : H' a = H a) : CelOk F' H' a m := by
  cases m with
  | dead =>
    show H' a ≠ none
    rw [k]
    exact h
  | lst ds =>
    obtain ⟨z, vs, q, r⟩ := h
    exact ⟨n z, vs, by rw [k]; exact q, r.mono e⟩
  | own b ds =>
    obtain ⟨w, z, vs, q, r⟩ := h
    exact ⟨w, n z, vs, by rw [k]; exact q, r.mono e⟩
  | dk ks ds =>
    obtain ⟨z, vs, q, l, r⟩ := h
    exact ⟨n z, vs, by rw [k]; exact q, l, r.mono e⟩
  | dt w ks ds =>
    obtain ⟨z, us, vs, ep, q, l, rk, r⟩ := h
    exact ⟨n z, us, vs, ep, by rw [k]; exact q, l, rk.mono e, r.mono e⟩
  | ins C ns ds =>
    obtain ⟨z, dx, vs, q, l, r⟩ := h
    exact ⟨n z, dx, vs, by rw [k]; exact q, l, r.mono e⟩
  | ownK b ks ds =>
    obtain ⟨w, z, vs, q, l, r⟩ := h
    exact ⟨w, n z, vs, by rw [k]; exact q, l, r.mono e⟩

def RepV (F : Hp) (al : List Addr) : DV → V → Prop
  | .dat d, v => Rep F d v
  | .cel k, v => ∃ a, al[k]? = some a ∧ v = .ref a
theorem RepV.mono {F F' : Hp} {al al' : List Addr} {x : DV} {v : V} (h : RepV F al x v) (e : Ex F F') (p : al <+: al') : RepV F' al' x v := by
  cases x with
  | dat d => exact Rep.mono e d v h
  | cel k =>
    obtain ⟨a, q, r⟩ := h
    obtain ⟨t, rfl⟩ := p
    exact ⟨a, by rw [List.getElem?_append_left]; exact q; exact (List.getElem?_eq_some_iff.mp q).1, r⟩

/-- a code object is no cell's object -/
theorem heap_of (n : Nat) : ∃ h : Heap, h.objs.size = n := by
  induction n with
  | zero => exact ⟨{ (default : Heap) with objs := #[] }, rfl⟩
  | succ n ih =>
    obtain ⟨h, e⟩ := ih
    exact ⟨h.push { cls := .none, data := .plain }, by rw [← e]; exact Array.size_push ..⟩
theorem codeO_dicN {c : Addr} {q : Str} {w : World} {ep : Nat} {xs : List (NestedKey × V × V)} : LamX.CodeO c q ≠ DicN w c ep xs := fun z => by
  unfold LamX.CodeO DicN at z
  injection z with z
  obtain ⟨h, e⟩ := heap_of c
  have q1 : (h.push { cls := .none, data := .fields #[.none, .str q 0] }).get? c = some { cls := .none, data := .fields #[.none, .str q 0] } := by
    rw [← e]
    exact Heap.get?_push_size _ rfl
  have w1 := (congrFun z _).mp ⟨_, _, 0, q1, rfl, rfl⟩
  obtain ⟨_, _, _, ys, _, o, es, e1, _, e2, _⟩ := w1
  rw [q1] at e1
  cases e1
  cases e2
theorem fnO_dicN {c : Addr} {F : NdefX.NF} {w : World} {ep : Nat} {xs : List (NestedKey × V × V)} : NdefX.FnO c F ≠ DicN w c ep xs := fun z => by
  unfold NdefX.FnO DicN at z
  injection z with z
  obtain ⟨h, e⟩ := heap_of c
  have q1 : (h.push { cls := .type "function", data := .func (F.fd .none .none .none) }).get? c = some { cls := .type "function", data := .func (F.fd .none .none .none) } := by
    rw [← e]
    exact Heap.get?_push_size _ rfl
  have w1 := (congrFun z _).mp ⟨_, _, _, _, _, q1⟩
  obtain ⟨_, _, _, ys, _, o, es, e1, _, e2, _⟩ := w1
  rw [q1] at e1
  cases e1
  cases e2
/-- what may be written stands for no table, no code object, no made def -/
def Plain (c : Addr) (o : HO) : Prop := (∀ ps, o ≠ .tbl ps) ∧ (∀ q, o ≠ LamX.CodeO c q) ∧ ∀ F, o ≠ NdefX.FnO c F
/-- the tables lie there, the made defs and their code too -/
def TbOk (H : Hp) : Prop := LamX.Tabs Tb.tabs H ∧ ∀ p ∈ Tb.fns, H p.1 = some (NdefX.FnO p.1 p.2) ∧ H p.2.c = some (LamX.CodeO p.2.c p.2.qual)
theorem TbOk.ext {H H' : Hp} (t : TbOk H) (e : ∀ a o, H a = some o → H' a = some o) : TbOk H' := ⟨LamX.Tabs.ext t.1 e, fun p hp => ⟨e _ _ (t.2 p hp).1, e _ _ (t.2 p hp).2⟩⟩
theorem plain_lst {a : Addr} {vs : List V} : Plain a (.lst vs) := ⟨fun _ z => (by cases z), fun q z => (by unfold LamX.CodeO at z; cases z), fun q z => by unfold NdefX.FnO at z; cases z⟩
theorem plain_dK {a : Addr} {vs : List (Key × V)} : Plain a (.dK vs) := ⟨fun _ z => (by cases z), fun q z => (by unfold LamX.CodeO at z; cases z), fun q z => by unfold NdefX.FnO at z; cases z⟩
theorem plain_ins {a C dx : Addr} {fs : List (Str × V)} : Plain a (.ins C dx fs) := ⟨fun _ z => (by cases z), fun q z => (by unfold LamX.CodeO at z; cases z), fun q z => by unfold NdefX.FnO at z; cases z⟩
theorem plain_dicN {a : Addr} {w : World} {ep : Nat} {xs : List (NestedKey × V × V)} : Plain a (DicN w a ep xs) := ⟨fun _ z => (by unfold DicN at z; cases z), fun q z => codeO_dicN z.symm, fun q z => fnO_dicN z.symm⟩
theorem CelOk.plain {F H : Hp} {a : Addr} {m : MC} (h : CelOk F H a m) (l : isDead m = false) : ∃ o, H a = some o ∧ Plain a o := by
  cases m with
  | dead => cases l
  | lst ds =>
    obtain ⟨_, vs, e, _⟩ := h
    exact ⟨_, e, plain_lst⟩
  | own b ds =>
    obtain ⟨_, _, vs, e, _⟩ := h
    exact ⟨_, e, plain_lst⟩
  | dk ks ds =>
    obtain ⟨_, vs, e, _⟩ := h
    exact ⟨_, e, plain_dK⟩
  | dt w ks ds =>
    obtain ⟨_, us, vs, ep, e, _⟩ := h
    exact ⟨_, e, plain_dicN⟩
  | ins C ns ds =>
    obtain ⟨_, dx, vs, e, _⟩ := h
    exact ⟨_, e, plain_ins⟩
  | ownK b ks ds =>
    obtain ⟨_, _, vs, e, _⟩ := h
    exact ⟨_, e, plain_dK⟩
/-- a cell through a step that keeps all but the tables -/
theorem CelOk.keep {F F' H H' : Hp} {a : Addr} {m : MC} (h : CelOk F H a m) (e : Ex F F') (n : F a = none → F' a = none) (k : ∀ o, H a = some o → (∀ ps, o ≠ .tbl ps) → H' a = some o) (dm : H a ≠ none → H' a ≠ none) : CelOk F' H' a m := by
  cases m with
  | dead => exact dm h
  | lst ds =>
    obtain ⟨o, e1, pl, _⟩ := h.plain rfl
    exact h.mono e n (by rw [e1]; exact k o e1 pl)
  | own b ds =>
    obtain ⟨o, e1, pl, _⟩ := h.plain rfl
    exact h.mono e n (by rw [e1]; exact k o e1 pl)
  | dk ks ds =>
    obtain ⟨o, e1, pl, _⟩ := h.plain rfl
    exact h.mono e n (by rw [e1]; exact k o e1 pl)
  | dt w ks ds =>
    obtain ⟨o, e1, pl, _⟩ := h.plain rfl
    exact h.mono e n (by rw [e1]; exact k o e1 pl)
  | ins C ns ds =>
    obtain ⟨o, e1, pl, _⟩ := h.plain rfl
    exact h.mono e n (by rw [e1]; exact k o e1 pl)
  | ownK b ks ds =>
    obtain ⟨o, e1, pl, _⟩ := h.plain rfl
    exact h.mono e n (by rw [e1]; exact k o e1 pl)
/-- a step through which the tables go -/
structure Kept (H H' : Hp) : Prop where
  kp : ∀ a o, H a = some o → (∀ ps, o ≠ .tbl ps) → H' a = some o
  dm : ∀ a, H a ≠ none → H' a ≠ none
  tb : TbOk H → TbOk H'
theorem Kept.of {H H' : Hp} (k : ∀ a o, H a = some o → H' a = some o) : Kept H H' := ⟨fun a o h _ => k a o h, fun a h => by
  cases e : H a with
  | none => exact absurd e h
  | some o =>
    rw [k a o e]
    exact fun z => (nomatch z), fun t => t.ext k⟩
theorem Kept.refl (H : Hp) : Kept H H := Kept.of fun _ _ h => h
theorem Kept.trans {H H1 H2 : Hp} (a : Kept H H1) (b : Kept H1 H2) : Kept H H2 := ⟨fun x o h n => b.kp x o (a.kp x o h n) n, fun x h => b.dm x (a.dm x h), fun t => b.tb (a.tb t)⟩
/-- an object that is no table and no code object is written -/
theorem tabs_put {H : Hp} {a : Addr} {o o' : HO} (t : TbOk H) (ha : H a = some o) (pl : Plain a o) : TbOk (upd H a o') := ⟨fun p hp => by
  obtain ⟨ps, h1, h2, h3⟩ := t.1 p hp
  refine ⟨ps, ?_, h2, fun pos cv hc => ?_⟩
  · rw [upd_ne (fun z => by rw [z, ha] at h1; cases h1; exact pl.1 ps rfl)]
    exact h1
  · obtain ⟨c, e1, e2⟩ := h3 pos cv hc
    refine ⟨c, e1, ?_⟩
    rw [upd_ne (fun z => by rw [z, ha] at e2; cases e2; exact pl.2.1 _ rfl)]
    exact e2, fun p hp => by
  obtain ⟨h1, h2⟩ := t.2 p hp
  refine ⟨?_, ?_⟩
  · rw [upd_ne (fun z => by rw [z, ha] at h1; cases h1; exact pl.2.2 _ rfl)]
    exact h1
  · rw [upd_ne (fun z => by rw [z, ha] at h2; cases h2; exact pl.2.1 _ rfl)]
    exact h2⟩
theorem tabs_new {H : Hp} {a : Addr} {o : HO} (t : TbOk H) (ha : H a = none) : TbOk (upd H a o) := t.ext fun b u e => by
  rw [upd_ne (ne_of_none e ha)]
  exact e
/-- the heap without its tables -/
noncomputable def noT (H : Hp) : Hp := fun a => open Classical in if ∃ ps, H a = some (.tbl ps) then none else H a
theorem noT_ex {H : Hp} : Ex (noT H) H := fun a o e => by
  unfold noT at e
  split at e
  · cases e
  · exact e
theorem noT_nt {H : Hp} : ∀ a ps, noT H a ≠ some (.tbl ps) := fun a ps e => by
  unfold noT at e
  split at e
  · cases e
  · rename_i h
    exact h ⟨ps, e⟩
theorem noT_of {H : Hp} {a : Addr} {o : HO} (e : H a = some o) (n : ∀ ps, o ≠ .tbl ps) : noT H a = some o := by
  unfold noT
  rw [if_neg]
  · exact e
  · rintro ⟨ps, z⟩
    rw [e] at z
    exact n ps (Option.some.inj z)
theorem nt_upd {F : Hp} {p : Addr} {o : HO} (h : ∀ a ps, F a ≠ some (.tbl ps)) (no : ∀ ps, o ≠ .tbl ps) : ∀ a ps, upd F p o a ≠ some (.tbl ps) := fun a ps z => by
  by_cases c : a = p
  · subst c
    rw [upd_same] at z
    exact no ps (Option.some.inj z)
  · rw [upd_ne c] at z
    exact h a ps z
structure Cels (F : Hp) (al : List Addr) (mu : Mu) (H : Hp) : Prop where
  ex : Ex F H
  nt : ∀ a ps, F a ≠ some (.tbl ps)
  tb : TbOk H
  len : al.length = mu.length
  nd : al.Nodup
  cel : ∀ (k : Nat) (a : Addr) (m : MC), al[k]? = some a → mu[k]? = some m → CelOk F H a m
structure Sim (F : Hp) (al : List Addr) (rho : Rho) (mu : Mu) (σ : L2.St) (H : Hp) : Prop extends Cels F al mu H where
  slen : rho.length = σ.length
  slot : ∀ (i : Nat) (x : DV), rho[i]? = some (some x) → ∃ v, σ[i]? = some (some v) ∧ RepV F al x v

/-- from one state to a later one -/
structure Ext (F : Hp) (al : List Addr) (H : Hp) (F' : Hp) (al' : List Addr) (H' : Hp) : Prop where
  ex : Ex F F'
  pf : al <+: al'
  nf : ∀ a, F' a ≠ none → F a ≠ none ∨ H a = none ∨ a ∈ al
  nc : ∀ a ∈ al', a ∈ al ∨ H a = none
  kp : ∀ a o, a ∉ al → H a = some o → (∀ ps, o ≠ .tbl ps) → H' a = some o
  dm : ∀ a, H a ≠ none → H' a ≠ none
theorem Ext.refl {F : Hp} {al : List Addr} {H : Hp} : Ext F al H F al H := ⟨Ex.refl F, List.prefix_refl _, fun _ h => .inl h, fun _ h => .inl h, fun _ _ _ h _ => h, fun _ h => h⟩
theorem none_back {o p : Option HO} (h : o ≠ none → p ≠ none) (e : p = none) : o = none := by
  cases o with
  | none => rfl
  | some x => exact absurd e (h (fun z => nomatch z))
theorem Ext.trans {F F1 F2 : Hp} {al al1 al2 : List Addr} {H H1 H2 : Hp} (a : Ext F al H F1 al1 H1) (b : Ext F1 al1 H1 F2 al2 H2) : Ext F al H F2 al2 H2 where
  ex := a.ex.trans b.ex
  pf := a.pf.trans b.pf
  nf := fun x h => by
    rcases b.nf x h with q | q | q
    · exact a.nf x q
    · exact .inr (.inl (none_back (a.dm x) q))
    · rcases a.nc x q with r | r
      · exact .inr (.inr r)
      · exact .inr (.inl r)
  nc := fun x h => by
    rcases b.nc x h with q | q
    · exact a.nc x q
    · exact .inr (none_back (a.dm x) q)
  kp := fun x o h e n => by
    by_cases hx : x ∈ al1
    · rcases a.nc x hx with q | q
      · exact absurd q h
      · rw [q] at e
        cases e
    · exact b.kp x o hx (a.kp x o h e n) n
  dm := fun x h => b.dm x (a.dm x h)
/-- a new frozen object -/
theorem Ext.new {F : Hp} {al : List Addr} {H : Hp} {p : Addr} {o : HO} (hp : H p = none) (e : Ex F H) : Ext F al H (upd F p o) al (upd H p o) where
  ex := Ex.new (by
    cases q : F p with
    | none => rfl
    | some u =>
      rw [e p u q] at hp
      cases hp)
  pf := List.prefix_refl _
  nf := fun a h => by
    by_cases c : a = p
    · subst c
      exact .inr (.inl hp)
    · rw [upd_ne c] at h
      exact .inl h
  nc := fun a h => .inl h
  kp := fun a u _ q _ => by rw [upd_ne (ne_of_none q hp)]; exact q
  dm := fun a h => by
    by_cases c : a = p
    · subst c
      rw [upd_same]
      exact fun z => nomatch z
    · rw [upd_ne c]
      exact h
/-- a new object that is neither frozen nor a cell (yet) -/
theorem Ext.loose {F : Hp} {al : List Addr} {H : Hp} {p : Addr} {o : HO} (hp : H p = none) : Ext F al H F al (upd H p o) where
  ex := Ex.refl F
  pf := List.prefix_refl _
  nf := fun a h => .inl h
  nc := fun a h => .inl h
  kp := fun a u _ q _ => by rw [upd_ne (ne_of_none q hp)]; exact q
  dm := fun a h => by
    by_cases c : a = p
    · subst c
      rw [upd_same]
      exact fun z => nomatch z
    · rw [upd_ne c]
      exact h
theorem ex_none {F H : Hp} (e : Ex F H) {p : Addr} (hp : H p = none) : F p = none := by
  cases q : F p with
  | none => rfl
  | some u =>
    rw [e p u q] at hp
    cases hp
theorem Cels.not_al {F : Hp} {al : List Addr} {mu : Mu} {H : Hp} (S : Cels F al mu H) {p : Addr} (hp : H p = none) : p ∉ al := fun h => by
  obtain ⟨k, hk, e⟩ := List.getElem_of_mem h
  have hm : k < mu.length := by rw [← S.len]; exact hk
  exact (S.cel k p mu[k] (by rw [List.getElem?_eq_getElem hk, e]) (List.getElem?_eq_getElem hm)).there hp
theorem Cels.newF {F : Hp} {al : List Addr} {mu : Mu} {H : Hp} {p : Addr} {o : HO} (S : Cels F al mu H) (hp : H p = none) (no : ∀ ps, o ≠ .tbl ps := by intro _ z; cases z) : Cels (upd F p o) al mu (upd H p o) where
  nt := nt_upd S.nt no
  ex := fun a u h => by
    by_cases c : a = p
    · subst c
      rw [upd_same] at h ⊢
      exact h
    · rw [upd_ne c] at h ⊢
      exact S.ex a u h
  tb := tabs_new S.tb hp
  len := S.len
  nd := S.nd
  cel := fun k a m h1 h2 => by
    have na : a ≠ p := fun z => by
      subst z
      exact S.not_al hp (List.mem_of_getElem? h1)
    exact (S.cel k a m h1 h2).mono (Ext.new (al := al) hp S.ex).ex (fun z => by rw [upd_ne na]; exact z) (upd_ne na)
theorem Cels.loose {F : Hp} {al : List Addr} {mu : Mu} {H : Hp} {p : Addr} {o : HO} (S : Cels F al mu H) (hp : H p = none) : Cels F al mu (upd H p o) where
  ex := fun a u h => by
    rw [upd_ne (ne_of_none (S.ex a u h) hp)]
    exact S.ex a u h
  nt := S.nt
  tb := tabs_new S.tb hp
  len := S.len
  nd := S.nd
  cel := fun k a m h1 h2 => by
    have na : a ≠ p := fun z => by
      subst z
      exact S.not_al hp (List.mem_of_getElem? h1)
    exact (S.cel k a m h1 h2).mono (Ex.refl F) (fun z => z) (upd_ne na)
theorem Sim.of {F F' : Hp} {al al' : List Addr} {rho : Rho} {mu mu' : Mu} {σ : L2.St} {H H' : Hp} (S : Sim F al rho mu σ H) (C : Cels F' al' mu' H') (e : Ex F F') (p : al <+: al') : Sim F' al' rho mu' σ H' where
  toCels := C
  slen := S.slen
  slot := fun i x h => by
    obtain ⟨v, q, r⟩ := S.slot i x h
    exact ⟨v, q, r.mono e p⟩
theorem Sim.newF {F : Hp} {al : List Addr} {rho : Rho} {mu : Mu} {σ : L2.St} {H : Hp} {p : Addr} {o : HO} (S : Sim F al rho mu σ H) (hp : H p = none) (no : ∀ ps, o ≠ .tbl ps) : Sim (upd F p o) al rho mu σ (upd H p o) :=
  S.of (S.toCels.newF hp no) (Ext.new (al := al) hp S.ex).ex (List.prefix_refl _)
theorem Sim.loose {F : Hp} {al : List Addr} {rho : Rho} {mu : Mu} {σ : L2.St} {H : Hp} {p : Addr} {o : HO} (S : Sim F al rho mu σ H) (hp : H p = none) : Sim F al rho mu σ (upd H p o) :=
  S.of (S.toCels.loose hp) (Ex.refl F) (List.prefix_refl _)
end Dx

namespace Dx
open PySem PySem.Spec PyProof.Rows L2
open Evl (Ex)
variable [Tb]

theorem rv_bl {F : Hp} {al : List Addr} {b : Bool} : RepV F al (.dat (.bl b)) (.bl b) := by
  show Rep F (.bl b) (.bl b)
  rw [Rep]
theorem rv_int {F : Hp} {al : List Addr} {b : Int} : RepV F al (.dat (.int b)) (.int b) := by
  show Rep F (.int b) (.int b)
  rw [Rep]
theorem rv_str {F : Hp} {al : List Addr} {b : List Nat} : RepV F al (.dat (.str b)) (.str (mkS b)) := by
  show Rep F (.str b) (.str (mkS b))
  rw [Rep]
  rfl
theorem rv_non {F : Hp} {al : List Addr} : RepV F al (.dat .non) .non := by
  show Rep F .non .non
  rw [Rep]
theorem rv_tup {F : Hp} {al : List Addr} {ds : List D} {vs : List V} {p : Addr} (h : F p = some (.tup vs)) (r : RepL F ds vs) : RepV F al (.dat (.tup ds)) (.ref p) := by
  show Rep F (.tup ds) (.ref p)
  rw [Rep]
  exact ⟨p, vs, rfl, h, r⟩
theorem rv_bl_out {F : Hp} {al : List Addr} {b : Bool} {v : V} (h : RepV F al (.dat (.bl b)) v) : v = .bl b := by
  have r : Rep F (.bl b) v := h
  rw [Rep] at r
  exact r
theorem rv_int_out {F : Hp} {al : List Addr} {b : Int} {v : V} (h : RepV F al (.dat (.int b)) v) : v = .int b := by
  have r : Rep F (.int b) v := h
  rw [Rep] at r
  exact r
theorem rv_str_out {F : Hp} {al : List Addr} {b : List Nat} {v : V} (h : RepV F al (.dat (.str b)) v) : v = .str (mkS b) := by
  have r : Rep F (.str b) v := h
  rw [Rep] at r
  exact r
theorem rv_non_out {F : Hp} {al : List Addr} {v : V} (h : RepV F al (.dat .non) v) : v = .non := by
  have r : Rep F .non v := h
  rw [Rep] at r
  exact r
theorem rv_lst_out {F : Hp} {al : List Addr} {ds : List D} {v : V} (h : RepV F al (.dat (.lst ds)) v) : ∃ p vs, v = .ref p ∧ F p = some (.lst vs) ∧ RepL F ds vs := by
  have r : Rep F (.lst ds) v := h
  rw [Rep] at r
  exact r
theorem rv_tup_out {F : Hp} {al : List Addr} {ds : List D} {v : V} (h : RepV F al (.dat (.tup ds)) v) : ∃ p vs, v = .ref p ∧ F p = some (.tup vs) ∧ RepL F ds vs := by
  have r : Rep F (.tup ds) v := h
  rw [Rep] at r
  exact r
/-! ### readings over data -/
abbrev DQ := DV → Mu → Prop
abbrev DE := Rho → Mu → DQ → Prop
abbrev DT := Rho → Mu → (Bool → Mu → Prop) → Prop
abbrev DA := Rho → Mu → (List DV → Mu → Prop) → Prop
abbrev DF := Rho → Mu → (MC → Mu → Prop) → Prop
/-- links: from what is wanted over data to what is wanted over the heap -/
def LK (F : Hp) (al : List Addr) (H : Hp) (Q : DQ) (R : VK) : Prop := ∀ F' al' z mu' v H', Ext F al H F' al' H' → Cels F' al' mu' H' → RepV F' al' z v → Q z mu' → R v H'
def LT (F : Hp) (al : List Addr) (H : Hp) (Q : Bool → Mu → Prop) (R : Bool → Hp → Prop) : Prop := ∀ F' al' b mu' H', Ext F al H F' al' H' → Cels F' al' mu' H' → Q b mu' → R b H'
inductive RepVs (F : Hp) (al : List Addr) : List DV → List V → Prop
  | nil : RepVs F al [] []
  | cons {x : DV} {v : V} {xs : List DV} {vs : List V} : RepV F al x v → RepVs F al xs vs → RepVs F al (x :: xs) (v :: vs)
theorem RepVs.mono {F F' : Hp} {al al' : List Addr} (e : Ex F F') (p : al <+: al') : ∀ {xs : List DV} {vs : List V}, RepVs F al xs vs → RepVs F' al' xs vs
  | _, _, .nil => .nil
  | _, _, .cons h t => .cons (h.mono e p) (RepVs.mono e p t)
theorem RepVs.len {F : Hp} {al : List Addr} : ∀ {xs : List DV} {vs : List V}, RepVs F al xs vs → vs.length = xs.length
  | _, _, .nil => rfl
  | _, _, .cons h t => by rw [List.length_cons, List.length_cons, RepVs.len t]
def LA (F : Hp) (al : List Addr) (H : Hp) (Q : List DV → Mu → Prop) (R : List V → Hp → Prop) : Prop := ∀ F' al' zs mu' vs H', Ext F al H F' al' H' → Cels F' al' mu' H' → RepVs F' al' zs vs → Q zs mu' → R vs H'
def LF (F : Hp) (al : List Addr) (H : Hp) (Q : MC → Mu → Prop) (R : VK) : Prop := ∀ F' al' m mu' p H', Ext F al H F' al' H' → Cels F' al' mu' H' → p ∉ al' → H p = none → isDead m = false → CelOk F' H' p m → Q m mu' → R (.ref p) H'
section
variable {F F1 : Hp} {al al1 : List Addr} {H H1 : Hp}
theorem LK.trans {Q : DQ} {R : VK} (l : LK F al H Q R) (E : Ext F al H F1 al1 H1) : LK F1 al1 H1 Q R := fun F' al' z mu' v H' E' => l F' al' z mu' v H' (E.trans E')
theorem LT.trans {Q : Bool → Mu → Prop} {R : Bool → Hp → Prop} (l : LT F al H Q R) (E : Ext F al H F1 al1 H1) : LT F1 al1 H1 Q R := fun F' al' z mu' H' E' => l F' al' z mu' H' (E.trans E')
theorem LA.trans {Q : List DV → Mu → Prop} {R : List V → Hp → Prop} (l : LA F al H Q R) (E : Ext F al H F1 al1 H1) : LA F1 al1 H1 Q R := fun F' al' z mu' v H' E' => l F' al' z mu' v H' (E.trans E')
theorem LF.trans {Q : MC → Mu → Prop} {R : VK} (l : LF F al H Q R) (E : Ext F al H F1 al1 H1) : LF F1 al1 H1 Q R := fun F' al' m mu' p H' E' C n hp => l F' al' m mu' p H' (E.trans E') C n (none_back (E.dm p) hp)
end
def GE (te : TE) (t : DE) : Prop := ∀ F al rho mu σ H Q R, Sim F al rho mu σ H → t rho mu Q → LK F al H Q R → te σ H R
def GT (te : TT) (t : DT) : Prop := ∀ F al rho mu σ H Q R, Sim F al rho mu σ H → t rho mu Q → LT F al H Q R → te σ H R
def GA (te : TA) (t : DA) : Prop := ∀ F al rho mu σ H Q R, Sim F al rho mu σ H → t rho mu Q → LA F al H Q R → te σ H R
def GF (te : TE) (t : DF) : Prop := ∀ F al rho mu σ H Q R, Sim F al rho mu σ H → t rho mu Q → LF F al H Q R → te σ H R
structure CE (X : Cx) (e : Expr) (t : DE) : Prop where
  ok : ∃ te, PE X e te ∧ GE te t
structure CT (X : Cx) (e : Expr) (t : DT) : Prop where
  ok : ∃ te, PT X e te ∧ GT te t
structure CA (X : Cx) (es : List Expr) (t : DA) : Prop where
  ok : ∃ te, PA X es te ∧ GA te t
structure CF (X : Cx) (e : Expr) (t : DF) : Prop where
  ok : ∃ te, PE X e te ∧ GF te t

/-! ### freezing -/
theorem CelOk.frzN {F H : Hp} {p : Addr} {m : MC} (h : CelOk F H p m) (l : isDead m = false) {o : HO} (e : H p = some o) : ∀ ps, o ≠ .tbl ps := by
  obtain ⟨o', e', pl⟩ := h.plain l
  rw [e] at e'
  cases e'
  exact pl.1
theorem CelOk.frz {F H : Hp} {p : Addr} {m : MC} (h : CelOk F H p m) (l : isDead m = false) : ∃ o, H p = some o ∧ ∀ F', Ex F F' → F' p = some o → Rep F' m.toD (.ref p) := by
  cases m with
  | dead => cases l
  | lst ds =>
    obtain ⟨_, vs, q, r⟩ := h
    exact ⟨_, q, fun F' e z => by rw [MC.toD, Rep]; exact ⟨p, vs, rfl, z, r.mono e⟩⟩
  | own b ds =>
    obtain ⟨_, _, vs, q, r⟩ := h
    exact ⟨_, q, fun F' e z => by rw [MC.toD, Rep]; exact ⟨p, vs, rfl, z, r.mono e⟩⟩
  | dk ks ds =>
    obtain ⟨_, vs, q, w, r⟩ := h
    exact ⟨_, q, fun F' e z => by rw [MC.toD, Rep]; exact ⟨p, vs, rfl, z, w, r.mono e⟩⟩
  | dt w ks ds =>
    obtain ⟨_, us, vs, ep, q, l, rk, r⟩ := h
    exact ⟨_, q, fun F' e z => by rw [MC.toD, Rep]; exact ⟨p, us, vs, ep, rfl, z, l, rk.mono e, r.mono e⟩⟩
  | ins C ns ds =>
    obtain ⟨_, dx, vs, q, l, r⟩ := h
    exact ⟨_, q, fun F' e z => by rw [MC.toD, Rep]; exact ⟨p, vs, rfl, ⟨dx, z⟩, l, r.mono e⟩⟩
  | ownK b ks ds =>
    obtain ⟨_, _, vs, q, w, r⟩ := h
    exact ⟨_, q, fun F' e z => by rw [MC.toD, Rep]; exact ⟨p, vs, rfl, z, w, r.mono e⟩⟩
/-- an object beside the cells is frozen -/
theorem Cels.frz {F H : Hp} {al : List Addr} {mu : Mu} {p : Addr} {o : HO} (C : Cels F al mu H) (hp : H p = some o) (hn : F p = none) (na : p ∉ al) (no : ∀ ps, o ≠ .tbl ps) : Cels (upd F p o) al mu H where
  nt := nt_upd C.nt no
  ex := fun a u h => by
    by_cases c : a = p
    · subst c
      rw [upd_same] at h
      cases h
      exact hp
    · rw [upd_ne c] at h
      exact C.ex a u h
  tb := C.tb
  len := C.len
  nd := C.nd
  cel := fun k a m h1 h2 => by
    have ne : a ≠ p := fun z => by
      subst z
      exact na (List.mem_of_getElem? h1)
    refine (C.cel k a m h1 h2).mono (fun b u q => ?_) (fun z => by rw [upd_ne ne]; exact z) rfl
    rw [upd_ne (ne_of_none q hn)]
    exact q
theorem ex_upd {F : Hp} {p : Addr} {o : HO} (hn : F p = none) : Ex F (upd F p o) := fun a u h => by
  rw [upd_ne (ne_of_none h hn)]
  exact h
theorem Ext.frz {F F' H H' : Hp} {al al' : List Addr} {p : Addr} {o : HO} (E : Ext F al H F' al' H') (hn : F' p = none) (h0 : H p = none) : Ext F al H (upd F' p o) al' H' where
  ex := E.ex.trans (ex_upd hn)
  pf := E.pf
  nf := fun a h => by
    by_cases c : a = p
    · subst c
      exact .inr (.inl h0)
    · rw [upd_ne c] at h
      exact E.nf a h
  nc := E.nc
  kp := E.kp
  dm := E.dm
/-- what is fresh as data -/
def dFrz (t : DF) : DE := fun rho mu Q => t rho mu fun m mu' => Q (.dat m.toD) mu'
/-- what is fresh as a new cell -/
def dNew (t : DF) : DE := fun rho mu Q => t rho mu fun m mu' => Q (.cel mu'.length) (mu' ++ [m])
theorem ge_frz {te : TE} {t : DF} (h : GF te t) : GE te (dFrz t) := fun F al rho mu σ H Q R S q l =>
  h F al rho mu σ H _ R S q fun F' al' m mu' p H' E C na h0 dd ok q' => by
    obtain ⟨o, ho, rep⟩ := ok.frz dd
    have hn := ok.un dd
    exact l _ al' (.dat m.toD) mu' (.ref p) H' (E.frz hn h0) (C.frz ho hn na (ok.frzN dd ho)) (rep _ (ex_upd hn) upd_same) q'
theorem Cels.grow {F H : Hp} {al : List Addr} {mu : Mu} {p : Addr} {m : MC} (C : Cels F al mu H) (ok : CelOk F H p m) (na : p ∉ al) : Cels F (al ++ [p]) (mu ++ [m]) H where
  ex := C.ex
  nt := C.nt
  tb := C.tb
  len := by rw [List.length_append, List.length_append, C.len]; rfl
  nd := by
    rw [List.nodup_append]
    exact ⟨C.nd, by simp, fun a ha b hb => by
      rw [List.mem_singleton] at hb
      subst hb
      exact fun z => na (z ▸ ha)⟩
  cel := fun k a m' h1 h2 => by
    by_cases hk : k < al.length
    · rw [List.getElem?_append_left hk] at h1
      rw [List.getElem?_append_left (by rw [← C.len]; exact hk)] at h2
      exact C.cel k a m' h1 h2
    · rw [List.getElem?_append_right (by omega)] at h1
      rw [List.getElem?_append_right (by rw [← C.len]; omega)] at h2
      by_cases hz : k = al.length
      · subst hz
        rw [Nat.sub_self] at h1
        rw [C.len, Nat.sub_self] at h2
        cases h1
        cases h2
        exact ok
      · rw [List.getElem?_eq_none (by rw [List.length_singleton]; omega)] at h1
        cases h1
theorem ge_new {te : TE} {t : DF} (h : GF te t) : GE te (dNew t) := fun F al rho mu σ H Q R S q l =>
  h F al rho mu σ H _ R S q fun F' al' m mu' p H' E C na h0 dd ok q' => by
    have E2 : Ext F al H F' (al' ++ [p]) H' := ⟨E.ex, E.pf.trans (List.prefix_append _ _), E.nf, fun a ha => by
      rcases List.mem_append.mp ha with z | z
      · exact E.nc a z
      · rw [List.mem_singleton] at z
        subst z
        exact .inr h0, E.kp, E.dm⟩
    exact l F' (al' ++ [p]) (.cel mu'.length) (mu' ++ [m]) (.ref p) H' E2 (C.grow ok na) ⟨p, by rw [List.getElem?_append_right (by rw [C.len]; exact Nat.le_refl _), C.len, Nat.sub_self]; rfl, rfl⟩ q'
section
variable {X : Cx} {e a b : Expr} {ta tb : DE} {pos : Pos}
theorem ce_frz {t : DF} (h : CF X e t) : CE X e (dFrz t) := let ⟨te, p, g⟩ := h.ok; ⟨te, p, ge_frz g⟩
theorem ce_new {t : DF} (h : CF X e t) : CE X e (dNew t) := let ⟨te, p, g⟩ := h.ok; ⟨te, p, ge_new g⟩

/-! ### names, constants -/
def slotD : Rho → Nat → Option DV
  | [], _ => none
  | x :: _, 0 => x
  | _ :: r, n + 1 => slotD r n
theorem slotD_at : ∀ {rho : Rho} {i : Nat} {x : DV}, slotD rho i = some x → rho[i]? = some (some x)
  | [], i, x, h => by cases i <;> cases h
  | y :: r, 0, x, h => by
    have e : y = some x := h
    rw [e]
    rfl
  | y :: r, n + 1, x, h => by
    have e : slotD r n = some x := h
    have q := slotD_at e
    rw [List.getElem?_cons_succ]
    exact q
def dVar (i : Nat) : DE := fun rho mu Q => match slotD rho i with
  | some x => Q x mu
  | none => False
theorem ge_var {i : Nat} : GE (tVar i) (dVar i) := fun F al rho mu σ H Q R S q l => by
  unfold dVar at q
  cases h : slotD rho i with
  | none =>
    rw [h] at q
    exact q.elim
  | some x =>
    rw [h] at q
    obtain ⟨v, e, r⟩ := S.slot i x (slotD_at h)
    exact ⟨v, e, l F al x mu v H Ext.refl S.toCels r q⟩
theorem cv (i : Nat) {x : Str} (hN : X.N[i]? = some x := by rfl) (hv : Vis X.env.scope x := by first | exact Or.inl rfl | exact Or.inr (Or.inl rfl) | exact Or.inr (Or.inr rfl)) (hd : (x == ("__debug__" : Str)) = false := by decide)
    (hcd : (x == ("__classdict__" : Str)) = false := by decide) : CE X (.Name x pos) (dVar i) := ⟨_, pe_var hN hv hd hcd, ge_var⟩
def dC (d : D) : DE := fun _ mu Q => Q (.dat d) mu
theorem ge_c {d : D} {v : V} (h : ∀ F, Rep F d v) : GE (tC v) (dC d) := fun F al rho mu σ H Q R S q l => l F al (.dat d) mu v H Ext.refl S.toCels (h F) q
theorem ce_int {i j pos} : CE X (.Constant (.int i) j pos) (dC (.int i)) := ⟨_, pe_int, ge_c fun F => by rw [Rep]⟩
theorem ce_bl {b j pos} : CE X (.Constant (.bool b) j pos) (dC (.bl b)) := ⟨_, pe_bl, ge_c fun F => by rw [Rep]⟩
theorem ce_non {j pos} : CE X (.Constant .none j pos) (dC .non) := ⟨_, pe_non, ge_c fun F => by rw [Rep]⟩
theorem ce_str {x j pos} : CE X (.Constant (.str x) j pos) (dC (.str x.cps.toList)) := ⟨_, pe_str, ge_c fun F => by rw [Rep]⟩
theorem ce_globS {x : Str} {s : Str} {t : Tok} {pos : Pos} (hg : Gl X x) (hm : X.mg x = some (.str s t)) (hd : (x == ("__debug__" : Str)) = false := by decide) : CE X (.Name x pos) (dC (.str s.cps.toList)) := ⟨_, pe_glob (v := .str s) hg hm ⟨t, rfl⟩ hd, ge_c fun F => by rw [Rep]⟩

/-! ### operators by values -/
abbrev D2 := DV → DV → Mu → DQ → Prop
structure OpD (X : Cx) (f : Value → Value → Sem Value) (t : D2) : Prop where
  ok : ∃ r, OpR X f r ∧ ∀ F al mu H x y v u Q R, Cels F al mu H → RepV F al x v → RepV F al y u → t x y mu Q → LK F al H Q R → r v u H R
def dOp (t : D2) (ta tb : DE) : DE := fun rho mu Q => ta rho mu fun x mu1 => tb rho mu1 fun y mu2 => t x y mu2 Q
theorem ge_op {te ue : TE} {r : R2} {t : D2} (ga : GE te ta) (gb : GE ue tb) (hr : ∀ F al mu H x y v u Q R, Cels F al mu H → RepV F al x v → RepV F al y u → t x y mu Q → LK F al H Q R → r v u H R) : GE (tOp r te ue) (dOp t ta tb) :=
  fun F al rho mu σ H Q R S q l => ga F al rho mu σ H _ _ S q fun F1 al1 x mu1 v H1 E1 C1 r1 q1 =>
    gb F1 al1 rho mu1 σ H1 _ _ (S.of C1 E1.ex E1.pf) q1 fun F2 al2 y mu2 u H2 E2 C2 r2 q2 => hr F2 al2 mu2 H2 x y v u Q R C2 (r1.mono E2.ex E2.pf) r2 q2 ((l.trans E1).trans E2)
theorem ce_op {op : Operator} {t : D2} (ho : OpD X (binaryOp op) t) (ha : CE X a ta) (hb : CE X b tb) : CE X (.BinOp a op b pos) (dOp t ta tb) :=
  let ⟨_, r, g⟩ := ho.ok; let ⟨_, pa, ga⟩ := ha.ok; let ⟨_, pb, gb⟩ := hb.ok; ⟨_, pe_op r pa pb, ge_op ga gb g⟩
theorem ce_cmp {op : CmpOp} {t : D2} (ho : OpD X (compareOp op) t) (ha : CE X a ta) (hb : CE X b tb) (hm : behindInMarks op b = false := by first | exact nomark _ | rfl) : CE X (.Compare a [op] [b] pos) (dOp t ta tb) :=
  let ⟨_, r, g⟩ := ho.ok; let ⟨_, pa, ga⟩ := ha.ok; let ⟨_, pb, gb⟩ := hb.ok; ⟨_, pe_cmpR r pa pb hm, ge_op ga gb g⟩
/-- a value as a test -/
def onB (Q : Bool → Mu → Prop) : DQ := fun z mu => match z with
  | .dat (.bl b) => Q b mu
  | _ => False
def dTest (t : DE) : DT := fun rho mu Q => t rho mu (onB Q)
theorem onB_out {F : Hp} {al : List Addr} {Q : Bool → Mu → Prop} {z : DV} {mu : Mu} {v : V} (q : onB Q z mu) (r : RepV F al z v) : ∃ b, v = .bl b ∧ Q b mu := by
  cases z with
  | cel k => exact q.elim
  | dat d =>
    cases d with
    | bl b => exact ⟨b, rv_bl_out r, q⟩
    | _ => exact q.elim
theorem gt_test {te : TE} {t : DE} (g : GE te t) : GT (tTest te) (dTest t) := fun F al rho mu σ H Q R S q l =>
  g F al rho mu σ H _ _ S q fun F1 al1 z mu1 v H1 E1 C1 r1 q1 => by
    obtain ⟨b, e, q2⟩ := onB_out q1 r1
    exact ⟨b, e, l F1 al1 b mu1 H1 E1 C1 q2⟩
theorem ct_cmp {op : CmpOp} {t : D2} (ho : OpD X (compareOp op) t) (ha : CE X a ta) (hb : CE X b tb) (hm : behindInMarks op b = false := by first | exact nomark _ | rfl) : CT X (.Compare a [op] [b] pos) (dTest (dOp t ta tb)) :=
  let ⟨_, r, g⟩ := ho.ok; let ⟨_, pa, ga⟩ := ha.ok; let ⟨_, pb, gb⟩ := hb.ok; ⟨_, pt_cmpR r pa pb hm, gt_test (ge_op ga gb g)⟩
theorem ct_val {t : DE} (h : CE X e t) (he : ∀ whole, isTrue e X.env whole = (do let v ← whole; standAt e.pos; holding [v] (truthy v)) := by intro _; rfl) : CT X e (dTest t) :=
  let ⟨_, p, g⟩ := h.ok; ⟨_, pt_val p he, gt_test g⟩
def dNot (t : DT) : DT := fun rho mu Q => t rho mu fun b mu1 => Q (!b) mu1
theorem ct_not {t : DT} (h : CT X a t) : CT X (.UnaryOp .Not a pos) (dNot t) := by
  obtain ⟨_, p, g⟩ := h.ok
  exact ⟨_, pt_not p, fun F al rho mu σ H Q R S q l => g F al rho mu σ H _ _ S q fun F1 al1 b mu1 H1 E1 C1 q1 => l F1 al1 (!b) mu1 H1 E1 C1 q1⟩
def dAnd (t u : DT) : DT := fun rho mu Q => t rho mu fun b mu1 => if b = true then u rho mu1 Q else Q false mu1
def dOr (t u : DT) : DT := fun rho mu Q => t rho mu fun b mu1 => if b = true then Q true mu1 else u rho mu1 Q
structure CW (X : Cx) (e : Expr) (t : DT) : Prop where
  ok : ∃ te, PW X e te ∧ GT te t
theorem ct_w {t : DT} (h : CW X e t) : CT X e t := let ⟨_, p, g⟩ := h.ok; ⟨_, p.pt, g⟩
theorem gt_and {te ue : TT} {t u : DT} (g1 : GT te t) (g2 : GT ue u) : GT (tAnd te ue) (dAnd t u) := fun F al rho mu σ H Q R S q l =>
  g1 F al rho mu σ H _ _ S q fun F1 al1 b mu1 H1 E1 C1 q1 => by
    cases b with
    | true => exact g2 F1 al1 rho mu1 σ H1 Q R (S.of C1 E1.ex E1.pf) q1 (l.trans E1)
    | false => exact l F1 al1 false mu1 H1 E1 C1 q1
theorem gt_or {te ue : TT} {t u : DT} (g1 : GT te t) (g2 : GT ue u) : GT (tOr te ue) (dOr t u) := fun F al rho mu σ H Q R S q l =>
  g1 F al rho mu σ H _ _ S q fun F1 al1 b mu1 H1 E1 C1 q1 => by
    cases b with
    | false => exact g2 F1 al1 rho mu1 σ H1 Q R (S.of C1 E1.ex E1.pf) q1 (l.trans E1)
    | true => exact l F1 al1 true mu1 H1 E1 C1 q1
variable {rest : List Expr} {t u : DT}
theorem cw_and1 (h : CT X a t) : CW X (.BoolOp .And [a] pos) t := let ⟨_, p, g⟩ := h.ok; ⟨_, pw_and1 p, g⟩
theorem cw_or1 (h : CT X a t) : CW X (.BoolOp .Or [a] pos) t := let ⟨_, p, g⟩ := h.ok; ⟨_, pw_or1 p, g⟩
theorem cw_and (h : CT X a t) (h2 : CW X (.BoolOp .And (b :: rest) pos) u) : CW X (.BoolOp .And (a :: b :: rest) pos) (dAnd t u) := let ⟨_, p, g⟩ := h.ok; let ⟨_, p2, g2⟩ := h2.ok; ⟨_, pw_and p p2, gt_and g g2⟩
theorem cw_or (h : CT X a t) (h2 : CW X (.BoolOp .Or (b :: rest) pos) u) : CW X (.BoolOp .Or (a :: b :: rest) pos) (dOr t u) := let ⟨_, p, g⟩ := h.ok; let ⟨_, p2, g2⟩ := h2.ok; ⟨_, pw_or p p2, gt_or g g2⟩
/-- and, or, not of truths as values -/
def dAndV (ta tb : DE) : DE := fun rho mu Q => ta rho mu (onB fun b mu1 => if b = true then tb rho mu1 Q else Q (.dat (.bl false)) mu1)
def dOrV (ta tb : DE) : DE := fun rho mu Q => ta rho mu (onB fun b mu1 => if b = true then Q (.dat (.bl true)) mu1 else tb rho mu1 Q)
theorem ce_one {op} {t : DE} (h : CE X a t) : CE X (.BoolOp op [a] pos) t := let ⟨_, p, g⟩ := h.ok; ⟨_, pe_one p, g⟩
theorem ce_and (ha : CE X a ta) (hb : CE X (.BoolOp .And (b :: rest) pos) tb) : CE X (.BoolOp .And (a :: b :: rest) pos) (dAndV ta tb) := by
  obtain ⟨_, p, g⟩ := ha.ok
  obtain ⟨_, p2, g2⟩ := hb.ok
  refine ⟨_, pe_and p p2, fun F al rho mu σ H Q R S q l => g F al rho mu σ H _ _ S q fun F1 al1 z mu1 v H1 E1 C1 r1 q1 => ?_⟩
  obtain ⟨c, e, q2⟩ := onB_out q1 r1
  refine ⟨c, e, ?_⟩
  cases c with
  | true => exact g2 F1 al1 rho mu1 σ H1 Q R (S.of C1 E1.ex E1.pf) q2 (l.trans E1)
  | false => exact l F1 al1 _ mu1 _ H1 E1 C1 rv_bl q2
theorem ce_or (ha : CE X a ta) (hb : CE X (.BoolOp .Or (b :: rest) pos) tb) : CE X (.BoolOp .Or (a :: b :: rest) pos) (dOrV ta tb) := by
  obtain ⟨_, p, g⟩ := ha.ok
  obtain ⟨_, p2, g2⟩ := hb.ok
  refine ⟨_, pe_or p p2, fun F al rho mu σ H Q R S q l => g F al rho mu σ H _ _ S q fun F1 al1 z mu1 v H1 E1 C1 r1 q1 => ?_⟩
  obtain ⟨c, e, q2⟩ := onB_out q1 r1
  refine ⟨c, e, ?_⟩
  cases c with
  | false => exact g2 F1 al1 rho mu1 σ H1 Q R (S.of C1 E1.ex E1.pf) q2 (l.trans E1)
  | true => exact l F1 al1 _ mu1 _ H1 E1 C1 rv_bl q2
/-! ### arguments, displays -/
def aNil : DA := fun _ mu Q => Q [] mu
def aCons (t : DE) (r : DA) : DA := fun rho mu Q => t rho mu fun x mu1 => r rho mu1 fun xs mu2 => Q (x :: xs) mu2
theorem ca_nil : CA X [] aNil := ⟨_, pa_nil, fun F al rho mu σ H Q R S q l => l F al [] mu [] H Ext.refl S.toCels .nil q⟩
theorem ca_cons {es : List Expr} {t : DE} {r : DA} (h : CE X e t) (hr : CA X es r) (hs : starEach (e :: es) X.env = (false, eval e X.env) :: starEach es X.env := by rfl) : CA X (e :: es) (aCons t r) := by
  obtain ⟨_, p, g⟩ := h.ok
  obtain ⟨_, pr, gr⟩ := hr.ok
  exact ⟨_, pa_cons p pr hs, fun F al rho mu σ H Q R S q l => g F al rho mu σ H _ _ S q fun F1 al1 x mu1 v H1 E1 C1 r1 q1 =>
    gr F1 al1 rho mu1 σ H1 _ _ (S.of C1 E1.ex E1.pf) q1 fun F2 al2 xs mu2 vs H2 E2 C2 r2 q2 => l F2 al2 (x :: xs) mu2 (v :: vs) H2 (E1.trans E2) C2 (.cons (r1.mono E2.ex E2.pf) r2) q2⟩
/-- all are data -/
def dats : List DV → Option (List D)
  | [] => some []
  | .dat d :: r => (dats r).map (d :: ·)
  | .cel _ :: _ => none
theorem RepVs.dats {F : Hp} {al : List Addr} : ∀ {xs : List DV} {vs : List V} {ds : List D}, RepVs F al xs vs → dats xs = some ds → RepL F ds vs
  | _, _, ds, .nil, e => by
    cases e
    exact RepL.nil
  | .dat d :: r, _, ds, .cons h t, e => by
    have e' : (Dx.dats r).map (d :: ·) = some ds := e
    cases q : Dx.dats r with
    | none =>
      rw [q] at e'
      cases e'
    | some es =>
      rw [q] at e'
      cases e'
      exact RepL.cons h (RepVs.dats t q)
  | .cel _ :: _, _, ds, .cons h t, e => by cases e
def onDs (xs : List DV) (k : List D → Prop) : Prop := match dats xs with
  | some ds => k ds
  | none => False
theorem onDs_out {xs : List DV} {k : List D → Prop} (h : onDs xs k) : ∃ ds, dats xs = some ds ∧ k ds := by
  unfold onDs at h
  cases q : dats xs with
  | none =>
    rw [q] at h
    exact h.elim
  | some ds =>
    rw [q] at h
    exact ⟨ds, rfl, h⟩
def dTup (t : DA) : DE := fun rho mu Q => t rho mu fun xs mu1 => onDs xs fun ds => ds.length ≤ 1000 ∧ Q (.dat (.tup ds)) mu1
def fLst (t : DA) : DF := fun rho mu Q => t rho mu fun xs mu1 => onDs xs fun ds => ds.length ≤ 1000 ∧ Q (.lst ds) mu1
theorem line_of {n : Nat} (h : n ≤ 1000) : n ≤ sizeLine := Nat.le_of_lt (small1000 h)
theorem ce_tup {es : List Expr} {x1} {t : DA} (h : CA X es t) : CE X (.Tuple es x1 pos) (dTup t) := by
  obtain ⟨_, p, g⟩ := h.ok
  refine ⟨_, pe_tup p, fun F al rho mu σ H Q R S q l => g F al rho mu σ H _ _ S q fun F1 al1 xs mu1 vs H1 E1 C1 r1 q1 => ?_⟩
  obtain ⟨ds, e, hl, q2⟩ := onDs_out q1
  have rl := r1.dats e
  refine ⟨by rw [rl.len]; exact line_of hl, fun p hp => ?_⟩
  exact l _ al1 _ mu1 _ _ (E1.trans (Ext.new hp C1.ex)) (C1.newF hp) (rv_tup upd_same (rl.mono (ex_upd (ex_none C1.ex hp)))) q2
theorem cf_lst {es : List Expr} {t : DA} (h : CA X es t) : CF X (.List es pos) (fLst t) := by
  obtain ⟨_, p, g⟩ := h.ok
  refine ⟨_, pe_lst p, fun F al rho mu σ H Q R S q l => g F al rho mu σ H _ _ S q fun F1 al1 xs mu1 vs H1 E1 C1 r1 q1 => ?_⟩
  obtain ⟨ds, e, hl, q2⟩ := onDs_out q1
  have rl := r1.dats e
  refine ⟨by rw [rl.len]; exact line_of hl, fun p hp => ?_⟩
  exact l F1 al1 (.lst ds) mu1 p _ (E1.trans (Ext.loose hp)) (C1.loose hp) (C1.not_al hp) (none_back (E1.dm p) hp) rfl ⟨ex_none C1.ex hp, vs, upd_same, rl⟩ q2
end
end Dx

namespace Dx
open PySem PySem.Spec PyProof.Rows L2
open Evl (Ex)
variable [Tb]

/-! ### what is read as a row: data or a cell -/
/-- the cell at a told address -/
def ownIx (a : Addr) : Mu → Option (Nat × List D)
  | [] => none
  | .own b xs :: r => if b = a then some (0, xs) else (ownIx a r).map fun p => (p.1 + 1, p.2)
  | _ :: r => (ownIx a r).map fun p => (p.1 + 1, p.2)
theorem ownIx_at {a : Addr} : ∀ {mu : Mu} {k : Nat} {xs : List D}, ownIx a mu = some (k, xs) → mu[k]? = some (.own a xs)
  | [], k, xs, h => by cases h
  | m :: r, k, xs, h => by
    have go : (ownIx a r).map (fun p => (p.1 + 1, p.2)) = some (k, xs) → (m :: r)[k]? = some (.own a xs) := fun h => by
      cases e : ownIx a r with
      | none => rw [e] at h; cases h
      | some p =>
        rw [e] at h
        obtain ⟨p1, p2⟩ := p
        cases h
        rw [List.getElem?_cons_succ]
        exact ownIx_at e
    cases m with
    | own b ys =>
      have h : (if b = a then some (0, ys) else (ownIx a r).map fun p => (p.1 + 1, p.2)) = some (k, xs) := h
      by_cases c : b = a
      · rw [if_pos c] at h
        cases h
        rw [c]
        rfl
      · rw [if_neg c] at h
        exact go h
    | dead => exact go h
    | lst _ => exact go h
    | dk _ _ => exact go h
    | dt _ _ _ => exact go h
    | ins _ _ _ => exact go h
    | ownK _ _ _ => exact go h
def seqL (mu : Mu) : DV → Option (List D)
  | .dat (.lst ds) => some ds
  | .dat (.adr a) => (ownIx a mu).map (·.2)
  | .cel k => match mu[k]? with
    | some (.lst ds) => some ds
    | _ => none
  | _ => none
theorem seqL_out {F H : Hp} {al : List Addr} {mu : Mu} {x : DV} {v : V} {ds : List D} (C : Cels F al mu H) (r : RepV F al x v) (h : seqL mu x = some ds) : ∃ p vs, v = .ref p ∧ H p = some (.lst vs) ∧ RepL F ds vs := by
  cases x with
  | dat d =>
    cases d with
    | lst es =>
      have e : es = ds := Option.some.inj h
      subst e
      obtain ⟨p, vs, e, q, l⟩ := rv_lst_out r
      exact ⟨p, vs, e, C.ex _ _ q, l⟩
    | adr a =>
      have h : (ownIx a mu).map (·.2) = some ds := h
      cases e : ownIx a mu with
      | none => rw [e] at h; cases h
      | some p =>
        rw [e] at h
        obtain ⟨k, xs⟩ := p
        cases h
        have hm := ownIx_at e
        have hk := (List.getElem?_eq_some_iff.mp hm).1
        have ha := List.getElem?_eq_getElem (l := al) (i := k) (by rw [C.len]; exact hk)
        obtain ⟨e1, _, vs, z, l⟩ := C.cel k _ _ ha hm
        have r1 : Rep F (.adr a) v := r
        rw [Rep] at r1
        rw [e1] at z
        exact ⟨a, vs, r1, z, l⟩
    | _ => cases h
  | cel k =>
    obtain ⟨a, ha, e⟩ := r
    have h' : (match mu[k]? with
      | some (.lst ds) => some ds
      | _ => none) = some ds := h
    cases q : mu[k]? with
    | none =>
      rw [q] at h'
      cases h'
    | some m =>
      rw [q] at h'
      cases m with
      | lst es =>
        have e2 : es = ds := Option.some.inj h'
        subst e2
        obtain ⟨_, vs, z, l⟩ := C.cel k a _ ha q
        exact ⟨a, vs, e, z, l⟩
      | _ => cases h'
def seqT : DV → Option (List D)
  | .dat (.tup ds) => some ds
  | _ => none
theorem seqT_out {F H : Hp} {al : List Addr} {mu : Mu} {x : DV} {v : V} {ds : List D} (C : Cels F al mu H) (r : RepV F al x v) (h : seqT x = some ds) : ∃ p vs, v = .ref p ∧ F p = some (.tup vs) ∧ H p = some (.tup vs) ∧ RepL F ds vs := by
  cases x with
  | dat d =>
    cases d with
    | tup es =>
      have e : es = ds := Option.some.inj h
      subst e
      obtain ⟨p, vs, e, q, l⟩ := rv_tup_out r
      exact ⟨p, vs, e, q, C.ex _ _ q, l⟩
    | _ => cases h
  | cel k => cases h
/-- option, as a wish -/
def onSome {α : Type} (o : Option α) (k : α → Prop) : Prop := match o with
  | some a => k a
  | none => False
theorem onSome_out {α : Type} {o : Option α} {k : α → Prop} (h : onSome o k) : ∃ a, o = some a ∧ k a := by
  cases o with
  | none => exact h.elim
  | some a => exact ⟨a, rfl, h⟩
/-! ### ints -/
def onI (x : DV) (k : Int → Prop) : Prop := match x with
  | .dat (.int i) => k i
  | _ => False
def onS (x : DV) (k : List Nat → Prop) : Prop := match x with
  | .dat (.str s) => k s
  | _ => False
theorem onI_out {F : Hp} {al : List Addr} {x : DV} {v : V} {k : Int → Prop} (h : onI x k) (r : RepV F al x v) : ∃ i, x = .dat (.int i) ∧ v = .int i ∧ k i := by
  cases x with
  | cel _ => exact h.elim
  | dat d =>
    cases d with
    | int i => exact ⟨i, rfl, rv_int_out r, h⟩
    | _ => exact h.elim
theorem onS_out {F : Hp} {al : List Addr} {x : DV} {v : V} {k : List Nat → Prop} (h : onS x k) (r : RepV F al x v) : ∃ i, x = .dat (.str i) ∧ v = .str (mkS i) ∧ k i := by
  cases x with
  | cel _ => exact h.elim
  | dat d =>
    cases d with
    | str i => exact ⟨i, rfl, rv_str_out r, h⟩
    | _ => exact h.elim
/-- two ints, a bound, an int -/
def dII (C : Int → Int → Prop) (g : Int → Int → D) : D2 := fun x y mu Q => onI x fun i => onI y fun j => C i j ∧ Q (.dat (g i j)) mu
def dI2 (g : Int → Int → D) : D2 := fun x y mu Q => onI x fun i => onI y fun j => Q (.dat (g i j)) mu
section
variable {X : Cx} {f : Value → Value → Sem Value} {e a b : Expr} {ta tb : DE} {pos : Pos}
theorem od_II {C : Int → Int → Prop} {g : Int → Int → D} {gv : Int → Int → V} (hg : ∀ F i j, Rep F (g i j) (gv i j)) (h : OpR X f (rI C gv)) : OpD X f (dII C g) :=
  ⟨_, h, fun F al mu H x y v u Q R c rx ry q l => by
    obtain ⟨i, e1, e2, q⟩ := onI_out q rx
    obtain ⟨j, e3, e4, q⟩ := onI_out q ry
    exact ⟨i, j, e2, e4, q.1, l F al (.dat (g i j)) mu _ H Ext.refl c (hg F i j) q.2⟩⟩
theorem od_I2 {g : Int → Int → D} {gv : Int → Int → V} (hg : ∀ F i j, Rep F (g i j) (gv i j)) (h : OpR X f (rI0 gv)) : OpD X f (dI2 g) :=
  ⟨_, h, fun F al mu H x y v u Q R c rx ry q l => by
    obtain ⟨i, e1, e2, q⟩ := onI_out q rx
    obtain ⟨j, e3, e4, q⟩ := onI_out q ry
    exact ⟨i, j, e2, e4, l F al (.dat (g i j)) mu _ H Ext.refl c (hg F i j) q⟩⟩
theorem rI' {F : Hp} {i : Int} : Rep F (.int i) (.int i) := by rw [Rep]
theorem rB' {F : Hp} {i : Bool} : Rep F (.bl i) (.bl i) := by rw [Rep]
theorem oSub : OpD X (binaryOp .Sub) (dI2 fun i j => .int (i - j)) := od_I2 (fun F i j => rI') op_sub
theorem oFdiv : OpD X (binaryOp .FloorDiv) (dII CDiv fun i j => .int (i / j)) := od_II (fun F i j => rI') op_fdiv
theorem oMod : OpD X (binaryOp .Mod) (dII (fun _ j => 0 < j) fun i j => .int (i % j)) := od_II (fun F i j => rI') op_mod
theorem oPow : OpD X (binaryOp .Pow) (dII CPow fun i j => .int (i ^ j.toNat)) := od_II (fun F i j => rI') op_pow

/-- or, of rules by values -/
theorem OpD.or {t u : D2} (h : OpD X f t) (h' : OpD X f u) : OpD X f (fun x y mu Q => t x y mu Q ∨ u x y mu Q) := by
  obtain ⟨r, p, g⟩ := h.ok
  obtain ⟨r', p', g'⟩ := h'.ok
  exact ⟨_, p.or p', fun F al mu H x y v u Q R c rx ry q l => q.elim (fun q => .inl (g F al mu H x y v u Q R c rx ry q l)) fun q => .inr (g' F al mu H x y v u Q R c rx ry q l)⟩
theorem OpD.imp {t u : D2} (h : OpD X f t) (k : ∀ x y mu Q, u x y mu Q → t x y mu Q) : OpD X f u := by
  obtain ⟨r, p, g⟩ := h.ok
  exact ⟨r, p, fun F al mu H x y v w Q R c rx ry q l => g F al mu H x y v w Q R c rx ry (k _ _ _ _ q) l⟩
/-- two texts -/
def dSS (g : List Nat → List Nat → D) : D2 := fun x y mu Q => onS x fun i => onS y fun j => Q (.dat (g i j)) mu
theorem mkS_len (l : List Nat) : (mkS l).length = l.length := by
  show l.toArray.size = l.length
  exact List.size_toArray
theorem mkS_app (a b : List Nat) : mkS a ++ mkS b = mkS (a ++ b) := by
  apply TL.ext_tl
  rw [TL.tl_append]
  rfl
theorem mkS_inj {a b : List Nat} (h : mkS a = mkS b) : a = b := by
  have e : (mkS a).cps.toList = (mkS b).cps.toList := by rw [h]
  exact e
theorem op_add_str' : OpD X (binaryOp .Add) (fun x y mu Q => onS x fun i => onS y fun j => i.length + j.length ≤ 1000000 ∧ Q (.dat (.str (i ++ j))) mu) :=
  ⟨_, op_add_str, fun F al mu H x y v u Q R c rx ry q l => by
    obtain ⟨i, e1, e2, q⟩ := onS_out q rx
    obtain ⟨j, e3, e4, q⟩ := onS_out q ry
    refine ⟨mkS i, mkS j, e2, e4, by rw [mkS_len, mkS_len]; exact szM_of q.1, ?_⟩
    rw [mkS_app]
    exact l F al _ mu _ H Ext.refl c rv_str q.2⟩
theorem op_add_tup' : OpD X (binaryOp .Add) (fun x y mu Q => onSome (seqT x) fun xs => onSome (seqT y) fun ys => xs ≠ [] ∧ ys ≠ [] ∧ xs.length + ys.length ≤ 1000 ∧ Q (.dat (.tup (xs ++ ys))) mu) :=
  ⟨_, op_catT, fun F al mu H x y v u Q R c rx ry q l => by
    obtain ⟨xs, e1, q⟩ := onSome_out q
    obtain ⟨ys, e2, q⟩ := onSome_out q
    obtain ⟨p, vs, ev, _, hp, rl⟩ := seqT_out c rx e1
    obtain ⟨p', vs', ev', _, hp', rl'⟩ := seqT_out c ry e2
    refine ⟨p, p', vs, vs', ev, ev', .inl (.inl hp), .inl (.inl hp'), ?_, by rw [rl.len, rl'.len]; exact line_of q.2.2.1, ?_, ?_⟩
    · intro z
      have w := rl.len
      rw [z] at w
      exact q.1 (List.eq_nil_of_length_eq_zero w.symm)
    · intro z
      have w := rl'.len
      rw [z] at w
      exact absurd (List.eq_nil_of_length_eq_zero w.symm) q.2.1
    · intro _ n hn
      exact l _ al _ mu _ _ (Ext.new hn c.ex) (c.newF hn) (rv_tup upd_same ((rl.app rl').mono (ex_upd (ex_none c.ex hn)))) q.2.2.2⟩
/-- a + b: ints, texts, tuples -/
def dAdd : D2 := fun x y mu Q => match x, y with
  | .dat (.int i), .dat (.int j) => Q (.dat (.int (i + j))) mu
  | .dat (.str i), .dat (.str j) => i.length + j.length ≤ 1000000 ∧ Q (.dat (.str (i ++ j))) mu
  | .dat (.tup xs), .dat (.tup ys) => xs ≠ [] ∧ ys ≠ [] ∧ xs.length + ys.length ≤ 1000 ∧ Q (.dat (.tup (xs ++ ys))) mu
  | _, _ => False
theorem oAdd : OpD X (binaryOp .Add) dAdd := by
  have h1 : OpD X (binaryOp .Add) (dI2 fun i j => .int (i + j)) := od_I2 (fun F i j => rI') op_add
  refine (h1.or (op_add_str'.or op_add_tup')).imp fun x y mu Q q => ?_
  unfold dAdd at q
  split at q
  · exact .inl q
  · exact .inr (.inl q)
  · exact .inr (.inr q)
  · exact q.elim
/-- a * b: ints (one below 2^64), a text n times -/
theorem fold_rep (s : List Nat) : ∀ (n : Nat) (acc : List Nat), ((List.replicate n s.toArray).foldl (fun x1 x2 => x1 ++ x2) acc.toArray).toList = acc ++ (List.replicate n s).flatten
  | 0, acc => by simp
  | n + 1, acc => by
    rw [List.replicate_succ, List.foldl_cons]
    have e : acc.toArray ++ s.toArray = (acc ++ s).toArray := by simp
    rw [e, fold_rep s n (acc ++ s), List.replicate_succ, List.flatten_cons, List.append_assoc]
theorem repS_len (s : List Nat) (n : Nat) : (List.replicate n s).flatten.length = n * s.length := by
  induction n with
  | zero => simp
  | succ n ih => rw [List.replicate_succ, List.flatten_cons, List.length_append, ih, Nat.succ_mul, Nat.add_comm]
theorem op_mul_str' : OpD X (binaryOp .Mult) (fun x y mu Q => onS x fun s => onI y fun n => 0 ≤ n ∧ n ≤ 1000 ∧ s.length ≤ 1000 ∧ Q (.dat (.str (List.replicate n.toNat s).flatten)) mu) := by
  refine ⟨fun x y H Q => ∃ s n, x = .str (mkS s) ∧ y = .int n ∧ 0 ≤ n ∧ n ≤ 1000 ∧ s.length ≤ 1000 ∧ Q (.str (mkS (List.replicate n.toNat s).flatten)) H, ?_, ?_⟩
  · intro pins s σ H x y v u Q I r1 r2 h
    obtain ⟨z, n, e1, e2, h0, h1, h2, q⟩ := h
    subst e1
    subst e2
    obtain ⟨t, rfl⟩ := r1
    obtain ⟨t', rfl⟩ := r2
    have hl : (mkS z).length = z.length := mkS_len z
    have hz : z.length * n.toNat ≤ 1000 * 1000 := Nat.mul_le_mul h2 (by omega)
    refine P.mul_str (by rw [decide_eq_false (by omega), decide_eq_false (by omega)]; rfl) ?_ ?_ ?_
    · intro hn _ hb
      rw [hl] at hb
      have h4 : (1000 : Int) ≤ (2 ^ 63 - 1) / n := by
        rw [Int.le_ediv_iff_mul_le (by omega)]
        have : (1000 : Int) * n ≤ 1000 * 1000 := by omega
        omega
      omega
    · intro _ _
      rw [hl]
      exact decide_eq_false (fun c => by
        have : (sizeLine : Nat) > 1000 * 1000 := by decide
        omega)
    · by_cases hn : n < 1
      · rw [if_pos hn]
        have e0 : n.toNat = 0 := by omega
        rw [e0] at q
        exact ⟨by decide, .str (mkS []), H, I.tok _, ⟨_, rfl⟩, q⟩
      · rw [if_neg hn]
        by_cases hc : (n == 1 || (mkS z).length == 0) = true
        · rw [if_pos hc]
          refine ⟨.str (mkS z), H, I, ⟨_, rfl⟩, ?_⟩
          have ez : (List.replicate n.toNat z).flatten = z := by
            rcases Bool.or_eq_true_iff.mp hc with c | c
            · have e1 : n = 1 := by simpa using c
              subst e1
              simp
            · have e1 : z.length = 0 := by
                rw [← hl]
                simpa using c
              rw [List.eq_nil_of_length_eq_zero e1]
              simp
          rw [ez] at q
          exact q
        · rw [if_neg hc]
          have e3 : (⟨(List.replicate n.toNat (mkS z).cps).foldl (· ++ ·) #[]⟩ : Str) = mkS (List.replicate n.toNat z).flatten := by
            apply TL.ext_tl
            have w := fold_rep z n.toNat []
            rw [List.nil_append] at w
            exact w
          rw [e3]
          refine ⟨?_, .str _, H, I.tok _, ⟨_, rfl⟩, q⟩
          rw [mkS_len, repS_len]
          have : (sizeLine : Nat) > 1000 * 1000 := by decide
          have : n.toNat * z.length = z.length * n.toNat := Nat.mul_comm _ _
          omega
  · intro F al mu H x y v u Q R c rx ry q l
    obtain ⟨i, e1, e2, q⟩ := onS_out q rx
    obtain ⟨j, e3, e4, q⟩ := onI_out q ry
    exact ⟨i, j, e2, e4, q.1, q.2.1, q.2.2.1, l F al _ mu _ H Ext.refl c rv_str q.2.2.2⟩
def dMul : D2 := fun x y mu Q => match x, y with
  | .dat (.int i), .dat (.int j) => CMul i j ∧ Q (.dat (.int (i * j))) mu
  | .dat (.str s), .dat (.int n) => 0 ≤ n ∧ n ≤ 1000 ∧ s.length ≤ 1000 ∧ Q (.dat (.str (List.replicate n.toNat s).flatten)) mu
  | _, _ => False
theorem oMul : OpD X (binaryOp .Mult) dMul := by
  have h1 : OpD X (binaryOp .Mult) (dII CMul fun i j => .int (i * j)) := od_II (fun F i j => rI') op_mul
  refine (h1.or op_mul_str').imp fun x y mu Q q => ?_
  unfold dMul at q
  split at q
  · exact .inl q
  · exact .inr q
  · exact q.elim

def dLt : D2 := fun x y mu Q => match x, y with
  | .dat (.int i), .dat (.int j) => Q (.dat (.bl (decide (i < j)))) mu
  | .dat (.str i), .dat (.str j) => Q (.dat (.bl (decide (i < j)))) mu
  | _, _ => False
def dLe : D2 := fun x y mu Q => match x, y with
  | .dat (.int i), .dat (.int j) => Q (.dat (.bl (decide (i ≤ j)))) mu
  | .dat (.str i), .dat (.str j) => Q (.dat (.bl (!decide (j < i)))) mu
  | _, _ => False
def dGt : D2 := fun x y mu Q => match x, y with
  | .dat (.int i), .dat (.int j) => Q (.dat (.bl (decide (j < i)))) mu
  | .dat (.str i), .dat (.str j) => Q (.dat (.bl (decide (j < i)))) mu
  | _, _ => False
def dGe : D2 := fun x y mu Q => match x, y with
  | .dat (.int i), .dat (.int j) => Q (.dat (.bl (decide (j ≤ i)))) mu
  | .dat (.str i), .dat (.str j) => Q (.dat (.bl (!decide (i < j)))) mu
  | _, _ => False
theorem od_S2 {g : List Nat → List Nat → Bool} (h : OpR X f (fun x y H Q => ∃ i j, x = .str i ∧ y = .str j ∧ Q (.bl (g i.cps.toList j.cps.toList)) H)) : OpD X f (dSS fun i j => .bl (g i j)) :=
  ⟨_, h, fun F al mu H x y v u Q R c rx ry q l => by
    obtain ⟨i, e1, e2, q⟩ := onS_out q rx
    obtain ⟨j, e3, e4, q⟩ := onS_out q ry
    exact ⟨mkS i, mkS j, e2, e4, l F al _ mu _ H Ext.refl c rv_bl q⟩⟩
theorem oLt : OpD X (compareOp .Lt) dLt := by
  have h1 : OpD X (compareOp .Lt) (dI2 fun i j => .bl (decide (i < j))) := od_I2 (fun F i j => rB') op_lt
  refine (h1.or (od_S2 (g := fun i j => decide (i < j)) op_lt_str)).imp fun x y mu Q q => ?_
  unfold dLt at q
  split at q
  · exact .inl q
  · exact .inr q
  · exact q.elim
theorem oLe : OpD X (compareOp .LtE) dLe := by
  have h1 : OpD X (compareOp .LtE) (dI2 fun i j => .bl (decide (i ≤ j))) := od_I2 (fun F i j => rB') op_le
  refine (h1.or (od_S2 (g := fun i j => !decide (j < i)) op_le_str)).imp fun x y mu Q q => ?_
  unfold dLe at q
  split at q
  · exact .inl q
  · exact .inr q
  · exact q.elim
theorem oGt : OpD X (compareOp .Gt) dGt := by
  have h1 : OpD X (compareOp .Gt) (dI2 fun i j => .bl (decide (j < i))) := od_I2 (fun F i j => rB') op_gt
  refine (h1.or (od_S2 (g := fun i j => decide (j < i)) op_gt_str)).imp fun x y mu Q q => ?_
  unfold dGt at q
  split at q
  · exact .inl q
  · exact .inr q
  · exact q.elim
theorem oGe : OpD X (compareOp .GtE) dGe := by
  have h1 : OpD X (compareOp .GtE) (dI2 fun i j => .bl (decide (j ≤ i))) := od_I2 (fun F i j => rB') op_ge
  refine (h1.or (od_S2 (g := fun i j => !decide (i < j)) op_ge_str)).imp fun x y mu Q q => ?_
  unfold dGe at q
  split at q
  · exact .inl q
  · exact .inr q
  · exact q.elim

/-! ### equality of data -/
mutual
def toPy : D → PyData
  | .non => .none
  | .bl b => .bool b
  | .int i => .int i
  | .str s => .str (mkS s)
  | .lst ds => .list (toPys ds)
  | .tup ds => .tuple (toPys ds)
  | .dk _ _ => .dict []
  | .dt _ _ _ => .dict []
  | .adr _ => .dict []
  | .scr _ _ => .dict []
  | .ob _ _ _ _ => .dict []
def toPys : List D → List PyData
  | [] => []
  | d :: r => toPy d :: toPys r
end
mutual
/-- data that may be compared: texts of signs, no dicts, and how deep -/
def okD : Nat → D → Bool
  | _, .non => true
  | _, .bl _ => true
  | _, .int _ => true
  | _, .str s => s.all (· < 0x110000)
  | 0, .lst _ => false
  | 0, .tup _ => false
  | n + 1, .lst ds => okDs n ds
  | n + 1, .tup ds => okDs n ds
  | _, .dk _ _ => false
  | _, .dt _ _ _ => false
  | _, .adr _ => false
  | _, .scr _ _ => false
  | _, .ob _ _ _ _ => false
def okDs : Nat → List D → Bool
  | _, [] => true
  | n, d :: r => okD n d && okDs n r
end
mutual
theorem okD_dp {K : PySem.W.Frag} {F H : Hp} (e : Ex F H) : ∀ (n : Nat) (d : D) (v : V), okD n d = true → Rep F d v → Dp K H v (toPy d)
  | _, .non, v, _, r => by rw [Rep] at r; subst r; exact .non
  | _, .bl b, v, _, r => by rw [Rep] at r; subst r; exact .bl b
  | _, .int b, v, _, r => by rw [Rep] at r; subst r; exact .int b
  | _, .str b, v, _, r => by rw [Rep] at r; subst r; exact .str _
  | 0, .lst ds, v, h, r => by rw [okD] at h; cases h
  | 0, .tup ds, v, h, r => by rw [okD] at h; cases h
  | n + 1, .lst ds, v, h, r => by
    rw [okD] at h
    rw [Rep] at r
    obtain ⟨a, vs, e1, q, l⟩ := r
    subst e1
    exact .lst (.inl (.inl (e _ _ q))) (okDs_dp e n ds vs h l)
  | n + 1, .tup ds, v, h, r => by
    rw [okD] at h
    rw [Rep] at r
    obtain ⟨a, vs, e1, q, l⟩ := r
    subst e1
    exact .tup (.inl (.inl (e _ _ q))) (okDs_dp e n ds vs h l)
  | _, .dk _ _, v, h, r => by rw [okD] at h; cases h
  | _, .dt _ _ _, v, h, r => by rw [okD] at h; cases h
  | _, .adr _, v, h, r => by rw [okD] at h; cases h
  | _, .scr _ _, v, h, r => by rw [okD] at h; cases h
  | _, .ob _ _ _ _, v, h, r => by rw [okD] at h; cases h
theorem okDs_dp {K : PySem.W.Frag} {F H : Hp} (e : Ex F H) : ∀ (n : Nat) (ds : List D) (vs : List V), okDs n ds = true → RepL F ds vs → DpAll K H vs (toPys ds)
  | _, [], vs, _, r => by rw [r.unnil]; exact .nil
  | n, d :: ds, vs, h, r => by
    rw [okDs, Bool.and_eq_true_iff] at h
    obtain ⟨v, w, q, a, b⟩ := r.uncons
    subst q
    exact .cons (okD_dp e n d v h.1 a) (okDs_dp e n ds w h.2 b)
end
mutual
theorem okD_lay : ∀ (n : Nat) (d : D), okD n d = true → (toPy d).canLay0 = true ∧ (toPy d).depth ≤ n
  | _, .non, _ => ⟨rfl, by simp [toPy, PyData.depth]⟩
  | _, .bl b, _ => ⟨rfl, by simp [toPy, PyData.depth]⟩
  | _, .int b, _ => ⟨rfl, by simp [toPy, PyData.depth]⟩
  | _, .str b, h => by
    rw [okD] at h
    refine ⟨?_, by simp [toPy, PyData.depth]⟩
    show PyData.strOk (mkS b) = true
    unfold PyData.strOk mkS
    simpa using h
  | 0, .lst ds, h => by rw [okD] at h; cases h
  | 0, .tup ds, h => by rw [okD] at h; cases h
  | n + 1, .lst ds, h => by
    rw [okD] at h
    obtain ⟨a, b⟩ := okDs_lay n ds h
    rw [toPy]
    refine ⟨by rw [PyData.canLay0]; exact a, by rw [PyData.depth]; omega⟩
  | n + 1, .tup ds, h => by
    rw [okD] at h
    obtain ⟨a, b⟩ := okDs_lay n ds h
    rw [toPy]
    refine ⟨by rw [PyData.canLay0]; exact a, by rw [PyData.depth]; omega⟩
  | _, .dk _ _, h => by rw [okD] at h; cases h
  | _, .dt _ _ _, h => by rw [okD] at h; cases h
  | _, .adr _, h => by rw [okD] at h; cases h
  | _, .scr _ _, h => by rw [okD] at h; cases h
  | _, .ob _ _ _ _, h => by rw [okD] at h; cases h
theorem okDs_lay : ∀ (n : Nat) (ds : List D), okDs n ds = true → PyData.canLayAll0 (toPys ds) = true ∧ PyData.depthAll (toPys ds) ≤ n
  | _, [], _ => ⟨rfl, by simp [toPys, PyData.depthAll]⟩
  | n, d :: ds, h => by
    rw [okDs, Bool.and_eq_true_iff] at h
    obtain ⟨a, b⟩ := okD_lay n d h.1
    obtain ⟨a', b'⟩ := okDs_lay n ds h.2
    rw [toPys]
    refine ⟨by rw [PyData.canLayAll0, a, a']; rfl, by rw [PyData.depthAll]; omega⟩
end
theorem okD_shaped {n : Nat} {d : D} (h : okD n d = true) (hn : n ≤ 64) : SeqAt.shaped (toPy d) = true := by
  obtain ⟨a, b⟩ := okD_lay n d h
  unfold SeqAt.shaped
  rw [a, decide_eq_true (Nat.le_trans b hn)]
  rfl
/-- a == b of data (a list of the one may be a cell) -/
def rdD (mu : Mu) : DV → Option D
  | .dat d => some d
  | .cel k => match mu[k]? with
    | some (.lst ds) => some (.lst ds)
    | _ => none
theorem rdD_dp {K : PySem.W.Frag} {F H : Hp} {al : List Addr} {mu : Mu} {x : DV} {v : V} {d : D} (C : Cels F al mu H) (r : RepV F al x v) (h : rdD mu x = some d) (ok : okD 60 d = true) : Dp K H v (toPy d) := by
  cases x with
  | dat d' =>
    have e : d' = d := Option.some.inj h
    subst e
    exact okD_dp C.ex 60 d' v ok r
  | cel k =>
    obtain ⟨a, ha, e⟩ := r
    have h' : (match mu[k]? with
      | some (.lst ds) => some (D.lst ds)
      | _ => none) = some d := h
    cases q : mu[k]? with
    | none =>
      rw [q] at h'
      cases h'
    | some m =>
      rw [q] at h'
      cases m with
      | lst es =>
        have e2 : D.lst es = d := Option.some.inj h'
        subst e2
        obtain ⟨_, vs, z, l⟩ := C.cel k a _ ha q
        subst e
        rw [okD] at ok
        rw [toPy]
        exact .lst (.inl (.inl z)) (okDs_dp C.ex 59 es vs ok l)
      | _ => cases h'
def eqD (d e : D) : Bool := PyData.eqv (toPy d) (toPy e)
def dEq : D2 := fun x y mu Q => onSome (rdD mu x) fun d => onSome (rdD mu y) fun e => okD 60 d = true ∧ okD 60 e = true ∧ Q (.dat (.bl (eqD d e))) mu
def dNe : D2 := fun x y mu Q => onSome (rdD mu x) fun d => onSome (rdD mu y) fun e => okD 60 d = true ∧ okD 60 e = true ∧ Q (.dat (.bl (!eqD d e))) mu
theorem oEq (hu : X.A.units + 64 < cLine) : OpD X (compareOp .Eq) dEq := ⟨_, op_eqD hu, fun F al mu H x y v u Q R c rx ry q l => by
  obtain ⟨d, e1, q⟩ := onSome_out q
  obtain ⟨e, e2, o1, o2, q⟩ := onSome_out q
  exact ⟨toPy d, toPy e, rdD_dp c rx e1 o1, rdD_dp c ry e2 o2, okD_shaped o1 (by decide), okD_shaped o2 (by decide), l F al _ mu _ H Ext.refl c rv_bl q⟩⟩
theorem oNe (hu : X.A.units + 64 < cLine) : OpD X (compareOp .NotEq) dNe := ⟨_, op_neD hu, fun F al mu H x y v u Q R c rx ry q l => by
  obtain ⟨d, e1, q⟩ := onSome_out q
  obtain ⟨e, e2, o1, o2, q⟩ := onSome_out q
  exact ⟨toPy d, toPy e, rdD_dp c rx e1 o1, rdD_dp c ry e2 o2, okD_shaped o1 (by decide), okD_shaped o2 (by decide), l F al _ mu _ H Ext.refl c rv_bl q⟩⟩
end
end Dx

namespace Dx
open PySem PySem.Spec PyProof.Rows L2
open Evl (Ex)
variable [Tb]

theorem RepL.atI {F : Hp} {ds : List D} {vs : List V} {i : Int} {d : D} (h : RepL F ds vs) (e : L2.atI ds i = some d) : ∃ v, L2.atI vs i = some v ∧ Rep F d v := by
  unfold L2.atI at e ⊢
  rw [h.len]
  cases q : L2.ixN ds.length i with
  | none =>
    rw [q] at e
    cases e
  | some j =>
    rw [q] at e
    exact h.get (i := j) e

/-! ### subscripts -/
structure IxD (X : Cx) (t : D2) : Prop where
  ok : ∃ r, IxR X r ∧ ∀ F al mu H x y v u Q R, Cels F al mu H → RepV F al x v → RepV F al y u → t x y mu Q → LK F al H Q R → r v u H R
section
variable {X : Cx} {f : Value} {e a b : Expr} {es : List Expr} {ta tb : DE} {pos : Pos}
theorem ce_ix {t : D2} (ho : IxD X t) (ha : CE X a ta) (hb : CE X b tb) (hs : PlainIx b := by exact fun _ _ => rfl) : CE X (.Subscript a b pos) (dOp t ta tb) :=
  let ⟨_, r, g⟩ := ho.ok; let ⟨_, pa, ga⟩ := ha.ok; let ⟨_, pb, gb⟩ := hb.ok; ⟨_, pe_ix r pa pb hs, ge_op ga gb g⟩
def dIx : D2 := fun x y mu Q => onI y fun i => match x with
  | .dat (.str s) => s.length ≤ 1000000 ∧ onSome (L2.atI s i) fun c => Q (.dat (.str [c])) mu
  | .dat (.tup ds) => onSome (L2.atI ds i) fun d => Q (.dat d) mu
  | z => onSome (seqL mu z) fun ds => onSome (L2.atI ds i) fun d => Q (.dat d) mu
theorem ixAll : IxD X dIx := ⟨_, ix_seq, fun F al mu H x y v u Q R c rx ry q l => by
  obtain ⟨i, e1, e2, q⟩ := onI_out q ry
  subst e2
  have lst : (onSome (seqL mu x) fun ds => onSome (L2.atI ds i) fun d => Q (.dat d) mu) → rIx X.K v (.int i) H R := fun q => by
    obtain ⟨ds, h1, q⟩ := onSome_out q
    obtain ⟨d, h2, q⟩ := onSome_out q
    obtain ⟨p, vs, ev, hp, rl⟩ := seqL_out c rx h1
    obtain ⟨w, h3, rw'⟩ := rl.atI h2
    exact .inl ⟨p, vs, i, w, ev, rfl, .inl (.inl hp), h3, l F al (.dat d) mu w H Ext.refl c rw' q⟩
  cases x with
  | cel k => exact lst q
  | dat d =>
    cases d with
    | str s =>
      obtain ⟨hl, q⟩ := q
      obtain ⟨w, h2, q⟩ := onSome_out q
      have ev := rv_str_out rx
      exact .inr (.inr ⟨mkS s, i, w, ev, rfl, by rw [mkS_len]; exact szM_of hl, h2, l F al (.dat (.str [w])) mu _ H Ext.refl c rv_str q⟩)
    | tup ds =>
      obtain ⟨d, h2, q⟩ := onSome_out q
      obtain ⟨p, vs, ev, hp, rl⟩ := rv_tup_out rx
      obtain ⟨w, h3, rw'⟩ := rl.atI h2
      exact .inr (.inl ⟨p, vs, i, w, ev, rfl, .inl (.inl (c.ex _ _ hp)), h3, l F al (.dat d) mu w H Ext.refl c rw' q⟩)
    | lst ds => exact lst q
    | _ => exact lst q⟩
theorem cix (ha : CE X a ta) (hb : CE X b tb) (hs : PlainIx b := by exact fun _ _ => rfl) : CE X (.Subscript a b pos) (dOp dIx ta tb) := ce_ix ixAll ha hb hs

/-! ### slices -/
abbrev DO := Rho → Mu → (Option Int → Mu → Prop) → Prop
def LO (F : Hp) (al : List Addr) (H : Hp) (Q : Option Int → Mu → Prop) (R : Option Int → Hp → Prop) : Prop := ∀ F' al' z mu' H', Ext F al H F' al' H' → Cels F' al' mu' H' → Q z mu' → R z H'
structure CO (X : Cx) (e : Option Expr) (t : DO) : Prop where
  ok : ∃ te, PO X e te ∧ ∀ F al rho mu σ H Q R, Sim F al rho mu σ H → t rho mu Q → LO F al H Q R → te σ H R
def oNone : DO := fun _ mu Q => Q none mu
def oSome (t : DE) : DO := fun rho mu Q => t rho mu fun x mu1 => onI x fun i => Q (some i) mu1
theorem co_none : CO X none oNone := ⟨_, po_none, fun F al rho mu σ H Q R S q l => l F al none mu H Ext.refl S.toCels q⟩
theorem co_some (h : CE X e ta) : CO X (some e) (oSome ta) := by
  obtain ⟨_, p, g⟩ := h.ok
  refine ⟨_, po_some p, fun F al rho mu σ H Q R S q l => g F al rho mu σ H _ _ S q fun F1 al1 x mu1 v H1 E1 C1 r1 q1 => ?_⟩
  obtain ⟨i, e1, e2, q⟩ := onI_out q1 r1
  exact ⟨i, e2, l F1 al1 (some i) mu1 H1 E1 C1 q⟩
def cut {α : Type} (s : List α) (lo hi : Option Int) : List α := (s.drop (HT.sIx s.length 0 lo)).take (HT.sIx s.length s.length hi - HT.sIx s.length 0 lo)
abbrev D3 := DV → Option Int → Option Int → Mu → DQ → Prop
def dSl (t : D3) (te : DE) (tl th : DO) : DE := fun rho mu Q => te rho mu fun x mu1 => tl rho mu1 fun lo mu2 => th rho mu2 fun hi mu3 => t x lo hi mu3 Q
theorem cut_len {α : Type} (s : List α) (lo hi : Option Int) : (cut s lo hi).length ≤ s.length := by
  unfold cut
  rw [List.length_take, List.length_drop]
  omega
/-- a cut of a text, of a tuple (never the whole) -/
def dCut : D3 := fun x lo hi mu Q => match x with
  | .dat (.str s) => s.length ≤ 1000000 ∧ Q (.dat (.str (cut s lo hi))) mu
  | .dat (.tup ds) => ¬ (HT.sIx ds.length 0 lo = 0 ∧ HT.sIx ds.length ds.length hi = ds.length) ∧ Q (.dat (.tup (cut ds lo hi))) mu
  | _ => False
theorem RepL.cut {F : Hp} {ds : List D} {vs : List V} (h : RepL F ds vs) (lo hi : Option Int) : RepL F (Dx.cut ds lo hi) (cutV vs lo hi) := by
  unfold Dx.cut cutV
  rw [h.len]
  exact (h.drop _).take _
theorem cutS_eq (s : List Nat) (lo hi : Option Int) : cutS (mkS s) lo hi = mkS (cut s lo hi) := by
  unfold cutS cut
  rw [mkS_len]
  rfl
theorem ce_cut {p2 : Pos} {lo hi : Option Expr} {tl th : DO} (he : CE X e ta) (hl : CO X lo tl) (hh : CO X hi th) : CE X (.Subscript e (.Slice lo hi none p2) pos) (dSl dCut ta tl th) := by
  obtain ⟨_, p, g⟩ := he.ok
  obtain ⟨_, pl, gl⟩ := hl.ok
  obtain ⟨_, ph, gh⟩ := hh.ok
  refine ⟨_, pe_slice (sl_str.or sl_tup) p pl ph, fun F al rho mu σ H Q R S q l => g F al rho mu σ H _ _ S q fun F1 al1 x mu1 v H1 E1 C1 r1 q1 => ?_⟩
  refine gl F1 al1 rho mu1 σ H1 _ _ (S.of C1 E1.ex E1.pf) q1 fun F2 al2 lo mu2 H2 E2 C2 q2 => ?_
  refine gh F2 al2 rho mu2 σ H2 _ _ (S.of C2 (E1.ex.trans E2.ex) (E1.pf.trans E2.pf)) q2 fun F3 al3 hi mu3 H3 E3 C3 q3 => ?_
  have r3 := (r1.mono E2.ex E2.pf).mono E3.ex E3.pf
  have l3 := ((l.trans E1).trans E2).trans E3
  cases x with
  | cel _ => exact q3.elim
  | dat d =>
    cases d with
    | str s =>
      refine .inl ⟨mkS s, rv_str_out r3, by rw [mkS_len]; exact szM_of q3.1, ?_⟩
      rw [cutS_eq]
      exact l3 F3 al3 _ mu3 _ H3 Ext.refl C3 rv_str q3.2
    | tup ds =>
      obtain ⟨p, vs, ev, hp, rl⟩ := rv_tup_out r3
      refine .inr ⟨p, vs, ev, .inl (.inl (C3.ex _ _ hp)), by rw [rl.len]; exact q3.1, fun n hn => ?_⟩
      exact l3 _ al3 _ mu3 _ _ (Ext.new hn C3.ex) (C3.newF hn) (rv_tup upd_same ((rl.cut lo hi).mono (ex_upd (ex_none C3.ex hn)))) q3.2
    | _ => exact q3.elim
/-- a cut of a list: a new list -/
def fSl (te : DE) (tl th : DO) : DF := fun rho mu Q => te rho mu fun x mu1 => tl rho mu1 fun lo mu2 => th rho mu2 fun hi mu3 => onSome (seqL mu3 x) fun ds => Q (.lst (cut ds lo hi)) mu3
theorem cf_cut {p2 : Pos} {lo hi : Option Expr} {tl th : DO} (he : CE X e ta) (hl : CO X lo tl) (hh : CO X hi th) : CF X (.Subscript e (.Slice lo hi none p2) pos) (fSl ta tl th) := by
  obtain ⟨_, p, g⟩ := he.ok
  obtain ⟨_, pl, gl⟩ := hl.ok
  obtain ⟨_, ph, gh⟩ := hh.ok
  refine ⟨_, pe_slice sl_list p pl ph, fun F al rho mu σ H Q R S q l => g F al rho mu σ H _ _ S q fun F1 al1 x mu1 v H1 E1 C1 r1 q1 => ?_⟩
  refine gl F1 al1 rho mu1 σ H1 _ _ (S.of C1 E1.ex E1.pf) q1 fun F2 al2 lo mu2 H2 E2 C2 q2 => ?_
  refine gh F2 al2 rho mu2 σ H2 _ _ (S.of C2 (E1.ex.trans E2.ex) (E1.pf.trans E2.pf)) q2 fun F3 al3 hi mu3 H3 E3 C3 q3 => ?_
  have r3 := (r1.mono E2.ex E2.pf).mono E3.ex E3.pf
  have E := (E1.trans E2).trans E3
  obtain ⟨ds, h1, q4⟩ := onSome_out q3
  obtain ⟨p, vs, ev, hp, rl⟩ := seqL_out C3 r3 h1
  refine ⟨p, vs, ev, .inl (.inl hp), fun n hn => ?_⟩
  exact l F3 al3 (.lst (cut ds lo hi)) mu3 n _ (E.trans (Ext.loose hn)) (C3.loose hn) (C3.not_al hn) (none_back (E.dm n) hn) rfl ⟨ex_none C3.ex hn, _, upd_same, rl.cut lo hi⟩ q4

/-! ### built-ins by their names -/
abbrev DCall := List DV → Mu → DQ → Prop
abbrev DCallF := List DV → Mu → (MC → Mu → Prop) → Prop
structure CallD (X : Cx) (f : Value) (t : DCall) : Prop where
  ok : ∃ r, CallR X f r ∧ ∀ F al mu H xs vs Q R, Cels F al mu H → RepVs F al xs vs → t xs mu Q → LK F al H Q R → r vs H R
structure CallF (X : Cx) (f : Value) (t : DCallF) : Prop where
  ok : ∃ r, CallR X f r ∧ ∀ F al mu H xs vs Q R, Cels F al mu H → RepVs F al xs vs → t xs mu Q → LF F al H Q R → r vs H R
def dCB (t : DCall) (ta : DA) : DE := fun rho mu Q => ta rho mu fun xs mu1 => t xs mu1 Q
def fCB (t : DCallF) (ta : DA) : DF := fun rho mu Q => ta rho mu fun xs mu1 => t xs mu1 Q
theorem ge_cb {te : TA} {ta : DA} {r : List V → Hp → VK → Prop} {t : DCall} (g : GA te ta) (h : ∀ F al mu H xs vs Q R, Cels F al mu H → RepVs F al xs vs → t xs mu Q → LK F al H Q R → r vs H R) : GE (tCB r te) (dCB t ta) :=
  fun F al rho mu σ H Q R S q l => g F al rho mu σ H _ _ S q fun F1 al1 xs mu1 vs H1 E1 C1 r1 q1 => h F1 al1 mu1 H1 xs vs Q R C1 r1 q1 (l.trans E1)
theorem gf_cb {te : TA} {ta : DA} {r : List V → Hp → VK → Prop} {t : DCallF} (g : GA te ta) (h : ∀ F al mu H xs vs Q R, Cels F al mu H → RepVs F al xs vs → t xs mu Q → LF F al H Q R → r vs H R) : GF (tCB r te) (fCB t ta) :=
  fun F al rho mu σ H Q R S q l => g F al rho mu σ H _ _ S q fun F1 al1 xs mu1 vs H1 E1 C1 r1 q1 => h F1 al1 mu1 H1 xs vs Q R C1 r1 q1 (l.trans E1)
section
variable {id T : String} {x : Str} {p : Pos} {t : DCall} {tf : DCallF} {tr : DA}
theorem ce_callB (hc : CallD X (.builtin id) t) (hg : Gl X x) (hm : X.mg x = none) (hv : bootBuiltins x = some (.builtin id)) (ha : CA X (e :: es) tr) (hn : x ≠ "__name__" := by decide) (hdb : (x == ("__debug__" : Str)) = false := by decide)
    (hst : starEach (e :: es) X.env = (false, eval e X.env) :: starEach es X.env := by rfl) (hpl : (backTo pos (starEach es X.env)).any (·.1) = false := by rfl) : CE X (.Call (.Name x p) (e :: es) [] pos) (dCB t tr) := by
  obtain ⟨_, r, g⟩ := hc.ok
  obtain ⟨_, pa, ga⟩ := ha.ok
  exact ⟨_, pe_callB r hg hm hv pa hn hdb hst hpl, ge_cb ga g⟩
theorem cf_callB (hc : CallF X (.builtin id) tf) (hg : Gl X x) (hm : X.mg x = none) (hv : bootBuiltins x = some (.builtin id)) (ha : CA X (e :: es) tr) (hn : x ≠ "__name__" := by decide) (hdb : (x == ("__debug__" : Str)) = false := by decide)
    (hst : starEach (e :: es) X.env = (false, eval e X.env) :: starEach es X.env := by rfl) (hpl : (backTo pos (starEach es X.env)).any (·.1) = false := by rfl) : CF X (.Call (.Name x p) (e :: es) [] pos) (fCB tf tr) := by
  obtain ⟨_, r, g⟩ := hc.ok
  obtain ⟨_, pa, ga⟩ := ha.ok
  exact ⟨_, pe_callB r hg hm hv pa hn hdb hst hpl, gf_cb ga g⟩
theorem ce_callTy (hc : CallD X (.type T) t) (hg : Gl X x) (hm : X.mg x = none) (hv : bootBuiltins x = some (.type T)) (ha : CA X (e :: es) tr) (hn : x ≠ "__name__" := by decide) (hdb : (x == ("__debug__" : Str)) = false := by decide)
    (hst : starEach (e :: es) X.env = (false, eval e X.env) :: starEach es X.env := by rfl) (hpl : (backTo pos (starEach es X.env)).any (·.1) = false := by rfl) : CE X (.Call (.Name x p) (e :: es) [] pos) (dCB t tr) := by
  obtain ⟨_, r, g⟩ := hc.ok
  obtain ⟨_, pa, ga⟩ := ha.ok
  exact ⟨_, pe_callTy r hg hm hv pa hn hdb hst hpl, ge_cb ga g⟩
theorem cf_callTy (hc : CallF X (.type T) tf) (hg : Gl X x) (hm : X.mg x = none) (hv : bootBuiltins x = some (.type T)) (ha : CA X (e :: es) tr) (hn : x ≠ "__name__" := by decide) (hdb : (x == ("__debug__" : Str)) = false := by decide)
    (hst : starEach (e :: es) X.env = (false, eval e X.env) :: starEach es X.env := by rfl) (hpl : (backTo pos (starEach es X.env)).any (·.1) = false := by rfl) : CF X (.Call (.Name x p) (e :: es) [] pos) (fCB tf tr) := by
  obtain ⟨_, r, g⟩ := hc.ok
  obtain ⟨_, pa, ga⟩ := ha.ok
  exact ⟨_, pe_callTy r hg hm hv pa hn hdb hst hpl, gf_cb ga g⟩
end
/-- one argument -/
def on1 (xs : List DV) (k : DV → Prop) : Prop := match xs with
  | [x] => k x
  | _ => False
theorem on1_out {F : Hp} {al : List Addr} {xs : List DV} {vs : List V} {k : DV → Prop} (h : on1 xs k) (r : RepVs F al xs vs) : ∃ x v, vs = [v] ∧ RepV F al x v ∧ k x := by
  cases r with
  | nil => exact h.elim
  | cons a t =>
    cases t with
    | nil => exact ⟨_, _, rfl, a, h⟩
    | cons b u => exact h.elim
/-- len of a list, a tuple, a text -/
def dLen : DCall := fun xs mu Q => on1 xs fun x => match x with
  | .dat (.str s) => s.length ≤ 1000000 ∧ Q (.dat (.int s.length)) mu
  | .dat (.tup ds) => Q (.dat (.int ds.length)) mu
  | z => onSome (seqL mu z) fun ds => Q (.dat (.int ds.length)) mu
theorem cLen : CallD X (.builtin "len") dLen := ⟨_, call_len, fun F al mu H xs vs Q R c r q l => by
  obtain ⟨x, v, ev, rx, q⟩ := on1_out q r
  have lst : (onSome (seqL mu x) fun ds => Q (.dat (.int ds.length)) mu) → ∃ y n, vs = [y] ∧ LenV X.K y H n ∧ R (.int n) H := fun q => by
    obtain ⟨ds, h1, q⟩ := onSome_out q
    obtain ⟨p, ws, e2, hp, rl⟩ := seqL_out c rx h1
    subst e2
    exact ⟨_, ws.length, ev, .inl ⟨ws, .inl (.inl hp), rfl⟩, by rw [rl.len]; exact l F al _ mu _ H Ext.refl c rv_int q⟩
  cases x with
  | cel k => exact lst q
  | dat d =>
    cases d with
    | str s =>
      have e2 := rv_str_out rx
      subst e2
      exact ⟨_, s.length, ev, ⟨by rw [mkS_len]; exact szM_of q.1, (mkS_len s).symm⟩, l F al _ mu _ H Ext.refl c rv_int q.2⟩
    | tup ds =>
      obtain ⟨p, ws, e2, hp, rl⟩ := rv_tup_out rx
      subst e2
      exact ⟨_, ws.length, ev, .inr ⟨ws, .inl (.inl (c.ex _ _ hp)), rfl⟩, by rw [rl.len]; exact l F al _ mu _ H Ext.refl c rv_int q⟩
    | _ => exact lst q⟩
/-- int of a truth, of an int; all, any, sum -/
def dInt : DCall := fun xs mu Q => on1 xs fun x => match x with
  | .dat (.int i) => Q (.dat (.int i)) mu
  | .dat (.bl b) => Q (.dat (.int (if b then 1 else 0))) mu
  | _ => False
theorem cInt : CallD X (.type "int") dInt := ⟨_, call_int1, fun F al mu H xs vs Q R c r q l => by
  obtain ⟨x, v, ev, rx, q⟩ := on1_out q r
  cases x with
  | cel k => exact q.elim
  | dat d =>
    cases d with
    | int i =>
      have e2 := rv_int_out rx
      subst e2
      exact .inl ⟨i, ev, l F al _ mu _ H Ext.refl c rv_int q⟩
    | bl i =>
      have e2 := rv_bl_out rx
      subst e2
      exact .inr ⟨i, ev, l F al _ mu _ H Ext.refl c rv_int q⟩
    | _ => exact q.elim⟩
def toBls : List D → Option (List Bool)
  | [] => some []
  | .bl b :: r => (toBls r).map (b :: ·)
  | _ => none
theorem toBls_map : ∀ {ds : List D} {bs : List Bool}, toBls ds = some bs → ds = bs.map D.bl
  | [], bs, h => by cases h; rfl
  | .bl b :: r, bs, h => by
    have h' : (toBls r).map (b :: ·) = some bs := h
    cases q : toBls r with
    | none => rw [q] at h'; cases h'
    | some cs =>
      rw [q] at h'
      cases h'
      rw [toBls_map q]
      rfl
  | .non :: r, bs, h => by cases h
  | .int _ :: r, bs, h => by cases h
  | .str _ :: r, bs, h => by cases h
  | .lst _ :: r, bs, h => by cases h
  | .tup _ :: r, bs, h => by cases h
  | .dk _ _ :: r, bs, h => by cases h
  | .dt _ _ _ :: r, bs, h => by cases h
  | .scr _ _ :: r, bs, h => by cases h
  | .ob _ _ _ _ :: r, bs, h => by cases h
def toSs : List D → Option (List (List Nat))
  | [] => some []
  | .str b :: r => (toSs r).map (b :: ·)
  | _ => none
theorem toSs_map : ∀ {ds : List D} {bs : List (List Nat)}, toSs ds = some bs → ds = bs.map D.str
  | [], bs, h => by cases h; rfl
  | .str b :: r, bs, h => by
    have h' : (toSs r).map (b :: ·) = some bs := h
    cases q : toSs r with
    | none => rw [q] at h'; cases h'
    | some cs =>
      rw [q] at h'
      cases h'
      rw [toSs_map q]
      rfl
  | .non :: r, bs, h => by cases h
  | .bl _ :: r, bs, h => by cases h
  | .int _ :: r, bs, h => by cases h
  | .lst _ :: r, bs, h => by cases h
  | .tup _ :: r, bs, h => by cases h
  | .dk _ _ :: r, bs, h => by cases h
  | .dt _ _ _ :: r, bs, h => by cases h
  | .scr _ _ :: r, bs, h => by cases h
  | .ob _ _ _ _ :: r, bs, h => by cases h
theorem toSs_of : ∀ (ws : List (List Nat)), toSs (ws.map D.str) = some ws
  | [] => rfl
  | w :: r => by
    rw [List.map_cons]
    show (toSs (r.map D.str)).map (w :: ·) = some (w :: r)
    rw [toSs_of r]
    rfl
theorem toBls_of : ∀ (ws : List Bool), toBls (ws.map D.bl) = some ws
  | [] => rfl
  | w :: r => by
    rw [List.map_cons]
    show (toBls (r.map D.bl)).map (w :: ·) = some (w :: r)
    rw [toBls_of r]
    rfl
def dAll : DCall := fun xs mu Q => on1 xs fun x => onSome ((seqL mu x).bind toBls) fun bs => Q (.dat (.bl (bs.all id))) mu
theorem bind_out {α β : Type} {o : Option α} {g : α → Option β} {b : β} (h : o.bind g = some b) : ∃ a, o = some a ∧ g a = some b := by
  cases o with
  | none => cases h
  | some a => exact ⟨a, rfl, h⟩
theorem cAll (hc : X.calm = true) : CallD X (.builtin "all") dAll := ⟨_, cr_all hc, fun F al mu H xs vs Q R c r q l => by
  obtain ⟨x, v, ev, rx, q⟩ := on1_out q r
  obtain ⟨bs, h1, q⟩ := onSome_out q
  obtain ⟨ds, h2, h3⟩ := bind_out h1
  obtain ⟨p, ws, e2, hp, rl⟩ := seqL_out c rx h2
  subst e2
  rw [toBls_map h3] at rl
  rw [rl.bls] at hp
  exact ⟨p, bs, ev, .inl (.inl hp), l F al _ mu _ H Ext.refl c rv_bl q⟩⟩
def dTupOf : DCall := fun xs mu Q => on1 xs fun x => match x with
  | .dat (.tup ds) => Q (.dat (.tup ds)) mu
  | z => onSome (seqL mu z) fun ds => Q (.dat (.tup ds)) mu
theorem cTupOf : CallD X (.type "tuple") dTupOf := ⟨_, call_tuple_of, fun F al mu H xs vs Q R c r q l => by
  obtain ⟨x, v, ev, rx, q⟩ := on1_out q r
  have lst : (onSome (seqL mu x) fun ds => Q (.dat (.tup ds)) mu) → ∃ p ys, vs = [.ref p] ∧ ((SqL X.K H p ys ∧ ∀ l, H l = none → R (.ref l) (upd H l (.tup ys))) ∨ (SqT X.K H p ys ∧ R (.ref p) H)) := fun q => by
    obtain ⟨ds, h1, q⟩ := onSome_out q
    obtain ⟨p, ws, e2, hp, rl⟩ := seqL_out c rx h1
    subst e2
    exact ⟨p, ws, ev, .inl ⟨.inl (.inl hp), fun n hn => l _ al _ mu _ _ (Ext.new hn c.ex) (c.newF hn) (rv_tup upd_same (rl.mono (ex_upd (ex_none c.ex hn)))) q⟩⟩
  cases x with
  | cel k => exact lst q
  | dat d =>
    cases d with
    | tup ds =>
      obtain ⟨p, ws, e2, hp, rl⟩ := rv_tup_out rx
      subst e2
      exact ⟨p, ws, ev, .inr ⟨.inl (.inl (c.ex _ _ hp)), l F al _ mu _ H Ext.refl c (rv_tup hp rl) q⟩⟩
    | _ => exact lst q⟩
def sortedL (ws : List (List Nat)) : Prop := sortedS (ws.map mkS) = true
def fSortedS : DCallF := fun xs mu Q => on1 xs fun x =>
  (onSome ((seqL mu x).bind toSs) fun ns => ns.length < 64 ∧ ∀ ns' : List (List Nat), ns'.Perm ns → sortedL ns' → Q (.lst (ns'.map D.str)) mu)
theorem map_mkS (ys : List Str) : (ys.map fun y => y.cps.toList).map mkS = ys := by
  induction ys with
  | nil => rfl
  | cons y r ih => rw [List.map_cons, List.map_cons, ih]; rfl
theorem cSortedS : CallF X (.builtin "sorted") fSortedS := ⟨_, cr_sortedS, fun F al mu H xs vs Q R c r q l => by
  obtain ⟨x, v, ev, rx, q⟩ := on1_out q r
  obtain ⟨bs, h1, hz, q⟩ := onSome_out q
  obtain ⟨ds, h2, h3⟩ := bind_out h1
  obtain ⟨p, ws, e2, hp, rl⟩ := seqL_out c rx h2
  subst e2
  rw [toSs_map h3] at rl
  rw [rl.strs] at hp
  refine ⟨p, bs.map mkS, ev, .inl (.inl hp), by rw [List.length_map]; exact hz, fun ns' n pm st hn => ?_⟩
  have e4 := map_mkS ns'
  have hpm : (ns'.map fun y => y.cps.toList).Perm bs := by
    have w := pm.map (fun y : Str => y.cps.toList)
    rw [List.map_map] at w
    have e5 : (bs.map ((fun y : Str => y.cps.toList) ∘ mkS)) = bs := by
      have e6 : ((fun y : Str => y.cps.toList) ∘ mkS) = id := rfl
      rw [e6, List.map_id]
    rw [e5] at w
    exact w
  have w2 := RepL.toStrs (F := F) (ns'.map fun y => y.cps.toList)
  rw [e4] at w2
  exact l F al (.lst ((ns'.map fun y => y.cps.toList).map D.str)) mu n _ (Ext.loose hn) (c.loose hn) (c.not_al hn) hn rfl ⟨ex_none c.ex hn, _, upd_same, w2⟩ (q _ hpm (by unfold sortedL; rw [e4]; exact st))⟩

/-! ### list + list, list * int: new lists -/
def fOp (t : DV → DV → Mu → (MC → Mu → Prop) → Prop) (ta tb : DE) : DF := fun rho mu Q => ta rho mu fun x mu1 => tb rho mu1 fun y mu2 => t x y mu2 Q
def fCat : DV → DV → Mu → (MC → Mu → Prop) → Prop := fun x y mu Q => onSome (seqL mu x) fun xs => onSome (seqL mu y) fun ys => xs.length + ys.length ≤ 1000000 ∧ Q (.lst (xs ++ ys)) mu
theorem cf_cat (ha : CE X a ta) (hb : CE X b tb) : CF X (.BinOp a .Add b pos) (fOp fCat ta tb) := by
  obtain ⟨_, pa, ga⟩ := ha.ok
  obtain ⟨_, pb, gb⟩ := hb.ok
  refine ⟨_, pe_op op_cat pa pb, fun F al rho mu σ H Q R S q l => ga F al rho mu σ H _ _ S q fun F1 al1 x mu1 v H1 E1 C1 r1 q1 => ?_⟩
  refine gb F1 al1 rho mu1 σ H1 _ _ (S.of C1 E1.ex E1.pf) q1 fun F2 al2 y mu2 u H2 E2 C2 r2 q2 => ?_
  obtain ⟨xs, h1, q3⟩ := onSome_out q2
  obtain ⟨ys, h2, hz, q4⟩ := onSome_out q3
  obtain ⟨p, ws, e2, hp, rl⟩ := seqL_out C2 (r1.mono E2.ex E2.pf) h1
  obtain ⟨p', ws', e2', hp', rl'⟩ := seqL_out C2 r2 h2
  have E := E1.trans E2
  exact ⟨p, p', ws, ws', e2, e2', hp, hp', by rw [rl.len, rl'.len]; exact szM_of hz, fun n hn =>
    l F2 al2 (.lst (xs ++ ys)) mu2 n _ (E.trans (Ext.loose hn)) (C2.loose hn) (C2.not_al hn) (none_back (E.dm n) hn) rfl ⟨ex_none C2.ex hn, _, upd_same, rl.app rl'⟩ q4⟩
theorem RepL.rep {F : Hp} {ds : List D} {vs : List V} (h : RepL F ds vs) : ∀ n : Nat, RepL F (List.replicate n ds).flatten (List.replicate n vs).flatten
  | 0 => RepL.nil
  | n + 1 => by
    rw [List.replicate_succ, List.replicate_succ, List.flatten_cons, List.flatten_cons]
    exact h.app (RepL.rep h n)
/-! ### in -/
def flatD : D → Bool
  | .non => true
  | .bl _ => true
  | .int _ => true
  | .str _ => true
  | _ => false
/-- == of flat data -/
def eqF : D → D → Bool
  | .non, .non => true
  | .bl a, .bl b => a == b
  | .bl a, .int b => (if a then 1 else 0) == b
  | .int a, .bl b => a == (if b then 1 else 0)
  | .int a, .int b => a == b
  | .str a, .str b => a == b
  | _, _ => false
theorem beq_mkS (a b : List Nat) : (mkS a == mkS b) = (a == b) := by
  by_cases h : a = b
  · subst h
    simp
  · rw [beq_eq_false_iff_ne.mpr h, beq_eq_false_iff_ne.mpr (fun z => h (mkS_inj z))]
theorem eqF_V {F : Hp} {d e : D} {v u : V} (h : Rep F d v) (h' : Rep F e u) (f : flatD d = true) (f' : flatD e = true) : eqV v u = eqF d e := by
  cases d <;> first
    | (rw [Rep] at h; subst h; cases e <;> first
        | (rw [Rep] at h'; subst h'; first
            | rfl
            | exact beq_mkS _ _)
        | (exact absurd f' (by decide)) 
        | cases f')
    | (exact absurd f (by decide))
    | cases f
def inD (x : D) (xs : List D) : Bool := xs.any fun y => eqF y x
theorem inD_V {F : Hp} {x : D} {v : V} (hx : Rep F x v) (fx : flatD x = true) : ∀ {ds : List D} {vs : List V}, RepL F ds vs → ds.all flatD = true → inV v vs = inD x ds ∧ vs.all flatV = true
  | [], vs, r, _ => by
    rw [r.unnil]
    exact ⟨rfl, rfl⟩
  | d :: ds, vs, r, h => by
    obtain ⟨u, w, e, a, b⟩ := r.uncons
    subst e
    rw [List.all_cons, Bool.and_eq_true_iff] at h
    obtain ⟨i1, i2⟩ := inD_V hx fx b h.2
    refine ⟨?_, ?_⟩
    · unfold inV inD at i1 ⊢
      rw [List.any_cons, List.any_cons, i1, eqF_V a hx h.1 fx]
    · rw [List.all_cons, i2, Bool.and_true]
      have hd := h.1
      cases d <;> first
        | (rw [Rep] at a; subst a; rfl)
        | cases hd
theorem flat_V {F : Hp} {x : D} {v : V} (hx : Rep F x v) (fx : flatD x = true) : flatV v = true := by
  cases x <;> first
    | (rw [Rep] at hx; subst hx; rfl)
    | cases fx
/-- x in a list, in a tuple; a sign in a text -/
def dInQ (neg : Bool) : D2 := fun x y mu Q => match x, y with
  | .dat (.str c), .dat (.str s) => onSome (match c with | [a] => some a | _ => none) fun a => Q (.dat (.bl (if neg then !decide (a ∈ s) else decide (a ∈ s)))) mu
  | .dat d, z => onSome (match z with | .dat (.tup ds) => some ds | z => seqL mu z) fun ds => flatD d = true ∧ ds.all flatD = true ∧ Q (.dat (.bl (if neg then !inD d ds else inD d ds))) mu
  | _, _ => False
theorem dIn_seq {neg : Bool} {f : Value → Value → Sem Value} (h : OpR X f (rIn X.K neg)) : OpD X f (fun x y mu Q => match x with
    | .dat d => onSome (match y with | .dat (.tup ds) => some ds | z => seqL mu z) fun ds => flatD d = true ∧ ds.all flatD = true ∧ Q (.dat (.bl (if neg then !inD d ds else inD d ds))) mu
    | _ => False) := ⟨_, h, fun F al mu H x y v u Q R c rx ry q l => by
  cases x with
  | cel k => exact q.elim
  | dat d =>
    obtain ⟨ds, h1, f1, f2, q⟩ := onSome_out q
    have rd : Rep F d v := rx
    have lst : seqL mu y = some ds → rIn X.K neg v u H R := fun h1 => by
      obtain ⟨p, ws, e2, hp, rl⟩ := seqL_out c ry h1
      obtain ⟨i1, i2⟩ := inD_V rd f1 rl f2
      refine ⟨p, ws, e2, .inl (.inl (.inl hp)), flat_V rd f1, i2, ?_⟩
      rw [i1]
      exact l F al _ mu _ H Ext.refl c rv_bl q
    cases y with
    | cel k => exact lst h1
    | dat y =>
      cases y with
      | tup es =>
        have e : es = ds := Option.some.inj h1
        subst e
        obtain ⟨p, ws, e2, hp, rl⟩ := rv_tup_out ry
        obtain ⟨i1, i2⟩ := inD_V rd f1 rl f2
        refine ⟨p, ws, e2, .inr (.inl (.inl (c.ex _ _ hp))), flat_V rd f1, i2, ?_⟩
        rw [i1]
        exact l F al _ mu _ H Ext.refl c rv_bl q
      | _ => exact lst h1⟩
theorem found1 (c : Nat) (s : List Nat) : (!(Builtin.Str.occurrences (mkS s) (mkS [c]) 0 (mkS s).length 1).isEmpty) = decide (c ∈ s) := PySem.StrLaws.found_one (mkS s) c
theorem oIn : OpD X (compareOp .In) (dInQ false) := by
  have h2 : OpD X (compareOp .In) (fun x y mu Q => onS x fun c => onS y fun s => onSome (match c with | [a] => some a | _ => none) fun a => Q (.dat (.bl (decide (a ∈ s)))) mu) :=
    ⟨_, op_in_str, fun F al mu H x y v u Q R c rx ry q l => by
      obtain ⟨i, e1, e2, q⟩ := onS_out q rx
      obtain ⟨j, e3, e4, q⟩ := onS_out q ry
      obtain ⟨a, e5, q⟩ := onSome_out q
      have e6 : i = [a] := by
        cases i with
        | nil => cases e5
        | cons b r =>
          cases r with
          | nil =>
            have e7 : b = a := Option.some.inj e5
            rw [e7]
          | cons _ _ => cases e5
      subst e6
      refine ⟨_, _, e2, e4, ?_⟩
      rw [found1]
      exact l F al _ mu _ H Ext.refl c rv_bl q⟩
  refine ((dIn_seq op_in_seq).or h2).imp fun x y mu Q q => ?_
  unfold dInQ at q
  split at q
  · exact .inr q
  · exact .inl q
  · exact q.elim
theorem oNotIn : OpD X (compareOp .NotIn) (dInQ true) := by
  have h2 : OpD X (compareOp .NotIn) (fun x y mu Q => onS x fun c => onS y fun s => onSome (match c with | [a] => some a | _ => none) fun a => Q (.dat (.bl (!decide (a ∈ s)))) mu) :=
    ⟨_, op_notin_str, fun F al mu H x y v u Q R c rx ry q l => by
      obtain ⟨i, e1, e2, q⟩ := onS_out q rx
      obtain ⟨j, e3, e4, q⟩ := onS_out q ry
      obtain ⟨a, e5, q⟩ := onSome_out q
      have e6 : i = [a] := by
        cases i with
        | nil => cases e5
        | cons b r =>
          cases r with
          | nil =>
            have e7 : b = a := Option.some.inj e5
            rw [e7]
          | cons _ _ => cases e5
      subst e6
      refine ⟨_, _, e2, e4, ?_⟩
      rw [found1]
      exact l F al _ mu _ H Ext.refl c rv_bl q⟩
  refine ((dIn_seq op_notIn_seq).or h2).imp fun x y mu Q q => ?_
  unfold dInQ at q
  split at q
  · exact .inr q
  · exact .inl q
  · exact q.elim
end
end Dx

namespace Dx
open PySem PySem.Spec PyProof.Rows L2
open Evl (Ex)
variable [Tb]

/-! ### a cell is changed -/
theorem Cels.put {F H : Hp} {al : List Addr} {mu : Mu} {k : Nat} {a : Addr} {m m' : MC} {o : HO} (C : Cels F al mu H) (ha : al[k]? = some a) (hm : mu[k]? = some m) (live : isDead m = false) (new : CelOk F (upd H a o) a m') :
    Cels F al (mu.set k m') (upd H a o) ∧ Ext F al H F al (upd H a o) := by
  have hn : F a = none := (C.cel k a m ha hm).un live
  have ma : a ∈ al := List.mem_of_getElem? ha
  refine ⟨⟨fun b u h => ?_, C.nt, tabs_put C.tb ((C.cel k a m ha hm).plain live).choose_spec.1 ((C.cel k a m ha hm).plain live).choose_spec.2, by rw [List.length_set]; exact C.len, C.nd, fun j b x h1 h2 => ?_⟩, ⟨Ex.refl F, List.prefix_refl _, fun b h => .inl h, fun b h => .inl h, fun b u h e _ => ?_, fun b h => ?_⟩⟩
  · rw [upd_ne (ne_of_none h hn)]
    exact C.ex b u h
  · by_cases hj : j = k
    · subst hj
      rw [ha] at h1
      cases h1
      rw [List.getElem?_set_self (List.getElem?_eq_some_iff.mp hm).1] at h2
      cases h2
      exact new
    · have hb : b ≠ a := fun z => by
        subst z
        have e1 := List.getElem?_eq_some_iff.mp h1
        have e2 := List.getElem?_eq_some_iff.mp ha
        exact hj ((List.getElem_inj C.nd).mp (e1.2.trans e2.2.symm))
      rw [List.getElem?_set_ne (fun z => hj z.symm)] at h2
      exact (C.cel j b x h1 h2).mono (Ex.refl F) (fun z => z) (upd_ne hb)
  · have nb : b ≠ a := fun z => by
      subst z
      exact h ma
    rw [upd_ne nb]
    exact e
  · by_cases c : b = a
    · subst c
      rw [upd_same]
      exact fun z => nomatch z
    · rw [upd_ne c]
      exact h

/-! ### methods of built-in types -/
abbrev DM := DV → List DV → Mu → DQ → Prop
structure MtD (X : Cx) (T id : String) (t : DM) : Prop where
  ok : ∃ r, MtR X id r ∧ ∀ F al mu H x xs v vs Q R, Cels F al mu H → RepV F al x v → RepVs F al xs vs → t x xs mu Q → LK F al H Q R → r v vs H R
/-- what a value's type is, ahead of the arguments -/
def tyD (T : String) (mu : Mu) (x : DV) : Prop := match x with
  | .dat (.str _) => T = "str"
  | .dat (.dk _ _) => T = "dict"
  | .cel k => match mu[k]? with
    | some (.dk _ _) => T = "dict"
    | some (.lst _) => T = "list"
    | _ => False
  | .dat (.lst _) => T = "list"
  | _ => False
theorem tyD_out {K : PySem.W.Frag} {F H : Hp} {al : List Addr} {mu : Mu} {x : DV} {v : V} {T : String} (C : Cels F al mu H) (r : RepV F al x v) (h : tyD T mu x) : tyV K T v H := by
  cases x with
  | dat d =>
    cases d with
    | str s =>
      have e := rv_str_out r
      subst e
      exact h
    | lst ds =>
      obtain ⟨p, vs, e, q, _⟩ := rv_lst_out r
      subst e
      exact .inl ⟨h, vs, .inl (.inl (C.ex _ _ q))⟩
    | dk ks ds =>
      have r' : Rep F (.dk ks ds) v := r
      rw [Rep] at r'
      obtain ⟨p, vs, e, q, _⟩ := r'
      subst e
      exact .inr (.inr (.inl ⟨h, .inl ⟨_, C.ex _ _ q⟩⟩))
    | _ => exact h.elim
  | cel k =>
    obtain ⟨a, ha, e⟩ := r
    subst e
    have h' : (match mu[k]? with
      | some (.dk _ _) => T = "dict"
        | some (.lst _) => T = "list"
      | _ => False) := h
    cases q : mu[k]? with
    | none =>
      rw [q] at h'
      exact h'.elim
    | some m =>
      rw [q] at h'
      have ok := C.cel k a m ha q
      cases m with
      | dead => exact h'.elim
      | lst ds =>
        obtain ⟨_, vs, z, _⟩ := ok
        exact .inl ⟨h', vs, .inl (.inl z)⟩
      | own b ds => exact h'.elim
      | dk ks ds =>
        obtain ⟨_, vs, z, _⟩ := ok
        exact .inr (.inr (.inl ⟨h', .inl ⟨_, z⟩⟩))
      | dt w ks ds => exact h'.elim
      | ins C ns ds => exact h'.elim
      | ownK b ks ds => exact h'.elim
def dBM (T : String) (t : DM) (to : DE) (ta : DA) : DE := fun rho mu Q => to rho mu fun x mu1 => tyD T mu1 x ∧ ta rho mu1 fun xs mu2 => t x xs mu2 Q
section
variable {X : Cx} {e a b o : Expr} {es : List Expr} {ta tb to : DE} {pos apos cpos : Pos} {T id : String} {name : Str}
theorem ce_bm {t : DM} {tr : DA} (hm : MtD X T id t) (pa : PlainAttrs T) (slot : Slot T name id) (hty : typeOf (.builtin id) = pure (.type "method_descriptor")) (ho : CE X o to) (ha : CA X (e :: es) tr)
    (hbase : attributeBase o name X.env (eval o X.env) = eval o X.env := by rfl)
    (hfew : ((backTo cpos (starEach (e :: es) X.env)).all (fun x => !x.1) && (backToKw cpos (keywordEach [] X.env)).all (fun x => x.1.isSome)
      && decide ((e :: es).length + ([] : List Keyword).length + (if ([] : List Keyword).isEmpty then 0 else 1) < 30)) = true := by rfl)
    (hline : (apos.endLine == cpos.line) = true := by rfl) (hs : starEach (e :: es) X.env = (false, eval e X.env) :: starEach es X.env := by rfl) (hplain : (backTo cpos (starEach es X.env)).any (·.1) = false := by rfl) :
    CE X (.Call (.Attribute o name apos) (e :: es) [] cpos) (dBM T t to tr) := by
  obtain ⟨r, hr, g⟩ := hm.ok
  obtain ⟨_, po, go⟩ := ho.ok
  obtain ⟨_, pr, gr⟩ := ha.ok
  refine ⟨_, pe_bm pa slot hty hr po pr hbase hfew hline hs hplain, fun F al rho mu σ H Q R S q l => go F al rho mu σ H _ _ S q fun F1 al1 x mu1 v H1 E1 C1 r1 q1 => ?_⟩
  refine ⟨tyD_out C1 r1 q1.1, gr F1 al1 rho mu1 σ H1 _ _ (S.of C1 E1.ex E1.pf) q1.2 fun F2 al2 xs mu2 vs H2 E2 C2 r2 q2 => ?_⟩
  exact g F2 al2 mu2 H2 x xs v vs Q R C2 (r1.mono E2.ex E2.pf) r2 q2 ((l.trans E1).trans E2)
/-- the list of a cell -/
def onLst (x : DV) (mu : Mu) (k : Nat → List D → Prop) : Prop := match x with
  | .cel j => match mu[j]? with
    | some (.lst ds) => k j ds
    | _ => False
  | _ => False
theorem onLst_out {F H : Hp} {al : List Addr} {mu : Mu} {x : DV} {v : V} {k : Nat → List D → Prop} (C : Cels F al mu H) (r : RepV F al x v) (h : onLst x mu k) :
    ∃ j a ds vs, v = .ref a ∧ al[j]? = some a ∧ mu[j]? = some (.lst ds) ∧ F a = none ∧ H a = some (.lst vs) ∧ RepL F ds vs ∧ k j ds := by
  cases x with
  | dat d => exact h.elim
  | cel j =>
    obtain ⟨a, ha, e⟩ := r
    have h' : (match mu[j]? with
      | some (.lst ds) => k j ds
      | _ => False) := h
    cases q : mu[j]? with
    | none =>
      rw [q] at h'
      exact h'.elim
    | some m =>
      rw [q] at h'
      cases m with
      | lst ds =>
        obtain ⟨z, vs, hv, rl⟩ := C.cel j a _ ha q
        exact ⟨j, a, ds, vs, e, ha, q, z, hv, rl, h'⟩
      | _ => exact h'.elim
def onD (x : DV) (k : D → Prop) : Prop := match x with
  | .dat d => k d
  | _ => False
theorem onD_out {x : DV} {k : D → Prop} (h : onD x k) : ∃ d, x = .dat d ∧ k d := by
  cases x with
  | cel _ => exact h.elim
  | dat d => exact ⟨d, rfl, h⟩
theorem vs0 {F : Hp} {al : List Addr} {xs : List DV} {vs : List V} (r : RepVs F al xs vs) (h : xs = []) : vs = [] := by
  subst h
  cases r
  rfl
def dAppend : DM := fun x xs mu Q => on1 xs fun y => onD y fun d => onLst x mu fun j ds => ds.length < 1000000 ∧ Q (.dat .non) (mu.set j (.lst (ds ++ [d])))
theorem mAppend : MtD X "list" "list.append" dAppend := ⟨_, mt_append, fun F al mu H x xs v vs Q R c r rs q l => by
  obtain ⟨y, w, ev, ry, q⟩ := on1_out q rs
  obtain ⟨d, e1, q⟩ := onD_out q
  subst e1
  obtain ⟨j, p, ds, us, e2, ha, hm, hn, hp, rl, hz, q⟩ := onLst_out c r q
  have rd : Rep F d w := ry
  obtain ⟨c2, e3⟩ := c.put (m' := .lst (ds ++ [d])) (o := .lst (us ++ [w])) ha hm rfl ⟨hn, _, upd_same, rl.app (.cons rd .nil)⟩
  exact ⟨p, us, w, e2, ev, hp, by rw [rl.len]; exact szM_lt hz, l F al _ _ _ _ e3 c2 rv_non q⟩⟩
def dPopAt : DM := fun x xs mu Q => on1 xs fun y => onI y fun i => onLst x mu fun j ds => 0 ≤ i ∧ i < ds.length ∧ ds.length ≤ 1000000 ∧ onSome (ds[i.toNat]?) fun d => Q (.dat d) (mu.set j (.lst (ds.eraseIdx i.toNat)))
theorem RepL.erase {F : Hp} : ∀ {ds : List D} {vs : List V} (i : Nat), RepL F ds vs → RepL F (ds.eraseIdx i) (vs.eraseIdx i)
  | [], vs, i, h => by
    rw [h.unnil]
    exact RepL.nil
  | d :: ds, vs, 0, h => by
    obtain ⟨v, r, e, a, b⟩ := h.uncons
    subst e
    exact b
  | d :: ds, vs, i + 1, h => by
    obtain ⟨v, r, e, a, b⟩ := h.uncons
    subst e
    exact RepL.cons a (RepL.erase i b)
theorem seqIx {i : Int} {n : Nat} (h0 : 0 ≤ i) (h1 : i < n) : seqIndex? i n = some i.toNat := by
  have e : L2.ixN n i = some i.toNat := by
    unfold L2.ixN
    rw [if_pos h0, if_pos h1]
  exact (ixN_seq e).1
theorem mPopAt : MtD X "list" "list.pop" dPopAt := ⟨_, mt_popAt, fun F al mu H x xs v vs Q R c r rs q l => by
  obtain ⟨y, w, ev, ry, q⟩ := on1_out q rs
  obtain ⟨i, e1, e4, q⟩ := onI_out q ry
  obtain ⟨j, p, ds, us, e2, ha, hm, hn, hp, rl, h0, h1, hz, q⟩ := onLst_out c r q
  obtain ⟨d, hd, q⟩ := onSome_out q
  obtain ⟨w, hw, rd⟩ := rl.get hd
  obtain ⟨c2, e3⟩ := c.put (m' := .lst (ds.eraseIdx i.toNat)) (o := .lst (us.eraseIdx i.toNat)) ha hm rfl ⟨hn, _, upd_same, rl.erase _⟩
  subst e4
  exact ⟨p, us, i, i.toNat, w, e2, ev, hp, by omega, by omega, by rw [rl.len]; exact seqIx h0 h1, hw, l F al (.dat d) _ _ _ e3 c2 rd q⟩⟩
theorem RepL.rev {F : Hp} : ∀ {ds : List D} {vs : List V}, RepL F ds vs → RepL F ds.reverse vs.reverse
  | [], vs, h => by
    rw [h.unnil]
    exact RepL.nil
  | d :: ds, vs, h => by
    obtain ⟨v, r, e, a, b⟩ := h.uncons
    subst e
    rw [List.reverse_cons, List.reverse_cons]
    exact (RepL.rev b).app (.cons a .nil)
theorem join_eq (s : List Nat) (ws : List (List Nat)) : Txt.join (mkS s) (ws.map mkS) = mkS (TL.joinL s ws) := SX.join_S s ws
@[irreducible] def dJoin : DM := fun x xs mu Q => onS x fun s => on1 xs fun y => onSome (((match y with | .dat (.tup ds) => some ds | z => seqL mu z)).bind toSs) fun ws =>
  (ws.map List.length).sum + ws.length * s.length ≤ 1000000 ∧ Q (.dat (.str (TL.joinL s ws))) mu
theorem mJoin : MtD X "str" "str.join" dJoin := ⟨_, mt_join, fun F al mu H x xs v vs Q R c r rs q l => by
  unfold dJoin at q
  obtain ⟨s, e1, e2, q⟩ := onS_out q r
  obtain ⟨y, w, ev, ry, q⟩ := on1_out q rs
  obtain ⟨ws, h1, hz, q⟩ := onSome_out q
  obtain ⟨ds, h2, h3⟩ := bind_out h1
  have fin : ∀ p, w = .ref p → (SqL X.K H p ((ws.map mkS).map V.str) ∨ SqT X.K H p ((ws.map mkS).map V.str)) → ∃ a p, ∃ ys : List Str, v = .str a ∧ vs = [.ref p] ∧ (SqL X.K H p (ys.map V.str) ∨ SqT X.K H p (ys.map V.str)) ∧ (ys.map (·.length)).sum + ys.length * a.length ≤ 16777216 ∧ R (.str (Txt.join a ys)) H := fun p e h => by
    refine ⟨mkS s, p, ws.map mkS, e2, by rw [ev, e], h, ?_, ?_⟩
    · rw [List.map_map, List.length_map, mkS_len]
      have e9 : ((fun x : Str => x.length) ∘ mkS) = List.length := by
        funext z
        exact mkS_len z
      rw [e9]
      omega
    · rw [join_eq]
      exact l F al _ _ _ _ Ext.refl c rv_str q
  have lst : seqL mu y = some ds → ∃ a p, ∃ ys : List Str, v = .str a ∧ vs = [.ref p] ∧ (SqL X.K H p (ys.map V.str) ∨ SqT X.K H p (ys.map V.str)) ∧ (ys.map (·.length)).sum + ys.length * a.length ≤ 16777216 ∧ R (.str (Txt.join a ys)) H := fun h2 => by
    obtain ⟨p, us, e3, hp, rl⟩ := seqL_out c ry h2
    rw [toSs_map h3] at rl
    rw [rl.strs] at hp
    exact fin p e3 (.inl (.inl (.inl hp)))
  cases y with
  | cel k => exact lst h2
  | dat d =>
    cases d with
    | tup es =>
      have e : es = ds := Option.some.inj h2
      subst e
      obtain ⟨p, us, e3, hp, rl⟩ := rv_tup_out ry
      rw [toSs_map h3] at rl
      rw [rl.strs] at hp
      exact fin p e3 (.inr (.inl (.inl (c.ex _ _ hp))))
    | _ => exact lst h2⟩
end

/-! ### promises of defs over data -/
inductive RV where
  | dv (x : DV) | new (m : MC)
abbrev FS := List DV → Mu → (RV → Mu → Prop) → Prop
def RetV (F : Hp) (al : List Addr) (H : Hp) : RV → V → Prop
  | .dv x, v => RepV F al x v
  | .new m, v => ∃ p, v = .ref p ∧ p ∉ al ∧ isDead m = false ∧ CelOk F H p m
/-- what is told is new to the asker: it stood in no heap ahead -/
def Fresh (H : Hp) : RV → V → Prop
  | .dv _, _ => True
  | .new _, v => ∀ p, v = .ref p → H p = none
def spOf (S : FS) : Sp := fun vs H Q _ => ∃ F al dvs mu Qd, Cels F al mu H ∧ RepVs F al dvs vs ∧ S dvs mu Qd ∧
  ∀ F' mu' rv v H', Ext F al H F' al H' → Cels F' al mu' H' → RetV F' al H' rv v → Fresh H rv v → Qd rv mu' → Q v H'
/-- no cells are handed on; what comes back as data -/
def backD (mu : Mu) (Q : DQ) : RV → Mu → Prop := fun rv _ => match rv with
  | .dv (.dat d) => Q (.dat d) mu
  | .new m => Q (.dat m.toD) mu
  | _ => False
def allD : List DV → Bool
  | [] => true
  | .dat _ :: r => allD r
  | .cel _ :: _ => false
theorem allD_vs {F : Hp} {al : List Addr} : ∀ {xs : List DV} {vs : List V}, RepVs F al xs vs → allD xs = true → RepVs F [] xs vs
  | _, _, .nil, _ => .nil
  | .dat d :: xs, _, .cons h t, e => .cons (show Rep F d _ from h) (allD_vs t e)
  | .cel _ :: xs, _, .cons h t, e => by cases e
theorem Cels.empt {F H : Hp} (e : Ex F H) (n : ∀ a ps, F a ≠ some (.tbl ps)) (t : TbOk H) : Cels F [] [] H := ⟨e, n, t, rfl, List.nodup_nil, fun k a m h => by simp at h⟩
/-- the cells stand through a call that has none of them -/
theorem Cels.over {F H F' H' : Hp} {al : List Addr} {mu : Mu} (C : Cels F al mu H) (E : Ext F [] H F' [] H') (C' : Ex F' H') (nt : ∀ a ps, F' a ≠ some (.tbl ps)) (tb : TbOk H') : Cels F' al mu H' ∧ Ext F al H F' al H' := by
  have nf : ∀ a, H a ≠ none → F a = none → F' a = none := fun a h1 h2 => by
    cases q : F' a with
    | none => rfl
    | some u =>
      rcases E.nf a (by rw [q]; exact fun z => nomatch z) with w | w | w
      · exact absurd h2 w
      · exact absurd w h1
      · simp at w
  refine ⟨⟨C', nt, tb, C.len, C.nd, fun k a m h1 h2 => ?_⟩, ⟨E.ex, List.prefix_refl _, fun a h => ?_, fun a h => .inl h, fun a o _ h => E.kp a o (by simp) h, E.dm⟩⟩
  · have ok := C.cel k a m h1 h2
    exact ok.keep E.ex (nf a ok.there) (fun u q nt => E.kp a u (by simp) q nt) (E.dm a)
  · rcases E.nf a h with w | w | w
    · exact .inl w
    · exact .inr (.inl w)
    · simp at w
def dCall (S : FS) (ta : DA) : DE := fun rho mu Q => ta rho mu fun xs mu1 => allD xs = true ∧ S xs [] (backD mu1 Q)
theorem ge_call {S : FS} {te : TA} {ta : DA} {E0 : XK} (g : GA te ta) : GE (tCall (spOf S) [] E0 te) (dCall S ta) := fun F al rho mu σ H Q R St q l =>
  g F al rho mu σ H _ _ St q fun F1 al1 xs mu1 vs H1 E1 C1 r1 q1 => by
    show spOf S (vs ++ []) H1 R E0
    rw [List.append_nil]
    refine ⟨F1, [], xs, [], _, Cels.empt C1.ex C1.nt C1.tb, allD_vs r1 q1.1, q1.2, fun F' mu' rv v H' E' C' rr fr q' => ?_⟩
    obtain ⟨C2, E2⟩ := C1.over E' C'.ex C'.nt C'.tb
    cases rv with
    | dv x =>
      cases x with
      | cel k => exact q'.elim
      | dat d => exact l F' al1 (.dat d) mu1 v H' (E1.trans E2) C2 rr q'
    | new m =>
      obtain ⟨p, ev, na, dd, ok⟩ := rr
      obtain ⟨o, ho, rep⟩ := ok.frz dd
      have h0 : H1 p = none := fr p ev
      have hn := ok.un dd
      subst ev
      exact l _ al1 (.dat m.toD) mu1 (.ref p) H' ((E1.trans E2).frz hn (none_back (E1.dm p) h0)) (C2.frz ho hn (C1.not_al h0) (ok.frzN dd ho)) (rep _ (ex_upd hn) upd_same) q'
/-- the first argument is a cell that the def may change; the others are data -/
def backR (j : Nat) (mu : Mu) (Q : DQ) : RV → Mu → Prop := fun rv mu' => match mu' with
  | [m'] => match rv with
    | .dv (.dat d) => Q (.dat d) (mu.set j m')
    | .new m => Q (.dat m.toD) (mu.set j m')
    | _ => False
  | _ => False
def onCel (xs : List DV) (mu : Mu) (k : Nat → MC → List DV → Prop) : Prop := match xs with
  | .cel j :: r => match mu[j]? with
    | some m => isDead m = false ∧ allD r = true ∧ k j m r
    | none => False
  | _ => False
def dCallR (S : FS) (ta : DA) : DE := fun rho mu Q => ta rho mu fun xs mu1 => onCel xs mu1 fun j m r => S (.cel 0 :: r) [m] (backR j mu1 Q)
theorem Cels.one {F H : Hp} {al : List Addr} {mu : Mu} {j : Nat} {a : Addr} {m : MC} (C : Cels F al mu H) (ha : al[j]? = some a) (hm : mu[j]? = some m) : Cels F [a] [m] H :=
  ⟨C.ex, C.nt, C.tb, rfl, by simp, fun k b x h1 h2 => by
    cases k with
    | zero =>
      cases h1
      cases h2
      exact C.cel j a m ha hm
    | succ k => simp at h1⟩
/-- .. that has one of them -/
theorem Cels.over1 {F H F' H' : Hp} {al : List Addr} {mu : Mu} {j : Nat} {a : Addr} {m m' : MC} (C : Cels F al mu H) (ha : al[j]? = some a) (hm : mu[j]? = some m) (E : Ext F [a] H F' [a] H') (C' : Cels F' [a] [m'] H') :
    Cels F' al (mu.set j m') H' ∧ Ext F al H F' al H' := by
  have ma : a ∈ al := List.mem_of_getElem? ha
  have nf : ∀ b, b ≠ a → H b ≠ none → F b = none → F' b = none := fun b hb h1 h2 => by
    cases q : F' b with
    | none => rfl
    | some u =>
      rcases E.nf b (by rw [q]; exact fun z => nomatch z) with w | w | w
      · exact absurd h2 w
      · exact absurd w h1
      · rw [List.mem_singleton] at w
        exact absurd w hb
  refine ⟨⟨C'.ex, C'.nt, C'.tb, by rw [List.length_set]; exact C.len, C.nd, fun k b x h1 h2 => ?_⟩, ⟨E.ex, List.prefix_refl _, fun b h => ?_, fun b h => .inl h, fun b o hb h => E.kp b o (fun z => hb (by rw [List.mem_singleton] at z; rw [z]; exact ma)) h, E.dm⟩⟩
  · by_cases hj : k = j
    · subst hj
      rw [ha] at h1
      cases h1
      rw [List.getElem?_set_self (List.getElem?_eq_some_iff.mp hm).1] at h2
      cases h2
      exact C'.cel 0 a m' rfl rfl
    · have hb : b ≠ a := fun z => by
        subst z
        have e1 := List.getElem?_eq_some_iff.mp h1
        have e2 := List.getElem?_eq_some_iff.mp ha
        exact hj ((List.getElem_inj C.nd).mp (e1.2.trans e2.2.symm))
      rw [List.getElem?_set_ne (fun z => hj z.symm)] at h2
      have ok := C.cel k b x h1 h2
      exact ok.keep E.ex (nf b hb ok.there) (fun u q nt => E.kp b u (fun z => hb (by rw [List.mem_singleton] at z; exact z)) q nt) (E.dm b)
  · rcases E.nf b h with w | w | w
    · exact .inl w
    · exact .inr (.inl w)
    · rw [List.mem_singleton] at w
      exact .inr (.inr (w ▸ ma))
theorem onCel_out {F H : Hp} {al : List Addr} {mu : Mu} {xs : List DV} {vs : List V} {k : Nat → MC → List DV → Prop} (C : Cels F al mu H) (r : RepVs F al xs vs) (h : onCel xs mu k) :
    ∃ j a m r, al[j]? = some a ∧ mu[j]? = some m ∧ RepVs F [a] (.cel 0 :: r) vs ∧ k j m r := by
  cases r with
  | nil => exact h.elim
  | cons h0 t =>
    rename_i x v xs' vs'
    cases x with
    | dat d => exact h.elim
    | cel j =>
      obtain ⟨a, ha, e⟩ := h0
      have h' : (match mu[j]? with
        | some m => isDead m = false ∧ allD xs' = true ∧ k j m xs'
        | none => False) := h
      cases q : mu[j]? with
      | none =>
        rw [q] at h'
        exact h'.elim
      | some m =>
        rw [q] at h'
        refine ⟨j, a, m, xs', ha, q, .cons ⟨a, rfl, e⟩ ?_, h'.2.2⟩
        have w := allD_vs t h'.2.1
        exact w.mono (Ex.refl F) ⟨[a], rfl⟩
theorem ge_callR {S : FS} {te : TA} {ta : DA} {E0 : XK} (g : GA te ta) : GE (tCall (spOf S) [] E0 te) (dCallR S ta) := fun F al rho mu σ H Q R St q l =>
  g F al rho mu σ H _ _ St q fun F1 al1 xs mu1 vs H1 E1 C1 r1 q1 => by
    show spOf S (vs ++ []) H1 R E0
    rw [List.append_nil]
    obtain ⟨j, a, m, r, ha, hm, rs, q2⟩ := onCel_out C1 r1 q1
    refine ⟨F1, [a], .cel 0 :: r, [m], _, C1.one ha hm, rs, q2, fun F' mu' rv v H' E' C' rr fr q' => ?_⟩
    cases mu' with
    | nil => exact q'.elim
    | cons m' t =>
      cases t with
      | cons _ _ => exact q'.elim
      | nil =>
        obtain ⟨C2, E2⟩ := C1.over1 ha hm E' C'
        cases rv with
        | dv x =>
          cases x with
          | cel k => exact q'.elim
          | dat d => exact l F' al1 (.dat d) _ v H' (E1.trans E2) C2 rr q'
        | new m2 =>
          obtain ⟨p, ev, na, dd, ok⟩ := rr
          obtain ⟨o, ho, rep⟩ := ok.frz dd
          have h0 : H1 p = none := fr p ev
          have hn := ok.un dd
          subst ev
          exact l _ al1 (.dat m2.toD) _ (.ref p) H' ((E1.trans E2).frz hn (none_back (E1.dm p) h0)) (C2.frz ho hn (C1.not_al h0) (ok.frzN dd ho)) (rep _ (ex_upd hn) upd_same) q'
section
variable {X : Cx} {e : Expr} {es : List Expr} {pos p : Pos} {x : Str} {f : Addr} {fd : FuncData} {ps : List Str} {k : Nat} {S : FS} {tr : DA}
theorem ce_call (G : FnOk X.prog X.w X.K X.mg X.base CX0 k f fd ps (spOf S)) (hr : Room k X.A) (hm : X.mg x = some (.ref f)) (hk : PySem.W.keepIn X.K (.ref f) = true) (hb : Binds X.K fd ps []) (ha : CA X (e :: es) tr) (hg : Gl X x := by rfl)
    (hdb : (x == ("__debug__" : Str)) = false := by decide) (he : starEach (e :: es) X.env = (false, eval e X.env) :: starEach es X.env := by rfl) (hpl : (backTo pos (starEach es X.env)).any (·.1) = false := by rfl) :
    CE X (.Call (.Name x p) (e :: es) [] pos) (dCall S tr) := by
  obtain ⟨_, pa, ga⟩ := ha.ok
  exact ⟨_, pe_call (E := E0) G hr hg hm hk hb .nil pass0 pa hdb he hpl, ge_call ga⟩
theorem ce_callR (G : FnOk X.prog X.w X.K X.mg X.base CX0 k f fd ps (spOf S)) (hr : Room k X.A) (hm : X.mg x = some (.ref f)) (hk : PySem.W.keepIn X.K (.ref f) = true) (hb : Binds X.K fd ps []) (ha : CA X (e :: es) tr) (hg : Gl X x := by rfl)
    (hdb : (x == ("__debug__" : Str)) = false := by decide) (he : starEach (e :: es) X.env = (false, eval e X.env) :: starEach es X.env := by rfl) (hpl : (backTo pos (starEach es X.env)).any (·.1) = false := by rfl) :
    CE X (.Call (.Name x p) (e :: es) [] pos) (dCallR S tr) := by
  obtain ⟨_, pa, ga⟩ := ha.ok
  exact ⟨_, pe_call (E := E0) G hr hg hm hk hb .nil pass0 pa hdb he hpl, ge_callR ga⟩
end
end Dx

namespace Dx
open PySem PySem.Spec PyProof.Rows L2
open Evl (Ex)
variable [Tb]

/-! ### slots are stored -/
def setD : Rho → Nat → DV → Rho
  | [], _, _ => []
  | _ :: r, 0, x => some x :: r
  | y :: r, n + 1, x => y :: setD r n x
theorem setD_eq : ∀ (rho : Rho) (i : Nat) (x : DV), setD rho i x = rho.set i (some x)
  | [], _, _ => rfl
  | _ :: r, 0, x => rfl
  | y :: r, n + 1, x => by
    rw [setD, List.set_cons_succ, setD_eq r n x]
theorem Sim.set {F : Hp} {al : List Addr} {rho : Rho} {mu : Mu} {σ : L2.St} {H : Hp} {x : DV} {v : V} (S : Sim F al rho mu σ H) (i : Nat) (r : RepV F al x v) : Sim F al (setD rho i x) mu (σ.set i (some v)) H where
  toCels := S.toCels
  slen := by rw [setD_eq, List.length_set, List.length_set]; exact S.slen
  slot := fun j y h => by
    rw [setD_eq] at h
    by_cases hj : j = i
    · subst hj
      by_cases hl : j < rho.length
      · rw [List.getElem?_set_self hl] at h
        cases h
        exact ⟨v, by rw [List.getElem?_set_self (by rw [← S.slen]; exact hl)], r⟩
      · rw [List.getElem?_eq_none (by rw [List.length_set]; omega)] at h
        cases h
    · rw [List.getElem?_set_ne (fun z => hj z.symm)] at h
      obtain ⟨w, q1, q2⟩ := S.slot j y h
      exact ⟨w, by rw [List.getElem?_set_ne (fun z => hj z.symm)]; exact q1, q2⟩

/-! ### statements -/
structure DEnds where
  nx : Rho → Mu → Prop
  rt : RV → Mu → Prop
  bk : Rho → Mu → Prop := fun _ _ => False
  ct : Rho → Mu → Prop := fun _ _ => False
abbrev DS := DEnds → Rho → Mu → Prop
structure LS (F : Hp) (al : List Addr) (H : Hp) (D : DEnds) (E : Ends) : Prop where
  nx : ∀ F' al' rho' mu' σ' H', Ext F al H F' al' H' → Sim F' al' rho' mu' σ' H' → D.nx rho' mu' → E.nx σ' H'
  rt : ∀ F' al' mu' rv v H', Ext F al H F' al' H' → Cels F' al' mu' H' → RetV F' al' H' rv v → Fresh H rv v → D.rt rv mu' → E.rt v H'
  bk : ∀ F' al' rho' mu' σ' H', Ext F al H F' al' H' → Sim F' al' rho' mu' σ' H' → D.bk rho' mu' → E.bk σ' H'
  ct : ∀ F' al' rho' mu' σ' H', Ext F al H F' al' H' → Sim F' al' rho' mu' σ' H' → D.ct rho' mu' → E.ct σ' H'
theorem Fresh.back {H H1 : Hp} {rv : RV} {v : V} (h : Fresh H1 rv v) (d : ∀ a, H a ≠ none → H1 a ≠ none) : Fresh H rv v := by
  cases rv with
  | dv x => trivial
  | new m => exact fun p e => none_back (d p) (h p e)
theorem LS.trans {F F1 : Hp} {al al1 : List Addr} {H H1 : Hp} {D : DEnds} {E : Ends} (l : LS F al H D E) (e : Ext F al H F1 al1 H1) : LS F1 al1 H1 D E where
  nx := fun F' al' rho' mu' σ' H' e' => l.nx F' al' rho' mu' σ' H' (e.trans e')
  rt := fun F' al' mu' rv v H' e' C r f => l.rt F' al' mu' rv v H' (e.trans e') C r (f.back e.dm)
  bk := fun F' al' rho' mu' σ' H' e' => l.bk F' al' rho' mu' σ' H' (e.trans e')
  ct := fun F' al' rho' mu' σ' H' e' => l.ct F' al' rho' mu' σ' H' (e.trans e')
def GS (ts : TS) (t : DS) : Prop := ∀ F al rho mu σ H D E, Sim F al rho mu σ H → t D rho mu → LS F al H D E → ts E σ H
structure CS (X : Cx) (st : Stmt) (t : DS) : Prop where
  ok : ∃ ts, PS X st ts ∧ GS ts t
structure CSs (X : Cx) (st : List Stmt) (t : DS) : Prop where
  ok : ∃ ts, PSs X st ts ∧ GS ts t
def dNext : DS := fun D rho mu => D.nx rho mu
def dSeq (t u : DS) : DS := fun D rho mu => t { D with nx := u D } rho mu
section
variable {X : Cx} {st : Stmt} {rest : List Stmt} {t u : DS} {e a b : Expr} {te ta tb : DE} {pos pos' : Pos} {i : Nat} {x : Str}
theorem css_nil : CSs X [] dNext := ⟨_, pss_nil, fun F al rho mu σ H D E S q l => l.nx F al rho mu σ H Ext.refl S q⟩
theorem gs_seq {ts us : TS} (g1 : GS ts t) (g2 : GS us u) : GS (tSeq ts us) (dSeq t u) := fun F al rho mu σ H D E S q l =>
  g1 F al rho mu σ H _ _ S q ⟨fun F1 al1 rho1 mu1 σ1 H1 e1 S1 q1 => g2 F1 al1 rho1 mu1 σ1 H1 D E S1 q1 (l.trans e1), l.rt, l.bk, l.ct⟩
theorem css_cons (h1 : CS X st t) (h2 : CSs X rest u) : CSs X (st :: rest) (dSeq t u) := let ⟨_, p, g⟩ := h1.ok; let ⟨_, p2, g2⟩ := h2.ok; ⟨_, pss_cons p p2, gs_seq g g2⟩
theorem css_one (h1 : CS X st t) : CSs X [st] t := let ⟨_, p, g⟩ := h1.ok; ⟨_, pss_one p, g⟩
def dDrop (te : DE) : DS := fun D rho mu => te rho mu fun _ mu1 => D.nx rho mu1
theorem cs_expr (he : CE X e te) (hs : swapsWith e none pos.line X.env = pure false := by rfl) : CS X (.Expr e pos) (dDrop te) := by
  obtain ⟨_, p, g⟩ := he.ok
  exact ⟨_, ps_expr p hs, fun F al rho mu σ H D E S q l => g F al rho mu σ H _ _ S q fun F1 al1 x mu1 v H1 e1 C1 r1 q1 => l.nx F1 al1 rho mu1 σ H1 e1 (S.of C1 e1.ex e1.pf) q1⟩
def dRet (te : DE) : DS := fun D rho mu => te rho mu fun x mu1 => D.rt (.dv x) mu1
theorem cs_ret (he : CE X e te) : CS X (.Return (some e) pos) (dRet te) := by
  obtain ⟨_, p, g⟩ := he.ok
  exact ⟨_, ps_ret p, fun F al rho mu σ H D E S q l => g F al rho mu σ H _ _ S q fun F1 al1 x mu1 v H1 e1 C1 r1 q1 => l.rt F1 al1 mu1 (.dv x) v H1 e1 C1 r1 trivial q1⟩
def dRetF (te : DF) : DS := fun D rho mu => te rho mu fun m mu1 => D.rt (.new m) mu1
theorem cs_retF {te : DF} (he : CF X e te) : CS X (.Return (some e) pos) (dRetF te) := by
  obtain ⟨_, p, g⟩ := he.ok
  exact ⟨_, ps_ret p, fun F al rho mu σ H D E S q l => g F al rho mu σ H _ _ S q fun F1 al1 m mu1 p H1 e1 C1 na h0 dd ok q1 => l.rt F1 al1 mu1 (.new m) (.ref p) H1 e1 C1 ⟨p, rfl, na, dd, ok⟩ (fun p' ev => by cases ev; exact h0) q1⟩
def dIf (c : DT) (t u : DS) : DS := fun D rho mu => c rho mu fun b mu1 => if b = true then t D rho mu1 else u D rho mu1
theorem cs_if {c : Expr} {as bs : List Stmt} {tc : DT} (hc : CT X c tc) (ha : CSs X as t) (hb : CSs X bs u) : CS X (.If c as bs pos) (dIf tc t u) := by
  obtain ⟨_, p, g⟩ := hc.ok
  obtain ⟨_, pa, ga⟩ := ha.ok
  obtain ⟨_, pb, gb⟩ := hb.ok
  refine ⟨_, ps_if p pa pb, fun F al rho mu σ H D E S q l => g F al rho mu σ H _ _ S q fun F1 al1 c mu1 H1 e1 C1 q1 => ?_⟩
  cases c with
  | true => exact ga F1 al1 rho mu1 σ H1 D E (S.of C1 e1.ex e1.pf) q1 (l.trans e1)
  | false => exact gb F1 al1 rho mu1 σ H1 D E (S.of C1 e1.ex e1.pf) q1 (l.trans e1)
def dSet (i : Nat) (te : DE) : DS := fun D rho mu => te rho mu fun x mu1 => D.nx (setD rho i x) mu1
theorem cs_set (i : Nat) (hN : X.N.Nodup) (he : CE X e te) (hi : X.N[i]? = some x := by rfl) (hx : Loc X.env.scope x := by first | exact Or.inl rfl | exact Or.inr rfl) (hs : swapsWith e (some (.Name x pos')) pos.line X.env = pure false := by rfl) (hf : X.fn x = true ∨ X.env.scope.names.lookup x = some .local := by first | exact .inl rfl | exact .inr rfl | assumption) :
    CS X (.Assign [.Name x pos'] e pos) (dSet i te) := by
  obtain ⟨_, p, g⟩ := he.ok
  exact ⟨_, ps_set hN hi hx p hs hf, fun F al rho mu σ H D E S q l => g F al rho mu σ H _ _ S q fun F1 al1 y mu1 v H1 e1 C1 r1 q1 => l.nx F1 al1 _ mu1 _ H1 e1 ((S.of C1 e1.ex e1.pf).set i r1) q1⟩
/-- xs[i] = e, xs a cell's list -/
def dPutL (to ti te : DE) : DS := fun D rho mu => te rho mu fun y mu1 => to rho mu1 fun o mu2 => ti rho mu2 fun z mu3 => onD y fun d => onI z fun k => onLst o mu3 fun j ds => onSome (L2.ixN ds.length k) fun n => D.nx rho (mu3.set j (.lst (ds.set n d)))
theorem cs_putL {o i' : Expr} {to ti : DE} (he : CE X e te) (ho : CE X o to) (hi : CE X i' ti) (hs : swapsWithSole [.Subscript o i' pos'] e pos.line X.env = pure false := by rfl) (hw : swappedStores [.Subscript o i' pos'] e X.env = pure none := by rfl)
    (h1 : (assignEach [.Subscript o i' pos'] X.env).map (·.2) = [assign (.Subscript o i' pos') X.env] := by rfl)
    (ha : ∀ v, assign (.Subscript o i' pos') X.env v = (do
      let ov ← holding [v] (eval o X.env)
      let iv ← holding [v, ov] (eval i' X.env)
      standAt pos'
      holding [v, ov, iv] (setItem ov iv v)
      release [v, ov, iv] []) := by intro _; rfl) : CS X (.Assign [.Subscript o i' pos'] e pos) (dPutL to ti te) := by
  obtain ⟨_, p, g⟩ := he.ok
  obtain ⟨_, po, go⟩ := ho.ok
  obtain ⟨_, pi, gi⟩ := hi.ok
  refine ⟨_, ps_asg p (pg_sub po pi set_list ha) hs hw h1, fun F al rho mu σ H D E S q l => g F al rho mu σ H _ _ S q fun F1 al1 y mu1 v H1 e1 C1 r1 q1 => ?_⟩
  refine go F1 al1 rho mu1 σ H1 _ _ (S.of C1 e1.ex e1.pf) q1 fun F2 al2 o mu2 w H2 e2 C2 r2 q2 => ?_
  refine gi F2 al2 rho mu2 σ H2 _ _ (S.of C2 (e1.ex.trans e2.ex) (e1.pf.trans e2.pf)) q2 fun F3 al3 z mu3 k H3 e3 C3 r3 q3 => ?_
  obtain ⟨d, ey, q4⟩ := onD_out q3
  obtain ⟨n, ez, ek, q5⟩ := onI_out q4 r3
  obtain ⟨j, a, ds, us, ew, ha, hm, hn, hp, rl, q6⟩ := onLst_out C3 (r2.mono e3.ex e3.pf) q5
  obtain ⟨m, em, q7⟩ := onSome_out q6
  subst ey
  have rd : Rep F3 d v := (r1.mono e2.ex e2.pf).mono e3.ex e3.pf
  obtain ⟨c2, e4⟩ := C3.put (m' := .lst (ds.set m d)) (o := .lst (us.set m v)) ha hm rfl ⟨hn, _, upd_same, rl.setI rd m⟩
  have ee := ((e1.trans e2).trans e3).trans e4
  exact ⟨a, us, n, m, ew, ek, hp, by rw [rl.len]; exact em, l.nx F3 al3 rho _ σ _ ee (S.of c2 ee.ex ee.pf) q7⟩

/-! ### targets -/
abbrev DG := D → Rho → (Rho → Prop) → Prop
def Only (ws : List Nat) (σ σ' : L2.St) : Prop := ∀ vs : List Nat, (∀ w ∈ ws, w ∈ vs) → wipe σ' vs = wipe σ vs
theorem Only.set {ws : List Nat} {σ : L2.St} {i : Nat} {v : Option V} (h : i ∈ ws) : Only ws σ (σ.set i v) := fun vs hv => by
  have hi := hv i h
  clear hv h
  have key : ∀ vs : List Nat, wipe (σ.set i v) vs = (wipe σ vs).set i (if i ∈ vs then none else v) := by
    intro vs
    induction vs with
    | nil =>
      rw [if_neg (by simp)]
      rfl
    | cons w r ih =>
      show (wipe (σ.set i v) r).set w none = ((wipe σ r).set w none).set i _
      rw [ih]
      by_cases c : i = w
      · subst c
        rw [if_pos (List.mem_cons_self), List.set_set, List.set_set]
      · rw [List.set_comm _ _ (fun z => c z)]
        by_cases d : i ∈ r
        · rw [if_pos d, if_pos (by simp [d])]
        · rw [if_neg d, if_neg (by simp [c, d])]
  rw [key, if_pos hi]
  have none_at : ∀ vs : List Nat, i ∈ vs → (wipe σ vs).set i none = wipe σ vs := by
    intro vs
    induction vs with
    | nil => intro h; simp at h
    | cons w r ih =>
      intro h
      show ((wipe σ r).set w none).set i none = (wipe σ r).set w none
      by_cases c : i = w
      · subst c
        rw [List.set_set]
      · rw [List.set_comm _ _ (fun z => c z.symm), ih (by simpa [c] using h)]
  exact none_at vs hi
theorem Only.trans {ws : List Nat} {σ σ1 σ2 : L2.St} (a : Only ws σ σ1) (b : Only ws σ1 σ2) : Only ws σ σ2 := fun vs h => (b vs h).trans (a vs h)
structure CG (X : Cx) (tg : Expr) (t : DG) (ws : List Nat) : Prop where
  ok : ∃ g, PG X tg g ∧ ∀ F al rho mu σ H d v Q R, Sim F al rho mu σ H → Rep F d v → t d rho Q → (∀ rho' σ', Sim F al rho' mu σ' H → Only ws σ σ' → Q rho' → R σ' H) → g v σ H R
abbrev DGs := List D → Rho → (Rho → Prop) → Prop
structure CGs (X : Cx) (ts : List Expr) (t : DGs) (ws : List Nat) : Prop where
  ok : ∃ g, PGs X ts g ∧ ∀ F al rho mu σ H ds vs Q R, Sim F al rho mu σ H → RepL F ds vs → t ds rho Q → (∀ rho' σ', Sim F al rho' mu σ' H → Only ws σ σ' → Q rho' → R σ' H) → g vs σ H R
theorem Only.mono {ws ws' : List Nat} {σ σ' : L2.St} (h : Only ws σ σ') (k : ∀ w ∈ ws, w ∈ ws') : Only ws' σ σ' := fun vs hv => h vs fun w hw => hv w (k w hw)
theorem Only.refl {ws : List Nat} {σ : L2.St} : Only ws σ σ := fun _ _ => rfl
def dgN (i : Nat) : DG := fun d rho Q => Q (setD rho i (.dat d))
theorem cg_name (i : Nat) (hN : X.N.Nodup) (hi : X.N[i]? = some x := by rfl) (hx : Loc X.env.scope x := by first | exact Or.inl rfl | exact Or.inr rfl) (hf : X.fn x = true ∨ X.env.scope.names.lookup x = some .local := by first | exact .inl rfl | exact .inr rfl | assumption) : CG X (.Name x pos) (dgN i) [i] :=
  ⟨_, pg_name hN hi hx hf, fun F al rho mu σ H d v Q R S r q l => l _ _ (S.set (x := .dat d) i r) (Only.set (by simp)) q⟩
def dgNil : DGs := fun ds rho Q => match ds with
  | [] => Q rho
  | _ => False
def dgCons (t : DG) (u : DGs) : DGs := fun ds rho Q => match ds with
  | d :: r => t d rho fun rho' => u r rho' Q
  | [] => False
theorem cgs_nil : CGs X [] dgNil [] := ⟨_, pgs_nil, fun F al rho mu σ H ds vs Q R S r q l => by
  cases ds with
  | cons _ _ => exact q.elim
  | nil => exact ⟨r.unnil, l rho σ S Only.refl q⟩⟩
theorem cgs_cons {es : List Expr} {t : DG} {u : DGs} {w1 w2 : List Nat} (h1 : CG X e t w1) (h2 : CGs X es u w2) (hs : (assignEach (e :: es) X.env).map (·.2) = assign e X.env :: (assignEach es X.env).map (·.2) := by rfl) : CGs X (e :: es) (dgCons t u) (w1 ++ w2) := by
  obtain ⟨_, p, g⟩ := h1.ok
  obtain ⟨_, p2, g2⟩ := h2.ok
  refine ⟨_, pgs_cons p p2 hs, fun F al rho mu σ H ds vs Q R S r q l => ?_⟩
  cases ds with
  | nil => exact q.elim
  | cons d ds =>
    obtain ⟨v, w, ev, rd, rl⟩ := r.uncons
    exact ⟨v, w, ev, g F al rho mu σ H d v _ _ S rd q fun rho' σ' S' o1 q' => g2 F al rho' mu σ' H ds w Q R S' rl q' fun rho2 σ2 S2 o2 q2 => l rho2 σ2 S2 ((o1.mono fun w h => List.mem_append_left _ h).trans (o2.mono fun w h => List.mem_append_right _ h)) q2⟩
def dgTup (n : Nat) (t : DGs) : DG := fun d rho Q => match d with
  | .tup ds => ds.length = n ∧ t ds rho Q
  | _ => False
theorem cg_tup {es : List Expr} {k : Nat} {t : DGs} {n : Nat} {ws : List Nat} (hc : X.calm = true) (h : CGs X es t ws) (hn : (assignEach es X.env).length = n := by rfl) (hst : (assignEach es X.env).findIdx? (·.1) = none := by rfl) : CG X (.Tuple es k pos) (dgTup n t) ws := by
  obtain ⟨_, p, g⟩ := h.ok
  refine ⟨_, pg_tup hc p hn hst, fun F al rho mu σ H d v Q R S r q l => ?_⟩
  cases d with
  | tup ds =>
    obtain ⟨p, vs, ev, hp, rl⟩ := rv_tup_out (al := al) r
    exact ⟨p, vs, ev, .inl (.inl (S.ex _ _ hp)), by rw [rl.len]; exact q.1, g F al rho mu σ H ds vs Q R S rl q.2 l⟩
  | _ => exact q.elim
def dAsg (te : DE) (t : DG) : DS := fun D rho mu => te rho mu fun x mu1 => onD x fun d => t d rho fun rho' => D.nx rho' mu1
theorem cs_asg {tg : Expr} {t : DG} {ws : List Nat} (he : CE X e te) (hg : CG X tg t ws) (hs : swapsWithSole [tg] e pos.line X.env = pure false := by rfl) (hw : swappedStores [tg] e X.env = pure none := by rfl)
    (h1 : (assignEach [tg] X.env).map (·.2) = [assign tg X.env] := by rfl) : CS X (.Assign [tg] e pos) (dAsg te t) := by
  obtain ⟨_, p, g⟩ := he.ok
  obtain ⟨_, p2, g2⟩ := hg.ok
  refine ⟨_, ps_asg p p2 hs hw h1, fun F al rho mu σ H D E S q l => g F al rho mu σ H _ _ S q fun F1 al1 y mu1 v H1 e1 C1 r1 q1 => ?_⟩
  obtain ⟨d, ed, q1⟩ := onD_out q1
  subst ed
  exact g2 F1 al1 rho mu1 σ H1 d v _ _ (S.of C1 e1.ex e1.pf) r1 q1 fun rho' σ' S' _ q' => l.nx F1 al1 rho' mu1 σ' H1 e1 S' q'
/-! ### freezing a cell by its name: it is data from here on -/
def killO (k : Nat) (d : D) : Option DV → Option DV
  | some (.cel j) => match Nat.beq j k with
    | true => some (.dat d)
    | false => some (.cel j)
  | x => x
def killD (k : Nat) (d : D) (r : Rho) : Rho := r.map (killO k d)
theorem killD_len (k : Nat) (d : D) (rho : Rho) : (killD k d rho).length = rho.length := List.length_map _
theorem killD_at {k : Nat} {d : D} {rho : Rho} {i : Nat} {x : DV} (h : (killD k d rho)[i]? = some (some x)) : rho[i]? = some (some x) ∨ (rho[i]? = some (some (.cel k)) ∧ x = .dat d) := by
  unfold killD at h
  rw [List.getElem?_map] at h
  cases hr : rho[i]? with
  | none => rw [hr] at h; cases h
  | some o =>
    rw [hr] at h
    have h := Option.some.inj h
    cases o with
    | none => cases h
    | some y =>
      cases y with
      | dat e => exact .inl (congrArg some h)
      | cel j =>
        have h2 : (match Nat.beq j k with
          | true => some (DV.dat d)
          | false => some (DV.cel j)) = some x := h
        cases c : Nat.beq j k with
        | true =>
          rw [c] at h2
          have c := Nat.eq_of_beq_eq_true c
          subst c
          exact .inr ⟨rfl, (Option.some.inj h2).symm⟩
        | false =>
          rw [c] at h2
          exact .inl (congrArg some h2)
/-- ahead of the rest: slot i's cell becomes data -/
def dFz (i : Nat) (t : DS) : DS := fun D rho mu => match slotD rho i with
  | some (.cel k) => match mu[k]? with
    | some m => isDead m = false ∧ t D (killD k m.toD rho) (mu.set k .dead)
    | none => False
  | _ => False
theorem gs_fz {ts : TS} (i : Nat) (g : GS ts t) : GS ts (dFz i t) := fun F al rho mu σ H D E S q l => by
  unfold dFz at q
  cases hs : slotD rho i with
  | none =>
    rw [hs] at q
    exact q.elim
  | some y =>
    rw [hs] at q
    cases y with
    | dat d => exact q.elim
    | cel k =>
      cases hk : mu[k]? with
      | none =>
        simp only [hk] at q
      | some m =>
        simp only [hk] at q
        obtain ⟨live, q⟩ := q
        obtain ⟨v, ev, a, ha, er⟩ := S.slot i _ (slotD_at hs)
        have ok := S.cel k a m ha hk
        obtain ⟨o, ho, rep⟩ := ok.frz live
        have hn := ok.un live
        have ma : a ∈ al := List.mem_of_getElem? ha
        have ex' : Ex F (upd F a o) := ex_upd hn
        have C' : Cels (upd F a o) al (mu.set k .dead) H := ⟨fun b w hb => by
            by_cases c : b = a
            · subst c
              rw [upd_same] at hb
              cases hb
              exact ho
            · rw [upd_ne c] at hb
              exact S.ex b w hb, nt_upd S.nt (ok.frzN live ho), S.tb, by rw [List.length_set]; exact S.len, S.nd, fun j b x h1 h2 => by
            by_cases hj : j = k
            · subst hj
              rw [ha] at h1
              cases h1
              rw [List.getElem?_set_self (List.getElem?_eq_some_iff.mp hk).1] at h2
              cases h2
              exact ok.there
            · have hb : b ≠ a := fun z => by
                subst z
                have e1 := List.getElem?_eq_some_iff.mp h1
                have e2 := List.getElem?_eq_some_iff.mp ha
                exact hj ((List.getElem_inj S.nd).mp (e1.2.trans e2.2.symm))
              rw [List.getElem?_set_ne (fun z => hj z.symm)] at h2
              exact (S.cel j b x h1 h2).mono ex' (fun z => by rw [upd_ne hb]; exact z) rfl⟩
        have E' : Ext F al H (upd F a o) al H := ⟨ex', List.prefix_refl _, fun b hb => by
            by_cases c : b = a
            · subst c
              exact .inr (.inr ma)
            · rw [upd_ne c] at hb
              exact .inl hb, fun b hb => .inl hb, fun b w _ h _ => h, fun b h => h⟩
        refine g (upd F a o) al _ _ σ H D E ⟨C', by rw [killD_len]; exact S.slen, fun j x hx => ?_⟩ q (l.trans E')
        rcases killD_at hx with h | ⟨h, e⟩
        · obtain ⟨w, q1, q2⟩ := S.slot j x h
          exact ⟨w, q1, q2.mono ex' (List.prefix_refl _)⟩
        · obtain ⟨w, q1, a', q2, q3⟩ := S.slot j _ h
          rw [ha] at q2
          cases q2
          subst e
          subst q3
          exact ⟨_, q1, rep _ ex' upd_same⟩
theorem css_fz (i : Nat) (h : CSs X rest u) : CSs X rest (dFz i u) := let ⟨_, p, g⟩ := h.ok; ⟨_, p, gs_fz i g⟩
/-! ### while -/
def dWhile (c : DT) (tb : DS) : DS := fun D rho mu => ∃ W : Nat → Rho → Mu → Prop, (∃ m, W m rho mu) ∧ ∀ m rho mu, W m rho mu →
  c rho mu fun b mu1 => if b = true then tb { D with nx := fun r u => ∃ m', m' < m ∧ W m' r u, ct := fun r u => ∃ m', m' < m ∧ W m' r u, bk := D.nx } rho mu1 else D.nx rho mu1
theorem cs_while {c : Expr} {body : List Stmt} {tc : DT} {tb : DS} (hp : PassesOwn (model X.prog X.w) X.A X.env X.xe) (hc : CT X c tc) (hb : CSs X body tb) : CS X (.While c body [] pos) (dWhile tc tb) := by
  obtain ⟨_, p, g⟩ := hc.ok
  obtain ⟨_, pb, gb⟩ := hb.ok
  refine ⟨_, ps_while hp p pb, fun F al rho mu σ H D E S q l => ?_⟩
  obtain ⟨W, ⟨m0, w0⟩, turn⟩ := q
  refine ⟨fun m σ' H' => ∃ F' al' rho' mu', Ext F al H F' al' H' ∧ Sim F' al' rho' mu' σ' H' ∧ W m rho' mu', ⟨m0, F, al, rho, mu, Ext.refl, S, w0⟩, ?_⟩
  rintro m σ1 H1 ⟨F1, al1, rho1, mu1, e1, S1, w1⟩
  refine g F1 al1 rho1 mu1 σ1 H1 _ _ S1 (turn m rho1 mu1 w1) fun F2 al2 b mu2 H2 e2 C2 q2 => ?_
  have S2 := S1.of C2 e2.ex e2.pf
  cases b with
  | false => exact l.nx F2 al2 rho1 mu2 σ1 H2 (e1.trans e2) S2 q2
  | true =>
    refine ⟨fun σ' H' => ∃ m', m' < m ∧ ∃ F' al' rho' mu', Ext F al H F' al' H' ∧ Sim F' al' rho' mu' σ' H' ∧ W m' rho' mu', fun σ' H' h => h, ?_⟩
    refine gb F2 al2 rho1 mu2 σ1 H2 _ _ S2 q2 ⟨fun F3 al3 rho3 mu3 σ3 H3 e3 S3 q3 => ?_, (l.trans (e1.trans e2)).rt, fun F3 al3 rho3 mu3 σ3 H3 e3 S3 q3 => (l.trans (e1.trans e2)).nx F3 al3 rho3 mu3 σ3 H3 e3 S3 q3, fun F3 al3 rho3 mu3 σ3 H3 e3 S3 q3 => ?_⟩
    · obtain ⟨m', hm, w3⟩ := q3
      exact ⟨m', hm, F3, al3, rho3, mu3, (e1.trans e2).trans e3, S3, w3⟩
    · obtain ⟨m', hm, w3⟩ := q3
      exact ⟨m', hm, F3, al3, rho3, mu3, (e1.trans e2).trans e3, S3, w3⟩

/-! ### what a loop walks -/
def ItD (F : Hp) (J : It) (ds : List D) : Prop := ∀ F1 al1 mu1 H1, Ex F F1 → Cels F1 al1 mu1 H1 → ∀ i,
  (∀ d, ds[i]? = some d → J.go i H1 ∧ ∀ x H2, J.yld i H1 x H2 → ∃ F2, Ext F1 al1 H1 F2 al1 H2 ∧ Cels F2 al1 mu1 H2 ∧ Rep F2 d x) ∧ (ds.length ≤ i → J.stop i H1)
abbrev DI := Rho → Mu → (List D → Mu → Prop) → Prop
structure CI (X : Cx) (tg iter : Expr) (t : DI) : Prop where
  ok : ∃ wi, PI X tg iter wi ∧ ∀ F al rho mu σ H Q R, Sim F al rho mu σ H → t rho mu Q → (∀ F' al' ds mu' J H', Ext F al H F' al' H' → Cels F' al' mu' H' → ItD F' J ds → Q ds mu' → R J H') → wi σ H R
def dForL (t : DG) (tb : DS) (N : DEnds) : List D → Rho → Mu → Prop
  | [], rho, mu => N.nx rho mu
  | d :: ds, rho, mu => t d rho fun rho' => tb { N with nx := dForL t tb N ds, ct := dForL t tb N ds, bk := N.nx } rho' mu
def dFor (ti : DI) (t : DG) (tb : DS) : DS := fun D rho mu => ti rho mu fun ds mu1 => dForL t tb D ds rho mu1
theorem cs_for {tg iter : Expr} {body : List Stmt} {ti : DI} {t : DG} {tb : DS} {ws : List Nat} (hp : PassesOwn (model X.prog X.w) X.A X.env X.xe) (hc : X.calm = true) (hi : CI X tg iter ti) (hg : CG X tg t ws) (hb : CSs X body tb)
    (hs : ∀ x, foldedSetIterable iter X.env x = pure x := by intro _; rfl) : CS X (.For tg iter body [] pos) (dFor ti t tb) := by
  obtain ⟨_, p, g⟩ := hi.ok
  obtain ⟨_, pg, gg⟩ := hg.ok
  obtain ⟨_, pb, gb⟩ := hb.ok
  refine ⟨_, ps_for hp hc p pg pb hs, fun F al rho mu σ H D E S q l => g F al rho mu σ H _ _ S q fun F1 al1 ds mu1 J H1 e1 C1 it q1 => ?_⟩
  refine ⟨fun i m σ' H' => ∃ F' al' rho' mu', m = ds.length - i ∧ Ext F1 al1 H1 F' al' H' ∧ Sim F' al' rho' mu' σ' H' ∧ dForL t tb D (ds.drop i) rho' mu', ⟨_, F1, al1, rho, mu1, rfl, Ext.refl, S.of C1 e1.ex e1.pf, q1⟩, ?_⟩
  rintro i m σ2 H2 ⟨F2, al2, rho2, mu2, em, e2, S2, q2⟩
  have itw := it F2 al2 mu2 H2 e2.ex S2.toCels i
  by_cases hl : i < ds.length
  · have hd : ds[i]? = some ds[i] := List.getElem?_eq_getElem hl
    have ed : ds.drop i = ds[i] :: ds.drop (i + 1) := List.drop_eq_getElem_cons hl
    obtain ⟨go, yl⟩ := itw.1 _ hd
    refine .inr ⟨go, fun σ' H' => ∃ m', m' < m ∧ ∃ F' al' rho' mu', m' = ds.length - (i + 1) ∧ Ext F1 al1 H1 F' al' H' ∧ Sim F' al' rho' mu' σ' H' ∧ dForL t tb D (ds.drop (i + 1)) rho' mu', fun σ' H' h => h, fun x H3 hy => ?_⟩
    obtain ⟨F3, e3, C3, rx⟩ := yl x H3 hy
    rw [ed] at q2
    have S3 := S2.of C3 e3.ex e3.pf
    refine gg F3 al2 rho2 mu2 σ2 H3 ds[i] x _ _ S3 rx q2 fun rho4 σ4 S4 _ q4 => ?_
    have e13 := e2.trans e3
    have ll := l.trans (e1.trans e13)
    have nxt : ∀ F5 al5 rho5 mu5 σ5 H5, Ext F3 al2 H3 F5 al5 H5 → Sim F5 al5 rho5 mu5 σ5 H5 → dForL t tb D (ds.drop (i + 1)) rho5 mu5 → ∃ m', m' < m ∧ ∃ F' al' rho' mu', m' = ds.length - (i + 1) ∧ Ext F1 al1 H1 F' al' H5 ∧ Sim F' al' rho' mu' σ5 H5 ∧ dForL t tb D (ds.drop (i + 1)) rho' mu' :=
      fun F5 al5 rho5 mu5 σ5 H5 e5 S5 q5 => ⟨_, by omega, F5, al5, rho5, mu5, rfl, e13.trans e5, S5, q5⟩
    exact gb F3 al2 rho4 mu2 σ4 H3 _ _ S4 q4 ⟨nxt, ll.rt, fun F5 al5 rho5 mu5 σ5 H5 e5 S5 q5 => ll.nx F5 al5 rho5 mu5 σ5 H5 e5 S5 q5, nxt⟩
  · refine .inl ⟨itw.2 (by omega), ?_⟩
    rw [List.drop_eq_nil_of_le (by omega)] at q2
    exact l.nx F2 al2 rho2 mu2 σ2 H2 (e1.trans e2) S2 q2
/-- over a list, over a tuple (data) -/
def iDat (te : DE) : DI := fun rho mu Q => te rho mu fun x mu1 => match x with
  | .dat (.lst ds) => Q ds mu1
  | _ => False
def iDatT (te : DE) : DI := fun rho mu Q => te rho mu fun x mu1 => match x with
  | .dat (.tup ds) => Q ds mu1
  | _ => False
theorem itD_list {K : PySem.W.Frag} {F : Hp} {p : Addr} {vs : List V} {ds : List D} (hp : F p = some (.lst vs)) (rl : RepL F ds vs) : ItD F (Itl K p) ds := fun F1 al1 mu1 H1 e C i => by
  have h1 : SqL K H1 p vs := .inl (.inl (C.ex _ _ (e _ _ hp)))
  have rl1 := rl.mono e
  refine ⟨fun d hd => ?_, fun hl => ⟨vs, h1, by rw [rl.len]; exact hl⟩⟩
  obtain ⟨v, hv, rd⟩ := rl1.get hd
  refine ⟨⟨vs, v, h1, hv⟩, fun x H2 y => ?_⟩
  obtain ⟨eH, y⟩ := y
  subst eH
  have := (y vs h1).symm.trans hv
  cases this
  exact ⟨F1, Ext.refl, C, rd⟩
theorem itD_tup {K : PySem.W.Frag} {F : Hp} {p : Addr} {vs : List V} {ds : List D} (hp : F p = some (.tup vs)) (rl : RepL F ds vs) : ItD F (Itt K p) ds := fun F1 al1 mu1 H1 e C i => by
  have h1 : SqT K H1 p vs := .inl (.inl (C.ex _ _ (e _ _ hp)))
  have rl1 := rl.mono e
  refine ⟨fun d hd => ?_, fun hl => ⟨vs, h1, by rw [rl.len]; exact hl⟩⟩
  obtain ⟨v, hv, rd⟩ := rl1.get hd
  refine ⟨⟨vs, v, h1, hv⟩, fun x H2 y => ?_⟩
  obtain ⟨eH, y⟩ := y
  subst eH
  have := (y vs h1).symm.trans hv
  cases this
  exact ⟨F1, Ext.refl, C, rd⟩
variable {tg : Expr}
theorem ci_list (he : CE X e te) : CI X tg e (iDat te) := by
  obtain ⟨_, p, g⟩ := he.ok
  refine ⟨_, pi_list p, fun F al rho mu σ H Q R S q l => g F al rho mu σ H _ _ S q fun F1 al1 x mu1 v H1 e1 C1 r1 q1 => ?_⟩
  cases x with
  | cel k => exact q1.elim
  | dat d =>
    cases d with
    | lst ds =>
      obtain ⟨p, vs, ev, hp, rl⟩ := rv_lst_out r1
      exact ⟨p, ev, ⟨vs, .inl (.inl (C1.ex _ _ hp))⟩, l F1 al1 ds mu1 _ H1 e1 C1 (itD_list hp rl) q1⟩
    | _ => exact q1.elim
theorem ci_tup (he : CE X e te) : CI X tg e (iDatT te) := by
  obtain ⟨_, p, g⟩ := he.ok
  refine ⟨_, pi_tup p, fun F al rho mu σ H Q R S q l => g F al rho mu σ H _ _ S q fun F1 al1 x mu1 v H1 e1 C1 r1 q1 => ?_⟩
  cases x with
  | cel k => exact q1.elim
  | dat d =>
    cases d with
    | tup ds =>
      obtain ⟨p, vs, ev, hp, rl⟩ := rv_tup_out r1
      exact ⟨p, ev, ⟨vs, .inl (.inl (C1.ex _ _ hp))⟩, l F1 al1 ds mu1 _ H1 e1 C1 (itD_tup hp rl) q1⟩
    | _ => exact q1.elim
/-- over a text, sign by sign -/
def iStrD (te : DE) : DI := fun rho mu Q => te rho mu fun x mu1 => onS x fun s => Q (s.map fun c => D.str [c]) mu1
theorem ci_str (he : CE X e te) : CI X tg e (iStrD te) := by
  obtain ⟨_, p, g⟩ := he.ok
  refine ⟨_, pi_str p, fun F al rho mu σ H Q R S q l => g F al rho mu σ H _ _ S q fun F1 al1 x mu1 v H1 e1 C1 r1 q1 => ?_⟩
  obtain ⟨s, ex, ev, q1⟩ := onS_out q1 r1
  refine ⟨mkS s, ev, l F1 al1 _ mu1 _ H1 e1 C1 (fun F2 al2 mu2 H2 e2 C2 i => ?_) q1⟩
  have hsz : (mkS s).cps.size = s.length := mkS_len s
  refine ⟨fun d hd => ?_, fun hl => by rw [List.length_map] at hl; show (mkS s).cps.size ≤ i; omega⟩
  rw [List.getElem?_map] at hd
  cases hc : s[i]? with
  | none =>
    rw [hc] at hd
    cases hd
  | some c =>
    rw [hc] at hd
    have ed : d = D.str [c] := (Option.some.inj hd).symm
    have hi : i < s.length := (List.getElem?_eq_some_iff.mp hc).1
    refine ⟨by show i < (mkS s).cps.size; omega, fun x H3 y => ?_⟩
    obtain ⟨eH, c', hc', ex'⟩ := y
    subst eH
    have e5 : c' = c := by
      have e6 : (mkS s).cps[i]? = s[i]? := by
        show s.toArray[i]? = s[i]?
        simp
      rw [e6, hc] at hc'
      exact (Option.some.inj hc').symm
    subst e5
    subst ed
    subst ex'
    exact ⟨F2, Ext.refl, C2, by rw [Rep]⟩
/-- over ranges -/
def rngD (lo : Int) (n : Nat) : List D := (List.range n).map fun (k : Nat) => D.int (lo + k)
def iRg1 (ta : DA) : DI := fun rho mu Q => ta rho mu fun xs mu1 => on1 xs fun x => onI x fun j => j < 2 ^ 60 ∧ -(2 ^ 60) < j ∧ Q (rngD 0 j.toNat) mu1
theorem itD_rng {F : Hp} (lo : Int) (n : Nat) : ItD F (Itr lo n) (rngD lo n) := fun F1 al1 mu1 H1 e C i => by
  unfold rngD
  refine ⟨fun d hd => ?_, fun hl => by rw [List.length_map, List.length_range] at hl; exact hl⟩
  rw [List.getElem?_map] at hd
  by_cases hi : i < n
  · rw [List.getElem?_range hi] at hd
    have ed : d = D.int (lo + (i : Nat)) := (Option.some.inj hd).symm
    refine ⟨hi, fun x H2 y => ?_⟩
    obtain ⟨eH, ex⟩ := y
    subst eH
    subst ed
    subst ex
    exact ⟨F1, Ext.refl, C, by rw [Rep]⟩
  · rw [List.getElem?_eq_none (by rw [List.length_range]; omega)] at hd
    cases hd
theorem ci_rg1 {p : Pos} {tr : DA} (hm : X.mg "range" = none) (ha : CA X [a] tr) (hg : Gl X "range" := by rfl) (hs : starEach [a] X.env = [(false, eval a X.env)] := by rfl) : CI X tg (.Call (.Name "range" p) [a] [] pos) (iRg1 tr) := by
  obtain ⟨_, pa, g⟩ := ha.ok
  refine ⟨_, pi_range1 hg hm pa hs, fun F al rho mu σ H Q R S q l => g F al rho mu σ H _ _ S q fun F1 al1 xs mu1 vs H1 e1 C1 r1 q1 => ?_⟩
  obtain ⟨x, v, ev, rx, q1⟩ := on1_out q1 r1
  obtain ⟨j, ex, ej, q2, q3, q1⟩ := onI_out q1 rx
  subst ej
  exact ⟨j, ev, by omega, by omega, l F1 al1 _ mu1 _ H1 e1 C1 (itD_rng 0 j.toNat) q1⟩
end

/-! ### a def -/
/-- the end of a def: what it hands back, its first n cells -/
def retQ (n : Nat) (Q : RV → Mu → Prop) : RV → Mu → Prop := fun rv mu => match rv with
  | .dv (.dat d) => Q (.dv (.dat d)) (mu.take n)
  | .dv (.cel k) => match mu[k]? with
    | some m => n ≤ k ∧ isDead m = false ∧ Q (.new m) (mu.take n)
    | none => False
  | .new m => Q (.new m) (mu.take n)
def startD (N : List Str) (xs : List DV) : Rho := xs.map some ++ List.replicate (N.length - xs.length) none
theorem sim_start {F : Hp} {al : List Addr} {mu : Mu} {H : Hp} {xs : List DV} {vs : List V} {N : List Str} (C : Cels F al mu H) (r : RepVs F al xs vs) : Sim F al (startD N xs) mu (L2.start N vs) H where
  toCels := C
  slen := by
    unfold startD L2.start
    rw [List.length_append, List.length_append, List.length_map, List.length_map, List.length_replicate, List.length_replicate, r.len]
  slot := fun i x h => by
    unfold startD at h
    unfold L2.start
    by_cases hi : i < xs.length
    · rw [List.getElem?_append_left (by rw [List.length_map]; exact hi), List.getElem?_map] at h
      rw [List.getElem?_append_left (by rw [List.length_map, r.len]; exact hi), List.getElem?_map]
      have w : ∀ {xs : List DV} {vs : List V} {i : Nat} {x : DV}, RepVs F al xs vs → xs[i]? = some x → ∃ v, vs[i]? = some v ∧ RepV F al x v := by
        intro xs vs i x r
        induction r generalizing i with
        | nil => intro h; simp at h
        | cons h t ih =>
          intro e
          cases i with
          | zero =>
            simp at e
            subst e
            exact ⟨_, rfl, h⟩
          | succ i => exact ih (by simpa using e)
      cases hx : xs[i]? with
      | none =>
        rw [hx] at h
        cases h
      | some y =>
        rw [hx] at h
        have ey : y = x := Option.some.inj (Option.some.inj h)
        subst ey
        obtain ⟨v, q1, q2⟩ := w r hx
        exact ⟨v, by rw [q1]; rfl, q2⟩
    · rw [List.getElem?_append_right (by rw [List.length_map]; omega)] at h
      have := List.mem_of_getElem? h
      rw [List.mem_replicate] at this
      cases this.2
theorem Cels.cutTo {F F' H H' : Hp} {al al' : List Addr} {mu' : Mu} (C : Cels F' al' mu' H') (E : Ext F al H F' al' H') : Cels F' al (mu'.take al.length) H' ∧ Ext F al H F' al H' := by
  obtain ⟨t, e⟩ := E.pf
  have hl : al.length ≤ mu'.length := by
    rw [← C.len, ← e, List.length_append]
    omega
  refine ⟨⟨C.ex, C.nt, C.tb, by rw [List.length_take]; omega, ?_, fun k a m h1 h2 => ?_⟩, ⟨E.ex, List.prefix_refl _, E.nf, fun a h => .inl h, E.kp, E.dm⟩⟩
  · have w := C.nd
    rw [← e, List.nodup_append] at w
    exact w.1
  · have hk := (List.getElem?_eq_some_iff.mp h1).1
    rw [List.getElem?_take_of_lt hk] at h2
    exact C.cel k a m (by rw [← e, List.getElem?_append_left hk]; exact h1) h2
/-- THE RULE for a def over data -/
theorem dfn {P : Program} {w : World} {K : PySem.W.Frag} {mg : Str → Option Value} {base : Heap} {x qual : Str} {st : Stmt} {f : Addr} {fd : FuncData} {N ps : List Str} {k : Nat} {S : FS} (F : Fun K x qual st f fd) (sc : FnScope N ps (defScope st))
    (len : ∀ xs mu Q, S xs mu Q → xs.length = ps.length)
    (body : ∀ (cdv : Value) (A : Around) (outer : List Env) (s : Shared) (H : Hp) (E : XK), Room k (A.deeper (envOfC qual (defScope st) s.heap.objs.size f cdv)) →
      ∃ t, CSs (cxOf CX0 P w K mg base N qual (defScope st) f cdv A outer s H E).nox (defBody st) t ∧ ∀ xs mu Q, S xs mu Q → t { nx := fun _ mu' => retQ mu.length Q (.dv (.dat .non)) mu', rt := retQ mu.length Q } (startD N xs) mu) :
    FnOk P w K mg base CX0 (k + 1) f fd ps (spOf S) := by
  refine F.ok sc (fun vs H Q E h => ?_) (fun cdv A outer s H vs Q E hr h => ?_)
  · obtain ⟨F0, al, xs, mu, Qd, C, r, q, _⟩ := h
    rw [r.len]
    exact len _ _ _ q
  · obtain ⟨F0, al, xs, mu, Qd, C, r, q, l⟩ := h
    obtain ⟨t, hc, hq⟩ := body cdv A outer s H E hr
    obtain ⟨ts, hp, g⟩ := hc.ok
    refine ⟨ts, hp, g F0 al (startD N xs) mu (L2.start N vs) H _ _ (sim_start C r) (hq xs mu Qd q) ?_⟩
    have rt : ∀ F' al' mu' rv v H', Ext F0 al H F' al' H' → Cels F' al' mu' H' → RetV F' al' H' rv v → Fresh H rv v → retQ mu.length Qd rv mu' → Q v H' := fun F' al' mu' rv v H' E' C' rr fr q' => by
      obtain ⟨C2, E2⟩ := C'.cutTo E'
      rw [C.len] at C2
      cases rv with
      | dv x =>
        cases x with
        | dat d => exact l F' _ (.dv (.dat d)) v H' E2 C2 rr fr q'
        | cel j =>
          obtain ⟨a, ha, ev⟩ := rr
          have q2 : (match mu'[j]? with
            | some m => mu.length ≤ j ∧ isDead m = false ∧ Qd (.new m) (mu'.take mu.length)
            | none => False) := q'
          cases hm : mu'[j]? with
          | none =>
            rw [hm] at q2
            exact q2.elim
          | some m =>
            rw [hm] at q2
            obtain ⟨hj, dd, q2⟩ := q2
            have na : a ∉ al := fun z => by
              obtain ⟨i, hi, ei⟩ := List.getElem_of_mem z
              obtain ⟨t, et⟩ := E'.pf
              have e1 : al'[i]? = some a := by
                rw [← et, List.getElem?_append_left hi, List.getElem?_eq_getElem hi, ei]
              have e2 := List.getElem?_eq_some_iff.mp e1
              have e3 := List.getElem?_eq_some_iff.mp ha
              have e4 := (List.getElem_inj C'.nd).mp (e2.2.trans e3.2.symm)
              have := C.len
              omega
            refine l F' _ (.new m) v H' E2 C2 ⟨a, ev, na, dd, C'.cel j a m ha hm⟩ (fun p ep => ?_) q2
            rw [ev] at ep
            cases ep
            rcases E'.nc a (List.mem_of_getElem? ha) with z | z
            · exact absurd z na
            · exact z
      | new m =>
        obtain ⟨p, ev, na, dd, ok⟩ := rr
        exact l F' _ (.new m) v H' E2 C2 ⟨p, ev, fun z => na (E'.pf.subset z), dd, ok⟩ fr q'
    exact ⟨fun F' al' rho' mu' σ' H' E' S' q' => rt F' al' mu' (.dv (.dat .non)) .non H' E' S'.toCels (rv_non (F := F') (al := al')) trivial q', rt, fun _ _ _ _ _ _ _ _ z => z.elim, fun _ _ _ _ _ _ _ _ z => z.elim⟩
end Dx

namespace Dx
open PySem PySem.Spec PyProof.Rows L2
open Evl (Ex)
variable [Tb]

/-! ### the weakest reading of a reading over data -/
def teOf (t : DE) : TE := fun σ H R => ∃ F al rho mu Q, Sim F al rho mu σ H ∧ t rho mu Q ∧ LK F al H Q R
def ttOf (t : DT) : TT := fun σ H R => ∃ F al rho mu Q, Sim F al rho mu σ H ∧ t rho mu Q ∧ LT F al H Q R
def tgOf (t : DG) (ws : List Nat) : TG := fun v σ H R => ∃ F al rho mu d Q, Sim F al rho mu σ H ∧ Rep F d v ∧ t d rho Q ∧ (∀ rho' σ', Sim F al rho' mu σ' H → Only ws σ σ' → Q rho' → R σ' H)
section
variable {X : Cx} {e : Expr}
theorem CE.pe {t : DE} (h : CE X e t) : PE X e (teOf t) := by
  obtain ⟨te, p, g⟩ := h.ok
  refine ⟨fun pins s σ H Q I hw => ?_⟩
  obtain ⟨F, al, rho, mu, Qd, S, q, l⟩ := hw
  exact p.run pins s σ H Q I (g F al rho mu σ H Qd Q S q l)
theorem CT.pt {t : DT} (h : CT X e t) : PT X e (ttOf t) := by
  obtain ⟨te, p, g⟩ := h.ok
  refine ⟨fun pins s σ H Q I hw => ?_⟩
  obtain ⟨F, al, rho, mu, Qd, S, q, l⟩ := hw
  exact p.run pins s σ H Q I (g F al rho mu σ H Qd Q S q l)
theorem CG.pg {t : DG} {ws : List Nat} (h : CG X e t ws) : PG X e (tgOf t ws) := by
  obtain ⟨te, p, g⟩ := h.ok
  refine ⟨fun pins s σ H v u Q I r hw => ?_⟩
  obtain ⟨F, al, rho, mu, d, Qd, S, rd, q, l⟩ := hw
  exact p.run pins s σ H v u Q I r (g F al rho mu σ H d v Qd Q S rd q l)
end

/-! ### beside: an object that is neither frozen nor a cell changes -/
theorem Cels.side {F : Hp} {al : List Addr} {mu : Mu} {H : Hp} {p : Addr} {o : HO} (S : Cels F al mu H) (hf : F p = none) (na : p ∉ al) {o1 : HO} (h1 : H p = some o1) (pl : Plain p o1) : Cels F al mu (upd H p o) where
  ex := fun a u h => by
    rw [upd_ne (ne_of_none h hf)]
    exact S.ex a u h
  nt := S.nt
  tb := tabs_put S.tb h1 pl
  len := S.len
  nd := S.nd
  cel := fun k a m h1' h2 => by
    have ne : a ≠ p := fun z => by
      subst z
      exact na (List.mem_of_getElem? h1')
    exact (S.cel k a m h1' h2).mono (Ex.refl F) (fun z => z) (upd_ne ne)
theorem Ext.side {F F' H H' : Hp} {al al' : List Addr} {p : Addr} {o : HO} (E : Ext F al H F' al' H') (hp : H p = none) : Ext F al H F' al' (upd H' p o) where
  ex := E.ex
  pf := E.pf
  nf := E.nf
  nc := E.nc
  kp := fun a u h q nt => by
    rw [upd_ne (ne_of_none q hp)]
    exact E.kp a u h q nt
  dm := fun a h => by
    by_cases c : a = p
    · subst c
      exact absurd hp h
    · rw [upd_ne c]
      exact E.dm a h
/-- the object stays beside -/
theorem Ext.stays {F F' H H' : Hp} {al al' : List Addr} {p : Addr} {o : HO} (E : Ext F al H F' al' H') (hp : H p = some o) (hf : F p = none) (na : p ∉ al) (nt : ∀ ps, o ≠ .tbl ps := by intro _ z; cases z) : H' p = some o ∧ F' p = none ∧ p ∉ al' := by
  refine ⟨E.kp p o na hp nt, ?_, fun z => ?_⟩
  · cases q : F' p with
    | none => rfl
    | some u =>
      rcases E.nf p (by rw [q]; exact fun z => nomatch z) with w | w | w
      · exact absurd hf w
      · rw [w] at hp
        cases hp
      · exact absurd w na
  · rcases E.nc p z with w | w
    · exact na w
    · rw [w] at hp
      cases hp

/-! ### comprehensions -/
def clrD : Rho → Nat → Rho
  | [], _ => []
  | _ :: r, 0 => none :: r
  | y :: r, n + 1 => y :: clrD r n
theorem clrD_eq : ∀ (rho : Rho) (i : Nat), clrD rho i = rho.set i none
  | [], _ => rfl
  | _ :: r, 0 => rfl
  | y :: r, n + 1 => by
    rw [clrD, List.set_cons_succ, clrD_eq r n]
def wipeD (rho : Rho) : List Nat → Rho
  | [] => rho
  | v :: vs => clrD (wipeD rho vs) v
theorem Sim.clr {F : Hp} {al : List Addr} {rho : Rho} {mu : Mu} {σ : L2.St} {H : Hp} (S : Sim F al rho mu σ H) (i : Nat) : Sim F al (clrD rho i) mu (σ.set i none) H where
  toCels := S.toCels
  slen := by rw [clrD_eq, List.length_set, List.length_set]; exact S.slen
  slot := fun j y h => by
    rw [clrD_eq] at h
    by_cases hj : j = i
    · subst hj
      by_cases hl : j < rho.length
      · rw [List.getElem?_set_self hl] at h
        cases h
      · rw [List.getElem?_eq_none (by rw [List.length_set]; omega)] at h
        cases h
    · rw [List.getElem?_set_ne (fun z => hj z.symm)] at h
      obtain ⟨w, q1, q2⟩ := S.slot j y h
      exact ⟨w, by rw [List.getElem?_set_ne (fun z => hj z.symm)]; exact q1, q2⟩
theorem Sim.wipe {F : Hp} {al : List Addr} {rho : Rho} {mu : Mu} {σ : L2.St} {H : Hp} (S : Sim F al rho mu σ H) : ∀ vs : List Nat, Sim F al (wipeD rho vs) mu (L2.wipe σ vs) H
  | [] => S
  | v :: vs => (S.wipe vs).clr v
def dYes : DT := fun _ mu Q => Q true mu
def dCompL (t : DG) (tt : DT) (te : DE) (rho : Rho) (Q : List D → Mu → Prop) : List D → List D → Mu → Prop
  | [], acc, mu => Q acc mu
  | d :: ds, acc, mu => t d rho fun rho' => tt rho' mu fun b mu1 => if b = true then te rho' mu1 fun x mu2 => onD x fun y => acc.length < 1000000 ∧ dCompL t tt te rho Q ds (acc ++ [y]) mu2 else dCompL t tt te rho Q ds acc mu1
def fLc (ti : DI) (t : DG) (tt : DT) (te : DE) (vs : List Nat) : DF := fun rho mu Q => ti rho mu fun ds mu1 => dCompL t tt te (wipeD rho vs) (fun acc mu2 => Q (.lst acc) mu2) ds [] mu1
theorem wipe_wipe (σ : L2.St) (vs : List Nat) : wipe (wipe σ vs) vs = wipe σ vs := by
  have none_at : ∀ (i : Nat) (vs : List Nat), i ∈ vs → (wipe σ vs).set i none = wipe σ vs := by
    intro i vs
    induction vs with
    | nil => intro h; simp at h
    | cons w r ih =>
      intro h
      show ((wipe σ r).set w none).set i none = (wipe σ r).set w none
      by_cases c : i = w
      · subst c
        rw [List.set_set]
      · rw [List.set_comm _ _ (fun z => c z.symm), ih (by simpa [c] using h)]
  have key : ∀ (ws : List Nat), (∀ w ∈ ws, w ∈ vs) → wipe (wipe σ vs) ws = wipe σ vs := by
    intro ws
    induction ws with
    | nil => intro _; rfl
    | cons w r ih =>
      intro h
      show (wipe (wipe σ vs) r).set w none = wipe σ vs
      rw [ih fun u hu => h u (by simp [hu])]
      exact none_at w vs (h w (by simp))
  exact key vs fun w h => h
theorem gf_lc {wi : TI} {ti : DI} {t : DG} {tt : DT} {te : DE} {ws vs : List Nat} (hw : ∀ w ∈ ws, w ∈ vs)
    (gi : ∀ F al rho mu σ H Q R, Sim F al rho mu σ H → ti rho mu Q → (∀ F' al' ds mu' J H', Ext F al H F' al' H' → Cels F' al' mu' H' → ItD F' J ds → Q ds mu' → R J H') → wi σ H R) :
    GF (tLc wi (tgOf t ws) (ttOf tt) (teOf te) vs) (fLc ti t tt te vs) := fun F al rho mu σ H Q R S q l =>
  gi F al rho mu σ H _ _ S q fun F1 al1 ds mu1 J H1 e1 C1 it q1 => by
    intro L hL
    have S1 := S.of C1 e1.ex e1.pf
    refine ⟨fun i m Hc => ∃ F' al' mu' acc accV, m = ds.length - i ∧ Ext F1 al1 H1 F' al' Hc ∧ Cels F' al' mu' Hc ∧ L ∉ al' ∧ F' L = none ∧ Hc L = some (.lst accV) ∧ RepL F' acc accV ∧
      dCompL t tt te (wipeD rho vs) (fun acc mu2 => Q (.lst acc) mu2) (ds.drop i) acc mu', ⟨_, F1, al1, mu1, [], [], rfl, Ext.loose hL, C1.loose hL, C1.not_al hL, ex_none C1.ex hL, upd_same, .nil, q1⟩, ?_⟩
    rintro i m Hc ⟨F2, al2, mu2, acc, accV, em, e2, C2, na, fn, hc, ra, q2⟩
    have itw := it F2 al2 mu2 Hc e2.ex C2 i
    by_cases hl : i < ds.length
    · have hd : ds[i]? = some ds[i] := List.getElem?_eq_getElem hl
      have ed : ds.drop i = ds[i] :: ds.drop (i + 1) := List.drop_eq_getElem_cons hl
      obtain ⟨go, yl⟩ := itw.1 _ hd
      rw [ed] at q2
      refine .inr ⟨go, fun Hn => ∃ m', m' < m ∧ ∃ F' al' mu' acc accV, m' = ds.length - (i + 1) ∧ Ext F1 al1 H1 F' al' Hn ∧ Cels F' al' mu' Hn ∧ L ∉ al' ∧ F' L = none ∧ Hn L = some (.lst accV) ∧ RepL F' acc accV ∧
        dCompL t tt te (wipeD rho vs) (fun acc mu2 => Q (.lst acc) mu2) (ds.drop (i + 1)) acc mu', fun _ h => h, fun x H3 hy => ?_⟩
      obtain ⟨F3, e3, C3, rx⟩ := yl x H3 hy
      obtain ⟨h3, f3, n3⟩ := e3.stays hc fn na
      have e13 := e2.trans e3
      have S3 : Sim F3 al2 (wipeD rho vs) mu2 (wipe σ vs) H3 := (S1.of C3 e13.ex e13.pf).wipe vs
      refine ⟨F3, al2, _, mu2, ds[i], _, S3, rx, q2, fun rho4 σ4 S4 on q4 => ?_⟩
      refine ⟨?_, ?_⟩
      · have w := on vs hw
        rw [wipe_wipe] at w
        exact w
      · refine ⟨F3, al2, rho4, mu2, _, S4, q4, fun F5 al5 b mu5 H5 e5 C5 q5 => ?_⟩
        obtain ⟨h5, f5, n5⟩ := e5.stays h3 f3 n3
        cases b with
        | false => exact ⟨_, by omega, F5, al5, mu5, acc, accV, rfl, e13.trans e5, C5, n5, f5, h5, (ra.mono e3.ex).mono e5.ex, q5⟩
        | true =>
          refine ⟨F5, al5, rho4, mu5, _, S4.of C5 e5.ex e5.pf, q5, fun F6 al6 y mu6 v H6 e6 C6 ry q6 => ?_⟩
          obtain ⟨h6, f6, n6⟩ := e6.stays h5 f5 n5
          obtain ⟨d, ey, hz, q7⟩ := onD_out q6
          subst ey
          have rd : Rep F6 d v := ry
          have ra6 := ((ra.mono e3.ex).mono e5.ex).mono e6.ex
          exact ⟨accV, h6, by rw [ra.len]; exact szM_lt hz, _, by omega, F6, al6, mu6, acc ++ [d], accV ++ [v], rfl, ((e13.trans e5).trans e6).side hL, C6.side f6 n6 h6 plain_lst, n6, f6, upd_same, ra6.app (.cons rd .nil), q7⟩
    · refine .inl ⟨itw.2 (by omega), ?_⟩
      rw [List.drop_eq_nil_of_le (by omega)] at q2
      exact l F2 al2 (.lst acc) mu2 L Hc (e1.trans e2) C2 na (none_back (e1.dm L) hL) rfl ⟨fn, accV, hc, ra⟩ q2
structure CTs (X : Cx) (ifs : List Expr) (t : DT) : Prop where
  ok : PTs X ifs (ttOf t)
section
variable {X : Cx}
theorem cts_nil : CTs X [] dYes := ⟨⟨fun pins s σ H Q I h => by
  obtain ⟨F, al, rho, mu, Qd, S, q, l⟩ := h
  exact wpAny_tests_nil ⟨H, I, l F al true mu H Ext.refl S.toCels q⟩⟩⟩
theorem cts_one {c : Expr} {t : DT} (h : CT X c t) : CTs X [c] t := ⟨pts_one h.pt⟩
variable {elt tg iter : Expr} {ifs : List Expr} {scope : Scope} {own : List (Str × Nat)} {pos : Pos} {ti : DI} {t : DG} {tt : DT} {te : DE} {ws : List Nat}
theorem cf_lc (own : List (Str × Nat)) (hc : X.calm = true) (hN : X.N.Nodup) (ok : blkC X.N X.env.scope scope own = true) (hi : CI X tg iter ti)
    (hg : ∀ (s : Shared) (H : Hp) (C : Addr) (cl : List (Str × Addr)) (fp : List Addr), CG (X.blk s H scope (compEnvC scope cl C X.env) fp) tg t ws)
    (ht : ∀ (s : Shared) (H : Hp) (C : Addr) (cl : List (Str × Addr)) (fp : List Addr), CTs (X.blk s H scope (compEnvC scope cl C X.env) fp) ifs tt)
    (he : ∀ (s : Shared) (H : Hp) (C : Addr) (cl : List (Str × Addr)) (fp : List Addr), CE (X.blk s H scope (compEnvC scope cl C X.env) fp) elt te)
    (hw : ∀ w ∈ ws, w ∈ own.map (·.2) := by decide) (hs : ∀ x, foldedSetIterable iter X.env x = pure x := by intro _; rfl) :
    CF X (.ListComp elt [⟨tg, iter, ifs, 0⟩] scope pos) (fLc ti t tt te (own.map (·.2))) := by
  obtain ⟨_, p, g⟩ := hi.ok
  exact ⟨_, pe_lc hc hN p (blkOk_by ok) (fun s H C cl fp => (hg s H C cl fp).pg) (fun s H C cl fp => (ht s H C cl fp).ok) (fun s H C cl fp => (he s H C cl fp).pe) hs, gf_lc hw g⟩
/-- name = [..]: as data, as a new cell -/
theorem gs_setF {te : TE} {t : DF} {i : Nat} (g : GF te t) : GS (tAsg te (gName i)) (dSet i (dFrz t)) := fun F al rho mu σ H D E S q l =>
  ge_frz g F al rho mu σ H _ _ S q fun F1 al1 y mu1 v H1 e1 C1 r1 q1 => l.nx F1 al1 _ mu1 _ H1 e1 ((S.of C1 e1.ex e1.pf).set i r1) q1
theorem cs_setLc (i : Nat) (own : List (Str × Nat)) {y : Str} {py spos : Pos} (hc : X.calm = true) (hN : X.N.Nodup) (ok : blkC X.N X.env.scope scope own = true) (hi : CI X tg iter ti)
    (hg : ∀ (s : Shared) (H : Hp) (C : Addr) (cl : List (Str × Addr)) (fp : List Addr), CG (X.blk s H scope (compEnvC scope cl C X.env) fp) tg t ws)
    (ht : ∀ (s : Shared) (H : Hp) (C : Addr) (cl : List (Str × Addr)) (fp : List Addr), CTs (X.blk s H scope (compEnvC scope cl C X.env) fp) ifs tt)
    (he : ∀ (s : Shared) (H : Hp) (C : Addr) (cl : List (Str × Addr)) (fp : List Addr), CE (X.blk s H scope (compEnvC scope cl C X.env) fp) elt te)
    (hy : X.N[i]? = some y := by rfl) (hyl : X.env.scope.names.lookup y = some .local := by rfl) (hk : X.env.scope.kind = .function := by rfl) (hln : (py.line == pos.line) = true := by rfl)
    (hna : (scope.names.any fun (n, k) => n == y && (k == .local || k == .cell)) = false := by decide +kernel)
    (hw : ∀ w ∈ ws, w ∈ own.map (·.2) := by decide) (hs : ∀ x, foldedSetIterable iter X.env x = pure x := by intro _; rfl) :
    CS X (.Assign [.Name y py] (.ListComp elt [⟨tg, iter, ifs, 0⟩] scope pos) spos) (dSet i (dFrz (fLc ti t tt te (own.map (·.2))))) := by
  obtain ⟨_, p, g⟩ := hi.ok
  exact ⟨_, ps_setLc hc hN hy hyl (sw_true hk hyl hln hna) p (blkOk_by ok) (fun s H C cl fp => (hg s H C cl fp).pg) (fun s H C cl fp => (ht s H C cl fp).ok) (fun s H C cl fp => (he s H C cl fp).pe) hs, gs_setF (gf_lc hw g)⟩
end
end Dx

namespace Dx
open PySem PySem.Spec PyProof.Rows L2
open Evl (Ex)
variable [Tb]

section
variable {X : Cx} {e a b : Expr} {es : List Expr} {ta tb : DE} {pos : Pos}
/-! ### list(a text) -/
theorem call_list_text (hc : X.calm = true) : CallR X (.type "list") (fun xs H Q => ∃ s : List Nat, xs = [.str (mkS s)] ∧ s.length ≤ 1000000 ∧ ∀ l, H l = none → Q (.ref l) (upd H l (.lst (s.map fun c => V.str (mkS [c]))))) := by
  intro pins st σ H xs us Q I r h
  obtain ⟨s, ex, hz, q⟩ := h
  subst ex
  obtain ⟨u, eu, rx⟩ := vals1 r
  subst eu
  obtain ⟨t, et⟩ := rx
  subst et
  refine call_list_str (hn := by show s.toArray.size ≤ sizeLine; rw [List.size_toArray]; exact szM_of hz) (I.ok.hd hc) (mkS s) t fun h' tk acc c' hk hS hacc => ?_
  have hsz : acc.size = s.length := by
    rw [hacc.1]
    show s.toArray.size = s.length
    exact List.size_toArray
  have hv : Vals (s.map fun c => V.str (mkS [c])) acc.toList := by
    have key : ∀ (s : List Nat) (l : List Value), l.length = s.length → (∀ (j : Nat) (v : Value), l[j]? = some v → ∃ c t, s[j]? = some c ∧ v = Value.str (mkS [c]) t) → Vals (s.map fun c => V.str (mkS [c])) l := by
      intro s
      induction s with
      | nil =>
        intro l hl _
        rw [List.eq_nil_of_length_eq_zero hl]
        exact .nil
      | cons c s ih =>
        intro l hl h
        cases l with
        | nil => cases hl
        | cons v l =>
          obtain ⟨c', t, e1, e2⟩ := h 0 v rfl
          have e3 : c = c' := Option.some.inj e1
          subst e3
          exact .cons ⟨t, e2⟩ (ih l (by simpa using hl) fun j v hj => h (j + 1) v (by simpa using hj))
    refine key s acc.toList (by rw [Array.length_toList, hsz]) fun j v hj => ?_
    obtain ⟨c, t, e1, e2⟩ := hacc.2 j v (by rw [← Array.getElem?_toList]; exact hj)
    have e6 : (mkS s).cps[j]? = s[j]? := by
      show s.toArray[j]? = s[j]?
      simp
    exact ⟨c, t, by rw [← e6]; exact e1, e2⟩
  exact ⟨.ref st.heap.objs.size, _, I.laid (t' := tk) hk (Nat.le_refl _) (show ObjOk X.prog X.w _ h' _ (.lst (s.map fun c => V.str (mkS [c]))) from ⟨by rw [List.length_map]; exact szM_of hz, acc.toList, c', hv, by rw [Array.toArray_toList]; exact hS⟩), rfl, q _ (I.hok.fresh (Nat.le_refl _))⟩
/-- list(the script) -/
def fListScr (K : PySem.W.Frag) : DCallF := fun xs mu Q => on1 xs fun x => match x with
  | .dat (.scr K' ns) => K' = K ∧ Q (.lst (ns.map D.int)) mu
  | _ => False
theorem cListScr : CallF X (.type "list") (fListScr X.K) := ⟨_, call_list_of, fun F al mu H xs vs Q R c r q l => by
  obtain ⟨x, v, ev, rx, q⟩ := on1_out q r
  cases x with
  | cel k => exact q.elim
  | dat d =>
    cases d with
    | scr K' ns =>
      obtain ⟨ek, q⟩ := q
      subst ek
      have r' : Rep F (.scr X.K ns) v := rx
      rw [Rep] at r'
      obtain ⟨a, e, hs⟩ := r'
      subst e
      exact ⟨a, _, ev, .inl (Evl.ex_l c.ex hs), fun n hn => l F al (.lst (ns.map D.int)) mu n _ (Ext.loose hn) (c.loose hn) (c.not_al hn) hn rfl ⟨ex_none c.ex hn, _, upd_same, RepL.toInts ns⟩ q⟩
    | _ => exact q.elim⟩
def fListS : DCallF := fun xs mu Q => on1 xs fun x => onS x fun s => s.length ≤ 1000000 ∧ Q (.lst (s.map fun c => D.str [c])) mu
theorem repL_signs {F : Hp} : ∀ s : List Nat, RepL F (s.map fun c => D.str [c]) (s.map fun c => V.str (mkS [c]))
  | [] => RepL.nil
  | c :: r => RepL.cons (by rw [Rep]; rfl) (repL_signs r)
theorem cListS (hc : X.calm = true) : CallF X (.type "list") fListS := ⟨_, call_list_text hc, fun F al mu H xs vs Q R c r q l => by
  obtain ⟨x, v, ev, rx, q⟩ := on1_out q r
  obtain ⟨s, ex, es, hz, q⟩ := onS_out q rx
  subst es
  exact ⟨s, ev, hz, fun n hn => l F al (.lst (s.map fun c => D.str [c])) mu n _ (Ext.loose hn) (c.loose hn) (c.not_al hn) hn rfl ⟨ex_none c.ex hn, _, upd_same, repL_signs s⟩ q⟩⟩

/-! ### isinstance of data -/
def tyN : D → String
  | .non => "NoneType"
  | .bl _ => "bool"
  | .int _ => "int"
  | .str _ => "str"
  | .lst _ => "list"
  | .tup _ => "tuple"
  | .dk _ _ => "dict"
  | .dt _ _ _ => "dict"
  | .adr _ => "address"
  | .scr _ _ => "script"
  | .ob _ _ _ _ => "object"
def isScr : D → Bool
  | .scr _ _ => true
  | .adr _ => true
  | .dt _ _ _ => true
  | .ob _ _ _ _ => true
  | _ => false
theorem tyN_of {K : PySem.W.Frag} {F H : Hp} (ex : Ex F H) {d : D} {v : V} (ns : isScr d = false) (r : Rep F d v) : TyOf K H v (.type (tyN d)) := by
  cases d with
  | non =>
    rw [Rep] at r
    subst r
    exact .non
  | bl b =>
    rw [Rep] at r
    subst r
    exact .bl b
  | int b =>
    rw [Rep] at r
    subst r
    exact .int b
  | str b =>
    rw [Rep] at r
    subst r
    exact .str _
  | lst b =>
    rw [Rep] at r
    obtain ⟨a, vs, e, q, _⟩ := r
    subst e
    exact .lst (ex _ _ q)
  | tup b =>
    rw [Rep] at r
    obtain ⟨a, vs, e, q, _⟩ := r
    subst e
    exact .tup (ex _ _ q)
  | dk ks ds =>
    rw [Rep] at r
    obtain ⟨a, vs, e, q, _⟩ := r
    subst e
    exact .dK (ex _ _ q)
  | dt => cases ns
  | adr => cases ns
  | scr => cases ns
  | ob => cases ns
/-- a value's type: data, or a cell -/
def tyDV (mu : Mu) : DV → Option String
  | .dat d => if isScr d then none else some (tyN d)
  | .cel k => match mu[k]? with
    | some (.lst _) => some "list"
    | some (.dk _ _) => some "dict"
    | _ => none
theorem tyDV_of {K : PySem.W.Frag} {F H : Hp} {al : List Addr} {mu : Mu} {x : DV} {v : V} {T : String} (C : Cels F al mu H) (r : RepV F al x v) (h : tyDV mu x = some T) : TyOf K H v (.type T) := by
  cases x with
  | dat d =>
    have h' : (if isScr d then none else some (tyN d)) = some T := h
    cases q : isScr d with
    | true =>
      rw [q] at h'
      cases h'
    | false =>
      rw [q] at h'
      have e : tyN d = T := Option.some.inj h'
      subst e
      exact tyN_of C.ex q r
  | cel k =>
    obtain ⟨a, ha, e⟩ := r
    subst e
    have h' : (match mu[k]? with
      | some (.lst _) => some "list"
      | some (.dk _ _) => some "dict"
      | _ => none) = some T := h
    cases q : mu[k]? with
    | none =>
      rw [q] at h'
      cases h'
    | some m =>
      rw [q] at h'
      have ok := C.cel k a m ha q
      cases m with
      | dead => cases h'
      | lst ds =>
        obtain ⟨_, vs, z, _⟩ := ok
        cases h'
        exact .lst z
      | dk ks ds =>
        obtain ⟨_, vs, z, _⟩ := ok
        cases h'
        exact .dK z
      | own b ds => cases h'
      | dt w ks ds => cases h'
      | ins C ns ds => cases h'
      | ownK b ks ds => cases h'
def isiB (a b : String) : Bool := a == b || (a == "bool" && b == "int")
def known (b : String) : Bool := ["list", "tuple", "bool", "int", "str", "dict"].contains b
def known7 (b : String) : Bool := ["list", "tuple", "bool", "int", "str", "dict", "NoneType"].contains b
theorem isi_kit {K : PySem.W.Frag} {a b : String} (ha : known7 a = true) (hb : known b = true) : PySem.W.kitOne K (.type a) (.type b) = some (isiB a b) := by
  have ha' : a = "list" ∨ a = "tuple" ∨ a = "bool" ∨ a = "int" ∨ a = "str" ∨ a = "dict" ∨ a = "NoneType" := by
    unfold known7 at ha
    simpa using ha
  have hb' : b = "list" ∨ b = "tuple" ∨ b = "bool" ∨ b = "int" ∨ b = "str" ∨ b = "dict" := by
    unfold known at hb
    simpa using hb
  rcases ha' with rfl | rfl | rfl | rfl | rfl | rfl | rfl <;> rcases hb' with rfl | rfl | rfl | rfl | rfl | rfl <;> exact kit_ty (by decide +kernel)
theorem tyDV_known {mu : Mu} {x : DV} {T : String} (h : tyDV mu x = some T) : known7 T = true := by
  cases x with
  | dat d =>
    have h' : (if isScr d then none else some (tyN d)) = some T := h
    cases q : isScr d with
    | true =>
      rw [q] at h'
      cases h'
    | false =>
      rw [q] at h'
      have e : tyN d = T := Option.some.inj h'
      subst e
      cases d <;> first
        | rfl
        | cases q
  | cel k =>
    have h' : (match mu[k]? with
      | some (.lst _) => some "list"
      | some (.dk _ _) => some "dict"
      | _ => none) = some T := h
    cases q : mu[k]? with
    | none =>
      rw [q] at h'
      cases h'
    | some m =>
      rw [q] at h'
      cases m <;> cases h' <;> rfl
def dIsi (T : String) (te : DE) : DE := fun rho mu Q => te rho mu fun x mu1 => onSome (tyDV mu1 x) fun S => Q (.dat (.bl (isiB S T))) mu1
def dIsi2 (T T' : String) (te : DE) : DE := fun rho mu Q => te rho mu fun x mu1 => onSome (tyDV mu1 x) fun S => Q (.dat (.bl (isiB S T || isiB S T'))) mu1
theorem ce_isi {T : String} {p p2 : Pos} {n : Str} (hm : X.mg "isinstance" = none) (hmT : X.mg n = none) (hv : bootBuiltins n = some (.type T)) (he : CE X e ta) (hk : known T = true := by decide) (hg : Gl X "isinstance" := by rfl) (hgT : Gl X n := by rfl)
    (hvi : bootBuiltins "isinstance" = some (.builtin "isinstance") := by decide +kernel) (hn : n ≠ "__name__" := by decide) (hdb : (n == ("__debug__" : Str)) = false := by decide)
    (hst : starEach [e, .Name n p2] X.env = (false, eval e X.env) :: starEach [.Name n p2] X.env := by rfl) (hst2 : starEach [.Name n p2] X.env = (false, eval (.Name n p2) X.env) :: starEach [] X.env := by rfl) (hpl : (backTo pos (starEach [.Name n p2] X.env)).any (·.1) = false := by rfl) :
    CE X (.Call (.Name "isinstance" p) [e, .Name n p2] [] pos) (dIsi T ta) := by
  obtain ⟨_, pe, g⟩ := he.ok
  refine ⟨_, pe_callB call_isi hg hm hvi (pa_cons pe (pa_cons (pe_bltn (v := .ty T) hgT hmT hv rfl hn hdb) pa_nil hst2) hst) (by decide) (by decide) hst hpl, fun F al rho mu σ H Q R S q l => g F al rho mu σ H _ _ S q fun F1 al1 x mu1 v H1 e1 C1 r1 q1 => ?_⟩
  obtain ⟨Ty, h1, q2⟩ := onSome_out q1
  exact ⟨v, .ty T, .type Ty, .type T, isiB Ty T, rfl, .ty T, .base (tyDV_of C1 r1 h1), isi_kit (tyDV_known h1) hk, l F1 al1 _ mu1 _ H1 e1 C1 rv_bl q2⟩
theorem ce_isi2 {T T' : String} {p p2 p3 p4 : Pos} {kt : Nat} {n n' : Str} (hm : X.mg "isinstance" = none) (hmT : X.mg n = none) (hmT' : X.mg n' = none) (hv : bootBuiltins n = some (.type T)) (hv' : bootBuiltins n' = some (.type T')) (he : CE X e ta) (hk : known T = true := by decide) (hk' : known T' = true := by decide)
    (hg : Gl X "isinstance" := by rfl) (hgT : Gl X n := by rfl) (hgT' : Gl X n' := by rfl)
    (hvi : bootBuiltins "isinstance" = some (.builtin "isinstance") := by decide +kernel) (hn : n ≠ "__name__" := by decide) (hdb : (n == ("__debug__" : Str)) = false := by decide) (hn' : n' ≠ "__name__" := by decide) (hdb' : (n' == ("__debug__" : Str)) = false := by decide)
    (hst : starEach [e, .Tuple [.Name n p2, .Name n' p3] kt p4] X.env = (false, eval e X.env) :: starEach [.Tuple [.Name n p2, .Name n' p3] kt p4] X.env := by rfl) (hst2 : starEach [.Tuple [.Name n p2, .Name n' p3] kt p4] X.env = (false, eval (.Tuple [.Name n p2, .Name n' p3] kt p4) X.env) :: starEach [] X.env := by rfl)
    (hst3 : starEach [.Name n p2, .Name n' p3] X.env = (false, eval (.Name n p2) X.env) :: starEach [.Name n' p3] X.env := by rfl) (hst4 : starEach [.Name n' p3] X.env = (false, eval (.Name n' p3) X.env) :: starEach [] X.env := by rfl)
    (hpl : (backTo pos (starEach [.Tuple [.Name n p2, .Name n' p3] kt p4] X.env)).any (·.1) = false := by rfl) :
    CE X (.Call (.Name "isinstance" p) [e, .Tuple [.Name n p2, .Name n' p3] kt p4] [] pos) (dIsi2 T T' ta) := by
  obtain ⟨_, pe, g⟩ := he.ok
  refine ⟨_, pe_callB call_isiT hg hm hvi (pa_cons pe (pa_cons (pe_tup (pa_cons (pe_bltn (v := .ty T) hgT hmT hv rfl hn hdb) (pa_cons (pe_bltn (v := .ty T') hgT' hmT' hv' rfl hn' hdb') pa_nil hst4) hst3)) pa_nil hst2) hst) (by decide) (by decide) hst hpl, fun F al rho mu σ H Q R S q l => g F al rho mu σ H _ _ S q fun F1 al1 x mu1 v H1 e1 C1 r1 q1 => ?_⟩
  obtain ⟨Ty, h1, q2⟩ := onSome_out q1
  refine ⟨by show 2 ≤ sizeLine; decide, fun tp ht => ?_⟩
  have tyv : TyOf X.K (upd H1 tp (.tup [.ty T, .ty T'])) v (.type Ty) := tyDV_of (C1.loose (o := .tup [.ty T, .ty T']) ht) r1 h1
  refine ⟨v, tp, [.ty T, .ty T'], .type Ty, [.type T, .type T'], isiB Ty T || isiB Ty T', rfl, upd_same, .cons (.ty T) (.cons (.ty T') .nil), .base tyv, ?_, ?_⟩
  · refine kitAny_cons (b := isiB Ty T) (isi_kit (tyDV_known h1) hk) (fun hb => ?_) (fun hb => by rw [hb]; rfl)
    rw [hb, Bool.false_or]
    exact kitAny_cons (b := isiB Ty T') (isi_kit (tyDV_known h1) hk') (fun hb' => by rw [hb']; exact kitAny_nil) (fun hb' => hb')
  · exact l F1 al1 _ mu1 _ _ (e1.trans (Ext.loose ht)) (C1.loose ht) rv_bl q2
end

section
variable {X : Cx} {e : Expr} {es : List Expr} {pos p : Pos} {x : Str} {f : Addr} {fd : FuncData} {ps : List Str} {k : Nat} {S : FS} {tr : DA}
end
end Dx

namespace Dx
open PySem PySem.Spec PyProof.Rows L2
open Evl (Ex)
variable [Tb]

/-! ### further expressions -/
section
variable {X : Cx} {e a b c : Expr} {es : List Expr} {ta tb tc : DE} {pos : Pos}
def dNeg (te : DE) : DE := fun rho mu Q => te rho mu fun x mu1 => onI x fun i => Q (.dat (.int (-i))) mu1
theorem ce_neg (h : CE X a ta) : CE X (.UnaryOp .USub a pos) (dNeg ta) := by
  obtain ⟨_, p, g⟩ := h.ok
  refine ⟨_, pe_un un_neg p, fun F al rho mu σ H Q R S q l => g F al rho mu σ H _ _ S q fun F1 al1 x mu1 v H1 e1 C1 r1 q1 => ?_⟩
  obtain ⟨i, ex, ei, q⟩ := onI_out q1 r1
  exact ⟨i, ei, l F1 al1 _ mu1 _ H1 e1 C1 rv_int q⟩
def dChain (t t' : D2) (ta tb tc : DE) : DE := fun rho mu Q => ta rho mu fun x mu1 => tb rho mu1 fun y mu2 => t x y mu2 fun z mu3 => onB (fun k mu4 => if k = true then tc rho mu4 fun w mu5 => t' y w mu5 Q else Q (.dat (.bl false)) mu4) z mu3
theorem ge_chain {te ue ve : TE} {r r' : R2} {t t' : D2} (ga : GE te ta) (gb : GE ue tb) (gc : GE ve tc) (hr : ∀ F al mu H x y v u Q R, Cels F al mu H → RepV F al x v → RepV F al y u → t x y mu Q → LK F al H Q R → r v u H R)
    (hr' : ∀ F al mu H x y v u Q R, Cels F al mu H → RepV F al x v → RepV F al y u → t' x y mu Q → LK F al H Q R → r' v u H R) : GE (tChain r r' te ue ve) (dChain t t' ta tb tc) :=
  fun F al rho mu σ H Q R S q l => ga F al rho mu σ H _ _ S q fun F1 al1 x mu1 v H1 E1 C1 r1 q1 =>
    gb F1 al1 rho mu1 σ H1 _ _ (S.of C1 E1.ex E1.pf) q1 fun F2 al2 y mu2 u H2 E2 C2 r2 q2 => by
      refine hr F2 al2 mu2 H2 x y v u _ _ C2 (r1.mono E2.ex E2.pf) r2 q2 fun F3 al3 z mu3 w H3 E3 C3 r3 q3 => ?_
      obtain ⟨k, ek, q4⟩ := onB_out q3 r3
      refine ⟨k, ek, ?_⟩
      have E := (E1.trans E2).trans E3
      cases k with
      | true =>
        show ve σ H3 _
        exact gc F3 al3 rho mu3 σ H3 _ _ (S.of C3 E.ex E.pf) q4 fun F4 al4 o mu4 p H4 E4 C4 r4 q5 => hr' F4 al4 mu4 H4 y o u p Q R C4 ((r2.mono E3.ex E3.pf).mono E4.ex E4.pf) r4 q5 (l.trans (E.trans E4))
      | false => exact l F3 al3 _ mu3 _ H3 E C3 rv_bl q4
theorem ct_chain {op op' : CmpOp} {t t' : D2} (ho : OpD X (compareOp op) t) (ho' : OpD X (compareOp op') t') (ha : CE X a ta) (hb : CE X b tb) (hc : CE X c tc)
    (hm : lastMarks [op, op'] [b, c] = false := by with_unfolding_all rfl) : CT X (.Compare a [op, op'] [b, c] pos) (dTest (dChain t t' ta tb tc)) :=
  let ⟨_, r, g⟩ := ho.ok; let ⟨_, r', g'⟩ := ho'.ok; let ⟨_, pa, ga⟩ := ha.ok; let ⟨_, pb, gb⟩ := hb.ok; let ⟨_, pc, gc⟩ := hc.ok; ⟨_, pt_chain r r' pa pb pc hm, gt_test (ge_chain ga gb gc g g')⟩
end

/-! ### defs and calls, bundled -/
structure Df (K : PySem.W.Frag) (mg : Str → Option Value) (x : Str) (st : Stmt) (ps : List Str) : Prop where
  ok : ∃ f fd, Fun K x x st f fd ∧ mg x = some (.ref f) ∧ Binds K fd ps []
structure Cal (P : Program) (w : World) (K : PySem.W.Frag) (mg : Str → Option Value) (base : Heap) (k : Nat) (x : Str) (ps : List Str) (S : FS) : Prop where
  ok : ∃ f fd, FnOk P w K mg base CX0 k f fd ps (spOf S) ∧ mg x = some (.ref f) ∧ PySem.W.keepIn K (.ref f) = true ∧ Binds K fd ps []
/-- what is asked of a body's reading -/
def Body (t : DS) (N : List Str) (S : FS) : Prop := ∀ xs mu Q, S xs mu Q → t { nx := fun _ mu' => retQ mu.length Q (.dv (.dat .non)) mu', rt := retQ mu.length Q } (startD N xs) mu
theorem Df.cal {P : Program} {w : World} {K : PySem.W.Frag} {mg : Str → Option Value} {base : Heap} {x : Str} {st : Stmt} {N ps : List Str} {S : FS} {t : DS} (k : Nat) (D : Df K mg x st ps) (sc : FnScope N ps (defScope st))
    (len : ∀ xs mu Q, S xs mu Q → xs.length = ps.length) (rd : Body t N S)
    (body : ∀ (f : Addr) (cdv : Value) (A : Around) (outer : List Env) (s : Shared) (H : Hp) (E : XK), Room k (A.deeper (envOfC x (defScope st) s.heap.objs.size f cdv)) →
      CSs (cxOf CX0 P w K mg base N x (defScope st) f cdv A outer s H E).nox (defBody st) t) : Cal P w K mg base (k + 1) x ps S := by
  obtain ⟨f, fd, F, m, b⟩ := D.ok
  exact ⟨f, fd, dfn F sc len fun cdv A outer s H E hr => ⟨t, body f cdv A outer s H E hr, rd⟩, m, F.kp, b⟩
section
variable {X : Cx} {e : Expr} {es : List Expr} {pos p : Pos} {x : Str} {ps : List Str} {k : Nat} {S : FS} {tr : DA}
theorem cc (G : Cal X.prog X.w X.K X.mg X.base k x ps S) (hr : Room k X.A) (ha : CA X (e :: es) tr) (hg : Gl X x := by rfl)
    (hdb : (x == ("__debug__" : Str)) = false := by decide) (he : starEach (e :: es) X.env = (false, eval e X.env) :: starEach es X.env := by rfl) (hpl : (backTo pos (starEach es X.env)).any (·.1) = false := by rfl) :
    CE X (.Call (.Name x p) (e :: es) [] pos) (dCall S tr) := let ⟨_, _, g, m, kp, b⟩ := G.ok; ce_call g hr m kp b ha hg hdb he hpl
theorem ccR (G : Cal X.prog X.w X.K X.mg X.base k x ps S) (hr : Room k X.A) (ha : CA X (e :: es) tr) (hg : Gl X x := by rfl)
    (hdb : (x == ("__debug__" : Str)) = false := by decide) (he : starEach (e :: es) X.env = (false, eval e X.env) :: starEach es X.env := by rfl) (hpl : (backTo pos (starEach es X.env)).any (·.1) = false := by rfl) :
    CE X (.Call (.Name x p) (e :: es) [] pos) (dCallR S tr) := let ⟨_, _, g, m, kp, b⟩ := G.ok; ce_callR g hr m kp b ha hg hdb he hpl
end
end Dx

namespace Dx
open PySem PySem.Spec PyProof.Rows L2
open Evl (Ex)
variable [Tb]

/-- a written text's signs -/
def lit (s : String) : List Nat := (Str.ofString s).cps.toList
abbrev dSub : D2 := dI2 fun i j => .int (i - j)
abbrev dFdiv : D2 := dII CDiv fun i j => .int (i / j)
abbrev dMod : D2 := dII (fun _ j => 0 < j) fun i j => .int (i % j)
abbrev dPow : D2 := dII CPow fun i j => .int (i ^ j.toNat)
theorem b_len : bootBuiltins "len" = some (.builtin "len") := by decide +kernel
theorem b_list : bootBuiltins "list" = some (.type "list") := by decide +kernel
theorem b_tuple : bootBuiltins "tuple" = some (.type "tuple") := by decide +kernel
theorem b_int : bootBuiltins "int" = some (.type "int") := by decide +kernel
theorem b_bool : bootBuiltins "bool" = some (.type "bool") := by decide +kernel
theorem b_str : bootBuiltins "str" = some (.type "str") := by decide +kernel
theorem b_all : bootBuiltins "all" = some (.builtin "all") := by decide +kernel
theorem b_sorted : bootBuiltins "sorted" = some (.builtin "sorted") := by decide +kernel

/-! ### small words for the readings -/
theorem it2 {b : Bool} {A B : Prop} (h1 : b = true → A) (h2 : b = false → B) : if b = true then A else B := by
  cases b with
  | true => rw [if_pos rfl]; exact h1 rfl
  | false => rw [if_neg Bool.false_ne_true]; exact h2 rfl
theorem itD {p : Prop} [Decidable p] {A B : Prop} (h1 : p → A) (h2 : ¬ p → B) : if decide p = true then A else B :=
  it2 (fun h => h1 (of_decide_eq_true h)) (fun h => h2 (of_decide_eq_false h))
theorem itN {p : Prop} [Decidable p] {A B : Prop} (h1 : ¬ p → A) (h2 : p → B) : if (!decide p) = true then A else B := by
  by_cases h : p
  · rw [decide_eq_true h]; exact h2 h
  · rw [decide_eq_false h]; exact h1 h
theorem itI {i j : Int} {A B : Prop} (h1 : i = j → A) (h2 : ¬ i = j → B) : if (eqD (.int i) (.int j)) = true then A else B := by
  have e : eqD (.int i) (.int j) = decide (i = j) := by
    show (i == j) = decide (i = j)
    exact Bool.beq_eq_decide_eq i j
  rw [e]
  exact itD h1 h2
theorem eqD_int (i j : Int) : eqD (.int i) (.int j) = decide (i = j) := Bool.beq_eq_decide_eq i j
theorem eqD_str (a b : List Nat) : eqD (.str a) (.str b) = decide (a = b) := by
  show (mkS a == mkS b) = decide (a = b)
  rw [beq_mkS]
  exact Bool.beq_eq_decide_eq a b
theorem okD_int (n : Nat) (i : Int) : okD n (.int i) = true := by cases n <;> rfl
theorem okD_bl (n : Nat) (i : Bool) : okD n (.bl i) = true := by cases n <;> rfl

/-! ### draws -/
def FlowOk (m : MC) : Prop := ∃ (ns : List Int) (a b c d : Int), m = .lst [.lst (ns.map D.int), .int a, .int b, .int c, .int d] ∧ 0 ≤ a ∧ ns.length ≤ 63 ∧ 0 ≤ b ∧ 0 ≤ c ∧ c < 2147483647
def S_w_flow (K : PySem.W.Frag) : FS := fun xs mu Q => ∃ ns : List Int, xs = [.dat (.scr K ns)] ∧ ns.length ≤ 63 ∧ mu = [] ∧ Q (.new (.lst [.lst (ns.map D.int), .int 0, .int 0, .int 1, .int 0])) []
def S_w_pick : FS := fun xs mu Q => ∃ m n, mu = [m] ∧ FlowOk m ∧ xs = [.cel 0, .dat (.int n)] ∧ 0 < n ∧ n < 1073741824 ∧ ∀ r m', FlowOk m' → 0 ≤ r → r < n → Q (.dv (.dat (.int r))) [m']
def t_w_flow (K : PySem.W.Frag) : DS :=
  (dRetF (fLst (aCons (dFrz (fCB (fListScr K) (aCons (dVar 0) aNil))) (aCons (dC (.int 0)) (aCons (dC (.int 0)) (aCons (dC (.int 1)) (aCons (dC (.int 0)) aNil)))))))
theorem len_w_flow {K : PySem.W.Frag} : ∀ xs mu Q, S_w_flow K xs mu Q → xs.length = 1 := fun xs mu Q h => by
  obtain ⟨ns, rfl, _⟩ := h
  rfl
theorem rd_w_flow {K : PySem.W.Frag} : Body (t_w_flow K) ["_law_script"] (S_w_flow K) := fun xs mu Q h => by
  obtain ⟨ns, rfl, h63, rfl, q⟩ := h
  refine ⟨rfl, ?_⟩
  refine ⟨by show 5 ≤ 1000; omega, ?_⟩
  exact q
/- slots of w_pick: 0 flow_here, 1 many, 2 cell, 3 digit -/
def t_w_pick : DS :=
  (dSeq (dIf (dAnd (dTest (dOp dEq (dOp dIx (dVar 0) (dC (.int 2))) (dC (.int 0)))) (dTest (dOp dLt (dOp dIx (dVar 0) (dC (.int 1))) (dCB dLen (aCons (dOp dIx (dVar 0) (dC (.int 0))) aNil)))))
  (dSeq (dSet 2 (dOp dIx (dOp dIx (dVar 0) (dC (.int 0))) (dOp dIx (dVar 0) (dC (.int 1)))))
  (dSeq (dPutL (dVar 0) (dC (.int 1)) (dOp dAdd (dOp dIx (dVar 0) (dC (.int 1))) (dC (.int 1))))
  (dIf (dTest (dOp dGe (dVar 2) (dOp dPow (dC (.int 10)) (dC (.int 18)))))
  (dPutL (dVar 0) (dC (.int 2)) (dVar 2))
  (dPutL (dVar 0) (dC (.int 3)) (dOp dMod (dOp dAdd (dOp dAdd (dOp dMul (dOp dIx (dVar 0) (dC (.int 3))) (dC (.int 40013))) (dOp dMod (dVar 2) (dC (.int 1000003)))) (dC (.int 1))) (dC (.int 2147483647)))))))
  dNext)
  (dSeq (dIf (dTest (dOp dGt (dOp dIx (dVar 0) (dC (.int 2))) (dC (.int 0))))
  (dSeq (dSet 3 (dOp dMod (dOp dIx (dVar 0) (dC (.int 2))) (dVar 1)))
  (dSeq (dPutL (dVar 0) (dC (.int 2)) (dOp dFdiv (dOp dIx (dVar 0) (dC (.int 2))) (dVar 1)))
  (dRet (dVar 3))))
  dNext)
  (dSeq (dPutL (dVar 0) (dC (.int 4)) (dOp dAdd (dOp dIx (dVar 0) (dC (.int 4))) (dC (.int 1))))
  (dSeq (dPutL (dVar 0) (dC (.int 3)) (dOp dMod (dOp dAdd (dOp dAdd (dOp dMul (dOp dIx (dVar 0) (dC (.int 3))) (dC (.int 48271))) (dC (.int 12820163))) (dOp dIx (dVar 0) (dC (.int 4)))) (dC (.int 2147483647))))
  (dRet (dOp dMod (dOp dFdiv (dOp dMod (dOp dMul (dOp dAdd (dOp dMod (dOp dIx (dVar 0) (dC (.int 3))) (dC (.int 65521))) (dC (.int 1))) (dOp dAdd (dOp dFdiv (dOp dIx (dVar 0) (dC (.int 3))) (dC (.int 65521))) (dC (.int 7919)))) (dC (.int 1000003))) (dC (.int 7))) (dVar 1)))))))
theorem len_w_pick : ∀ xs mu Q, S_w_pick xs mu Q → xs.length = 2 := fun xs mu Q h => by
  obtain ⟨m, n, _, _, rfl, _⟩ := h
  rfl
/-- from the second half on -/
theorem pick_rest {ns : List Int} {a b c d n : Int} {x2 x3 : Option DV} {Q : RV → Mu → Prop} (h0 : 0 ≤ a) (h63 : ns.length ≤ 63) (hb : 0 ≤ b) (hc : 0 ≤ c) (hc2 : c < 2147483647) (hn : 0 < n) (hn2 : n < 1073741824)
    (q : ∀ r m', FlowOk m' → 0 ≤ r → r < n → Q (.dv (.dat (.int r))) [m']) :
  (dSeq (dIf (dTest (dOp dGt (dOp dIx (dVar 0) (dC (.int 2))) (dC (.int 0))))
  (dSeq (dSet 3 (dOp dMod (dOp dIx (dVar 0) (dC (.int 2))) (dVar 1)))
  (dSeq (dPutL (dVar 0) (dC (.int 2)) (dOp dFdiv (dOp dIx (dVar 0) (dC (.int 2))) (dVar 1)))
  (dRet (dVar 3))))
  dNext)
  (dSeq (dPutL (dVar 0) (dC (.int 4)) (dOp dAdd (dOp dIx (dVar 0) (dC (.int 4))) (dC (.int 1))))
  (dSeq (dPutL (dVar 0) (dC (.int 3)) (dOp dMod (dOp dAdd (dOp dAdd (dOp dMul (dOp dIx (dVar 0) (dC (.int 3))) (dC (.int 48271))) (dC (.int 12820163))) (dOp dIx (dVar 0) (dC (.int 4)))) (dC (.int 2147483647))))
  (dRet (dOp dMod (dOp dFdiv (dOp dMod (dOp dMul (dOp dAdd (dOp dMod (dOp dIx (dVar 0) (dC (.int 3))) (dC (.int 65521))) (dC (.int 1))) (dOp dAdd (dOp dFdiv (dOp dIx (dVar 0) (dC (.int 3))) (dC (.int 65521))) (dC (.int 7919)))) (dC (.int 1000003))) (dC (.int 7))) (dVar 1))))))
   { nx := fun _ mu' => retQ 1 Q (.dv (.dat .non)) mu', rt := retQ 1 Q } [some (.cel 0), some (.dat (.int n)), x2, x3] [.lst [.lst (ns.map D.int), .int a, .int b, .int c, .int d]] := by
  refine itD (p := (0 : Int) < b) (fun hb2 => ?_) (fun hb2 => ?_)
  · refine ⟨hn, ?_⟩
    refine ⟨⟨hn, hn2⟩, ?_⟩
    refine q _ _ ⟨ns, a, b / n, c, d, rfl, h0, h63, Int.ediv_nonneg hb (by omega), hc, hc2⟩ (Int.emod_nonneg _ (by omega)) (Int.emod_lt_of_pos _ hn)
  · refine ⟨.inr (by omega), ⟨(by show (0 : Int) < 2147483647; decide), ?_⟩⟩
    refine ⟨(by show (0 : Int) < 65521; decide), ?_⟩
    refine ⟨⟨by decide, by decide⟩, ?_⟩
    refine ⟨.inl ⟨?_, ?_⟩, ?_⟩
    · have := Int.emod_nonneg ((c * 48271 + 12820163 + (d + 1)) % 2147483647) (show (65521 : Int) ≠ 0 by decide)
      omega
    · have := Int.emod_lt_of_pos ((c * 48271 + 12820163 + (d + 1)) % 2147483647) (show (0 : Int) < 65521 by decide)
      omega
    refine ⟨(by show (0 : Int) < 1000003; decide), ?_⟩
    refine ⟨⟨by decide, by decide⟩, ?_⟩
    refine ⟨hn, ?_⟩
    refine q _ _ ⟨ns, a, b, (c * 48271 + 12820163 + (d + 1)) % 2147483647, d + 1, rfl, h0, h63, hb, Int.emod_nonneg _ (by decide), Int.emod_lt_of_pos _ (by decide)⟩ (Int.emod_nonneg _ (by omega)) (Int.emod_lt_of_pos _ hn)
theorem rd_w_pick : Body t_w_pick ["_law_flow_here", "_law_many", "_law_cell", "_law_digit"] S_w_pick := fun xs mu Q h => by
  obtain ⟨m, n, rfl, ⟨ns, a, b, c, d, rfl, h0, h63, hb, hc, hc2⟩, rfl, hn, hn2, q⟩ := h
  refine ⟨rfl, rfl, ?_⟩
  refine itI (fun hb0 => ?_) (fun hb0 => ?_)
  · refine itD (p := a < (((ns.map D.int).length : Nat) : Int)) (fun ha => ?_) (fun ha => ?_)
    · rw [List.length_map] at ha
      have hk : a.toNat < ns.length := by omega
      have ea : L2.atI (ns.map D.int) a = some (.int ns[a.toNat]) := by
        have w : L2.atI (ns.map D.int) ((a.toNat : Nat) : Int) = some (.int ns[a.toNat]) := L2.atI_nat (by rw [List.getElem?_map, List.getElem?_eq_getElem hk]; rfl)
        rwa [show ((a.toNat : Nat) : Int) = a by omega] at w
      show onSome (L2.atI (ns.map D.int) a) _
      rw [ea]
      refine ⟨⟨by decide, by decide, by decide⟩, ?_⟩
      refine itD (p := (10 : Int) ^ (18 : Nat) ≤ ns[a.toNat]) (fun hg => ?_) (fun hg => ?_)
      · exact pick_rest (by omega) h63 (Int.le_trans (by decide) hg) hc hc2 hn hn2 q
      · refine ⟨.inr (by omega), (by show (0 : Int) < 1000003; decide), (by show (0 : Int) < 2147483647; decide), ?_⟩
        exact pick_rest (by omega) h63 hb (Int.emod_nonneg _ (by decide)) (Int.emod_lt_of_pos _ (by decide)) hn hn2 q
    · exact pick_rest h0 h63 hb hc hc2 hn hn2 q
  · exact pick_rest h0 h63 hb hc hc2 hn hn2 q
end Dx

namespace Dx
open PySem PySem.Spec PyProof.Rows L2
open Evl (Ex)
variable [Tb]

/-! ### loops by an invariant -/
theorem for_inv {t : DG} {tb : DS} {N : DEnds} {ds : List D} {rho : Rho} {mu : Mu} (P : Nat → Rho → Mu → Prop) (h0 : P 0 rho mu)
    (step : ∀ (i : Nat) (d : D) (rho : Rho) (mu : Mu) (K : Rho → Mu → Prop), ds[i]? = some d → P i rho mu → (∀ rho mu, P (i + 1) rho mu → K rho mu) → t d rho fun rho' => tb { N with nx := K, ct := K, bk := N.nx } rho' mu)
    (hd : ∀ rho mu, P ds.length rho mu → N.nx rho mu) : dForL t tb N ds rho mu := by
  have key : ∀ (es : List D) (i : Nat), ds.drop i = es → i ≤ ds.length → ∀ rho mu, P i rho mu → dForL t tb N es rho mu := by
    intro es
    induction es with
    | nil =>
      intro i e hi rho mu p
      have hl : ds.length = i := by
        have := congrArg List.length e
        rw [List.length_drop, List.length_nil] at this
        omega
      rw [dForL]
      exact hd rho mu (by rw [hl]; exact p)
    | cons d es ih =>
      intro i e hi rho mu p
      have hl : i < ds.length := by
        have := congrArg List.length e
        rw [List.length_drop, List.length_cons] at this
        omega
      have e2 := List.drop_eq_getElem_cons hl
      rw [e] at e2
      injection e2 with e3 e4
      rw [dForL]
      exact step i d rho mu _ (by rw [List.getElem?_eq_getElem hl, e3]) p (fun rho mu p' => ih (i + 1) e4.symm hl rho mu p')
  exact key ds 0 (List.drop_zero) (Nat.zero_le _) rho mu h0
theorem comp_inv {t : DG} {tt : DT} {te : DE} {rho : Rho} {Q : List D → Mu → Prop} {ds : List D} {mu : Mu} (P : Nat → List D → Mu → Prop) (h0 : P 0 [] mu)
    (step : ∀ (i : Nat) (d : D) (acc : List D) (mu : Mu) (K : List D → Mu → Prop), ds[i]? = some d → P i acc mu → (∀ acc mu, P (i + 1) acc mu → K acc mu) →
      t d rho fun rho' => tt rho' mu fun b mu1 => if b = true then te rho' mu1 fun x mu2 => onD x fun y => acc.length < 1000000 ∧ K (acc ++ [y]) mu2 else K acc mu1)
    (hd : ∀ acc mu, P ds.length acc mu → Q acc mu) : dCompL t tt te rho Q ds [] mu := by
  have key : ∀ (es : List D) (i : Nat), ds.drop i = es → i ≤ ds.length → ∀ acc mu, P i acc mu → dCompL t tt te rho Q es acc mu := by
    intro es
    induction es with
    | nil =>
      intro i e hi acc mu p
      have hl : ds.length = i := by
        have := congrArg List.length e
        rw [List.length_drop, List.length_nil] at this
        omega
      rw [dCompL]
      exact hd acc mu (by rw [hl]; exact p)
    | cons d es ih =>
      intro i e hi acc mu p
      have hl : i < ds.length := by
        have := congrArg List.length e
        rw [List.length_drop, List.length_cons] at this
        omega
      have e2 := List.drop_eq_getElem_cons hl
      rw [e] at e2
      injection e2 with e3 e4
      rw [dCompL]
      exact step i d acc mu _ (by rw [List.getElem?_eq_getElem hl, e3]) p (fun acc mu p' => ih (i + 1) e4.symm hl acc mu p')
  exact key ds 0 (List.drop_zero) (Nat.zero_le _) [] mu h0
theorem rng_len (lo : Int) (n : Nat) : (rngD lo n).length = n := by
  unfold rngD
  rw [List.length_map, List.length_range]
theorem rng_at {lo : Int} {n i : Nat} {d : D} (h : (rngD lo n)[i]? = some d) : d = .int (lo + i) ∧ i < n := by
  unfold rngD at h
  rw [List.getElem?_map] at h
  by_cases hi : i < n
  · rw [List.getElem?_range hi] at h
    exact ⟨(Option.some.inj h).symm, hi⟩
  · rw [List.getElem?_eq_none (by rw [List.length_range]; omega)] at h
    cases h
/-! ### places, signs -/
theorem atI_of {α : Type} {xs : List α} {i : Int} {v : α} (h0 : 0 ≤ i) (h : xs[i.toNat]? = some v) : L2.atI xs i = some v := by
  have w := L2.atI_nat h
  rwa [show ((i.toNat : Nat) : Int) = i by omega] at w
theorem some_atI {α : Type} {xs : List α} {i : Int} (h0 : 0 ≤ i) (h1 : i < xs.length) : ∃ v, L2.atI xs i = some v ∧ xs[i.toNat]? = some v := by
  have hk : i.toNat < xs.length := by omega
  exact ⟨xs[i.toNat], atI_of h0 (List.getElem?_eq_getElem hk), List.getElem?_eq_getElem hk⟩
theorem on_some {α : Type} {o : Option α} {k : α → Prop} {a : α} (e : o = some a) (h : k a) : onSome o k := by
  rw [e]
  exact h
theorem cut_to {α : Type} (s : List α) (n : Nat) : cut s none (some (n : Int)) = s.take n := by
  unfold cut
  rw [HT.sIx_none, HT.sIx_nat, List.drop_zero, Nat.sub_zero]
  by_cases h : n ≤ s.length
  · rw [Nat.min_eq_left h]
  · rw [Nat.min_eq_right (by omega), List.take_of_length_le (Nat.le_refl _), List.take_of_length_le (by omega)]
theorem cut_from {α : Type} (s : List α) (n : Nat) : cut s (some (n : Int)) none = s.drop n := by
  unfold cut
  rw [HT.sIx_none, HT.sIx_nat]
  by_cases h : n ≤ s.length
  · rw [Nat.min_eq_left h]
    exact List.take_of_length_le (by rw [List.length_drop]; exact Nat.le_refl _)
  · rw [Nat.min_eq_right (by omega), List.drop_eq_nil_of_le (Nat.le_refl _), List.drop_eq_nil_of_le (by omega)]
    simp
theorem joinL_nil : ∀ ws : List (List Nat), TL.joinL [] ws = ws.flatten
  | [] => rfl
  | [p] => by simp [TL.joinL]
  | p :: q :: r => by
    show p ++ ([] ++ TL.joinL [] (q :: r)) = _
    rw [List.nil_append, joinL_nil (q :: r)]
    rfl
theorem lit_nil : lit "" = [] := by decide +kernel
theorem flat_one (l : List Nat) : (l.map fun c => [c]).flatten = l := by
  induction l with
  | nil => rfl
  | cons c r ih => rw [List.map_cons, List.flatten_cons, ih]; rfl
theorem sum_one (l : List Nat) : ((l.map fun c => [c]).map List.length).sum = l.length := by
  induction l with
  | nil => rfl
  | cons c r ih => rw [List.map_cons, List.map_cons, List.sum_cons, ih, List.length_cons, List.length_cons, List.length_nil]; omega
theorem map_str1 (l : List Nat) : (l.map fun c => D.str [c]) = (l.map fun c => [c]).map D.str := by
  rw [List.map_map]
  rfl
/-- ''.join of signs -/
theorem join_signs {l : List Nat} {mu : Mu} {Q : DQ} (hl : l.length ≤ 1000000) (q : Q (.dat (.str l)) mu) : dJoin (.dat (.str (lit ""))) [.dat (.lst (l.map fun c => D.str [c]))] mu Q := by
  have e : toSs (l.map fun c => D.str [c]) = some (l.map fun c => [c]) := by
    rw [map_str1, toSs_of]
  unfold dJoin
  refine on_some (a := l.map fun c => [c]) e ?_
  rw [lit_nil, joinL_nil, flat_one, sum_one]
  exact ⟨by simp; exact hl, q⟩

/-! ### the law's letters -/
def letD (c : Nat) : D := .str [c]
def abc : List Nat := lit "abcdefghijklmnopqrstuvwxyz"
theorem abc_eq : abc = [97, 98, 99, 100, 101, 102, 103, 104, 105, 106, 107, 108, 109, 110, 111, 112, 113, 114, 115, 116, 117, 118, 119, 120, 121, 122] := by decide +kernel
theorem abc_nodup : abc.Nodup := by
  rw [abc_eq]
  decide
theorem abc_len : abc.length = 26 := by
  rw [abc_eq]
  rfl
/-- letters: rising, unlike, small -/
def IsLetters (l : List Nat) : Prop := l.Pairwise (· < ·) ∧ ∀ c ∈ l, c ∈ abc
theorem abc_small {c : Nat} (h : c ∈ abc) : 97 ≤ c ∧ c ≤ 122 := by
  rw [abc_eq] at h
  simp at h
  omega
theorem lt_one (a b : Nat) : ltCps [a] [b] = decide (a < b) := by
  show (decide (a < b) || (a == b && false)) = decide (a < b)
  rw [Bool.and_false, Bool.or_false]
theorem sorted_one : ∀ {l : List Nat}, sortedL (l.map fun c => [c]) → l.Pairwise (· ≤ ·)
  | [], _ => .nil
  | c :: r, h => by
    have key : ∀ (r : List Nat) (c : Nat), risingS (mkS [c]) ((r.map fun c => [c]).map mkS) = true → (c :: r).Pairwise (· ≤ ·) := by
      intro r
      induction r with
      | nil => intro c _; exact List.pairwise_singleton _ _
      | cons d r ih =>
        intro c h
        have h2 : (!ltCps [d] [c] && risingS (mkS [d]) ((r.map fun c => [c]).map mkS)) = true := h
        rw [Bool.and_eq_true_iff, lt_one] at h2
        have h3 : ¬ d < c := by
          have := h2.1
          simpa using this
        have h4 := ih d h2.2
        refine List.pairwise_cons.mpr ⟨fun x hx => ?_, h4⟩
        rcases List.mem_cons.mp hx with e | hx
        · omega
        · have := (List.pairwise_cons.mp h4).1 x hx
          omega
    exact key r c h
theorem strict_of {l : List Nat} (h : l.Pairwise (· ≤ ·)) (n : l.Nodup) : l.Pairwise (· < ·) := by
  induction l with
  | nil => exact .nil
  | cons c r ih =>
    rw [List.pairwise_cons] at h
    rw [List.nodup_cons] at n
    refine List.pairwise_cons.mpr ⟨fun x hx => ?_, ih h.2 n.2⟩
    have := h.1 x hx
    have : c ≠ x := fun e => n.1 (e ▸ hx)
    omega
def S_w_letters : FS := fun xs mu Q => ∃ m n, mu = [m] ∧ FlowOk m ∧ xs = [.cel 0, .dat (.int n)] ∧ 0 ≤ n ∧ n ≤ 26 ∧ ∀ l m', FlowOk m' → IsLetters l → (l.length : Int) = n → Q (.dv (.dat (.str l))) [m']
def t_w_letters : DS :=
  (dSeq (dSet 2 (dNew (fCB fListS (aCons (dC (.str (lit "abcdefghijklmnopqrstuvwxyz"))) aNil))))
  (dRet (dBM "str" dJoin (dC (.str (lit ""))) (aCons (dFrz (fCB fSortedS (aCons (dFrz (fLc (iRg1 (aCons (dVar 1) aNil)) (dgN 3) dYes (dBM "list" dPopAt (dVar 2) (aCons (dCallR S_w_pick (aCons (dVar 0) (aCons (dCB dLen (aCons (dVar 2) aNil)) aNil))) aNil)) [3])) aNil))) aNil))))
theorem len_w_letters : ∀ xs mu Q, S_w_letters xs mu Q → xs.length = 2 := fun xs mu Q h => by
  obtain ⟨m, n, _, _, rfl, _⟩ := h
  rfl
theorem perm_erase : ∀ {l : List Nat} {i : Nat} {c : Nat}, l[i]? = some c → (c :: l.eraseIdx i).Perm l
  | [], i, c, h => by simp at h
  | d :: l, 0, c, h => by
    have e : d = c := Option.some.inj h
    subst e
    exact List.Perm.refl _
  | d :: l, i + 1, c, h => by
    have h' : l[i]? = some c := by simpa using h
    have w := perm_erase h'
    show (c :: d :: l.eraseIdx i).Perm (d :: l)
    exact (List.Perm.swap d c _).trans (w.cons d)
theorem perm_pop {l acc : List Nat} {i : Nat} {c : Nat} (h : l[i]? = some c) : (acc ++ [c] ++ l.eraseIdx i).Perm (acc ++ l) := by
  rw [List.append_assoc]
  exact List.Perm.append_left acc (perm_erase h)
theorem FlowOk.live {m : MC} (h : FlowOk m) : isDead m = false := by
  obtain ⟨_, _, _, _, _, rfl, _⟩ := h
  rfl
theorem eraseIdx_map' {l : List Nat} : ∀ i : Nat, (l.map letD).eraseIdx i = (l.eraseIdx i).map letD := by
  induction l with
  | nil => intro i; rfl
  | cons c r ih =>
    intro i
    cases i with
    | zero => rfl
    | succ i => 
      show letD c :: (r.map letD).eraseIdx i = letD c :: (r.eraseIdx i).map letD
      rw [ih]
theorem toSs_one (l : List Nat) : toSs (l.map letD) = some (l.map fun c => [c]) := by
  have e : l.map letD = (l.map fun c => [c]).map D.str := by
    rw [List.map_map]
    rfl
  rw [e, toSs_of]
theorem rd_w_letters : Body t_w_letters ["_law_flow_here", "_law_many", "_law_left", "_law_k"] S_w_letters := fun xs mu Q h => by
  obtain ⟨m, n, rfl, fo, rfl, h0, h26, q⟩ := h
  refine ⟨by show abc.length ≤ 1000000; rw [abc_len]; omega, ?_⟩
  refine ⟨rfl, ?_⟩
  refine ⟨by omega, by omega, ?_⟩
  refine comp_inv (fun i acc mu => ∃ used left m', acc = used.map letD ∧ mu = [m', .lst (left.map letD)] ∧ FlowOk m' ∧ (used ++ left).Perm abc ∧ used.length = i) ⟨[], abc, m, rfl, rfl, fo, List.Perm.refl _, rfl⟩ (fun i d acc mu K hd hp k => ?_) (fun acc mu hp => ?_)
  · obtain ⟨used, left, m', rfl, rfl, fo', pm, ul⟩ := hp
    obtain ⟨rfl, hi⟩ := rng_at hd
    have hl : left.length = 26 - i := by
      have := pm.length_eq
      rw [List.length_append, abc_len] at this
      omega
    refine ⟨rfl, ?_⟩
    refine ⟨fo'.live, rfl, ?_⟩
    refine ⟨m', _, rfl, fo', rfl, by rw [List.length_map]; omega, by rw [List.length_map]; omega, fun r m2 fo2 r0 r1 => ?_⟩
    rw [List.length_map] at r1
    refine ⟨r0, by rw [List.length_map]; exact r1, by rw [List.length_map]; omega, ?_⟩
    have hr : r.toNat < left.length := by omega
    refine on_some (a := letD left[r.toNat]) (by rw [List.getElem?_map, List.getElem?_eq_getElem hr]; rfl) ?_
    refine ⟨by rw [List.length_map]; omega, k _ _ ⟨used ++ [left[r.toNat]], left.eraseIdx r.toNat, m2, by rw [List.map_append]; rfl, ?_, fo2, (perm_pop (List.getElem?_eq_getElem hr)).trans pm, by rw [List.length_append, ul]; rfl⟩⟩
    rw [← eraseIdx_map']
    rfl
  · obtain ⟨used, left, m', rfl, rfl, fo', pm, ul⟩ := hp
    rw [rng_len] at ul
    refine on_some (a := used.map fun c => [c]) (toSs_one used) ?_
    refine ⟨by rw [List.length_map]; omega, fun ns' pm' st => ?_⟩
    obtain ⟨l, rfl, pl⟩ : ∃ l : List Nat, ns' = l.map (fun c => [c]) ∧ l.Perm used := by
      refine ⟨ns'.flatten, ?_, ?_⟩
      · have all1 : ∀ w ∈ ns', ∃ c, w = [c] := fun w hw => by
          have := pm'.mem_iff.mp hw
          obtain ⟨c, _, e⟩ := List.mem_map.mp this
          exact ⟨c, e.symm⟩
        clear pm' st
        induction ns' with
        | nil => rfl
        | cons w r ih =>
          obtain ⟨c, rfl⟩ := all1 w (by simp)
          rw [List.flatten_cons, List.singleton_append, List.map_cons, ← ih fun u hu => all1 u (by simp [hu])]
      · have := pm'.flatten
        rw [flat_one] at this
        exact this
    have nd : used.Nodup := by
      have := pm.nodup_iff.mpr abc_nodup
      rw [List.nodup_append] at this
      exact this.1
    have hs : IsLetters l := ⟨strict_of (sorted_one st) (pl.nodup_iff.mpr nd), fun c hc => pm.mem_iff.mp (List.mem_append_left _ (pl.mem_iff.mp hc))⟩
    have ll : l.length = used.length := pl.length_eq
    have e1 : (l.map fun c => [c]).map D.str = l.map fun c => D.str [c] := (map_str1 l).symm
    have w : dJoin (.dat (.str (lit ""))) [.dat (.lst ((l.map fun c => [c]).map D.str))] [m', .lst (left.map letD)] (fun x mu1 => retQ 1 Q (.dv x) mu1) := by
      rw [e1]
      refine join_signs (by omega) ?_
      exact q l m' fo' hs (by omega)
    exact w
end Dx

namespace Dx
open PySem PySem.Spec PyProof.Rows L2
open Evl (Ex)
variable [Tb]

/-! ### a call whose new list becomes a cell -/
def backC (mu : Mu) (Q : DQ) : RV → Mu → Prop := fun rv _ => match rv with
  | .dv (.dat d) => Q (.dat d) mu
  | .new m => Q (.cel mu.length) (mu ++ [m])
  | _ => False
def dCallN (S : FS) (ta : DA) : DE := fun rho mu Q => ta rho mu fun xs mu1 => allD xs = true ∧ S xs [] (backC mu1 Q)
theorem ge_callN {S : FS} {te : TA} {ta : DA} {E0 : XK} (g : GA te ta) : GE (tCall (spOf S) [] E0 te) (dCallN S ta) := fun F al rho mu σ H Q R St q l =>
  g F al rho mu σ H _ _ St q fun F1 al1 xs mu1 vs H1 E1 C1 r1 q1 => by
    show spOf S (vs ++ []) H1 R E0
    rw [List.append_nil]
    refine ⟨F1, [], xs, [], _, Cels.empt C1.ex C1.nt C1.tb, allD_vs r1 q1.1, q1.2, fun F' mu' rv v H' E' C' rr fr q' => ?_⟩
    obtain ⟨C2, E2⟩ := C1.over E' C'.ex C'.nt C'.tb
    cases rv with
    | dv x =>
      cases x with
      | cel k => exact q'.elim
      | dat d => exact l F' al1 (.dat d) mu1 v H' (E1.trans E2) C2 rr q'
    | new m =>
      obtain ⟨p, ev, na, dd, ok⟩ := rr
      have h0 : H1 p = none := fr p ev
      have na1 : p ∉ al1 := C1.not_al h0
      subst ev
      have E3 := E1.trans E2
      have E4 : Ext F al H F' (al1 ++ [p]) H' := ⟨E3.ex, E3.pf.trans (List.prefix_append _ _), E3.nf, fun a ha => by
        rcases List.mem_append.mp ha with z | z
        · exact E3.nc a z
        · rw [List.mem_singleton] at z
          subst z
          exact .inr (none_back (E1.dm a) h0), E3.kp, E3.dm⟩
      exact l F' (al1 ++ [p]) (.cel mu1.length) (mu1 ++ [m]) (.ref p) H' E4 (C2.grow ok na1) ⟨p, by rw [List.getElem?_append_right (by rw [C1.len]; exact Nat.le_refl _), C1.len, Nat.sub_self]; rfl, rfl⟩ q'
theorem ccN {X : Cx} {e : Expr} {es : List Expr} {pos p : Pos} {x : Str} {ps : List Str} {k : Nat} {S : FS} {tr : DA} (G : Cal X.prog X.w X.K X.mg X.base k x ps S) (hr : Room k X.A) (ha : CA X (e :: es) tr) (hg : Gl X x := by rfl)
    (hdb : (x == ("__debug__" : Str)) = false := by decide) (he : starEach (e :: es) X.env = (false, eval e X.env) :: starEach es X.env := by rfl) (hpl : (backTo pos (starEach es X.env)).any (·.1) = false := by rfl) :
    CE X (.Call (.Name x p) (e :: es) [] pos) (dCallN S tr) := by
  obtain ⟨_, _, g, m, kp, b⟩ := G.ok
  obtain ⟨_, pa, ga⟩ := ha.ok
  exact ⟨_, pe_call (E := E0) g hr hg m kp b .nil pass0 pa hdb he hpl, ge_callN ga⟩

/-! ### find of one sign, from a place on -/
def fnd (c : Nat) : List Nat → Nat → Option Nat
  | [], _ => none
  | x :: r, k => if x = c then some k else fnd c r (k + 1)
def findFrom (t : List Nat) (c k : Nat) : Option Nat := fnd c (t.drop k) k
open PySem.Builtin PySem.Builtin.Str PySem.StrLaws in
open PySem.Builtin PySem.Builtin.Str PySem.StrLaws in
open PySem.Builtin PySem.Builtin.Str PySem.StrLaws in
theorem fnd_some {c : Nat} : ∀ {l : List Nat} {k i : Nat}, fnd c l k = some i → k ≤ i ∧ l[i - k]? = some c ∧ i - k < l.length ∧ ∀ j, k ≤ j → j < i → l[j - k]? ≠ some c
  | [], k, i, h => by cases h
  | x :: r, k, i, h => by
    unfold fnd at h
    by_cases e : x = c
    · rw [if_pos e] at h
      have e2 : k = i := Option.some.inj h
      subst e2
      refine ⟨Nat.le_refl _, ?_, by simp, fun j h1 h2 => by omega⟩
      rw [Nat.sub_self, e]
      rfl
    · rw [if_neg e] at h
      obtain ⟨a, b, c', d⟩ := fnd_some h
      have e3 : i - k = (i - (k + 1)) + 1 := by omega
      refine ⟨by omega, by rw [e3]; simpa using b, by rw [e3]; simp; omega, fun j h1 h2 => ?_⟩
      by_cases hj : j = k
      · subst hj
        rw [Nat.sub_self]
        exact fun z => e (Option.some.inj z)
      · have e4 : j - k = (j - (k + 1)) + 1 := by omega
        rw [e4]
        have := d j (by omega) h2
        simpa using this
theorem fnd_none {c : Nat} : ∀ {l : List Nat} {k : Nat}, fnd c l k = none → ∀ j : Nat, l[j]? ≠ some c
  | [], k, h, j => by simp
  | x :: r, k, h, j => by
    unfold fnd at h
    by_cases e : x = c
    · rw [if_pos e] at h
      cases h
    · rw [if_neg e] at h
      cases j with
      | zero => exact fun z => e (Option.some.inj z)
      | succ j =>
        have := fnd_none h j
        simpa using this
theorem find_some {t : List Nat} {c k i : Nat} (h : findFrom t c k = some i) : k ≤ i ∧ i < t.length ∧ t[i]? = some c ∧ ∀ j, k ≤ j → j < i → t[j]? ≠ some c := by
  obtain ⟨a, b, d, e⟩ := fnd_some h
  rw [List.length_drop] at d
  rw [List.getElem?_drop] at b
  refine ⟨a, by omega, by rwa [show k + (i - k) = i by omega] at b, fun j h1 h2 => ?_⟩
  have := e j h1 h2
  rwa [List.getElem?_drop, show k + (j - k) = j by omega] at this
theorem find_none {t : List Nat} {c k : Nat} (h : findFrom t c k = none) : ∀ j, k ≤ j → t[j]? ≠ some c := fun j hj => by
  have := fnd_none h (j - k)
  rwa [List.getElem?_drop, show k + (j - k) = j by omega] at this
/-! ### a word lies spread in a text -/
def sub : List Nat → List Nat → Bool
  | [], _ => true
  | _ :: _, [] => false
  | a :: w, b :: t => if a = b then sub w t else sub (a :: w) t
theorem sub_nil (t : List Nat) : sub [] t = true := by cases t <;> rfl
theorem sub_iff : ∀ (w t : List Nat), sub w t = true ↔ w.Sublist t
  | [], t => by simp [sub_nil]
  | a :: w, [] => by simp [sub]
  | a :: w, b :: t => by
    unfold sub
    by_cases e : a = b
    · subst e
      rw [if_pos rfl, sub_iff w t]
      exact List.cons_sublist_cons.symm
    · rw [if_neg e, sub_iff (a :: w) t]
      refine ⟨fun h => .cons b h, fun h => ?_⟩
      cases h with
      | cons _ h => exact h
      | cons_cons _ h => exact absurd rfl e
/-- how many letters of a word are met, greedily -/
def met (w : List Nat) (k : Nat) : List Nat → Nat
  | [] => k
  | c :: t => met w (if w[k]? = some c then k + 1 else k) t
theorem okD_str {w : List Nat} (n : Nat) (h : ∀ c ∈ w, c < 1114112) : okD n (.str w) = true := by
  cases n <;> simp [okD] <;> exact h
/-! ### what was told is what is due -/
mutual
/-- data of bounded size, n deep -/
def plainD : Nat → D → Bool
  | _, .non => true
  | _, .bl _ => true
  | _, .int _ => true
  | _, .str s => s.all (· < 0x110000)
  | 0, .lst _ => false
  | 0, .tup _ => false
  | n + 1, .lst ds => decide (ds.length ≤ 90000) && plainDs n ds
  | n + 1, .tup ds => decide (ds.length ≤ 90000) && plainDs n ds
  | _, .dk _ _ => false
  | _, .dt _ _ _ => false
  | _, .adr _ => false
  | _, .scr _ _ => false
  | _, .ob _ _ _ _ => false
def plainDs : Nat → List D → Bool
  | _, [] => true
  | n, d :: r => plainD n d && plainDs n r
end
mutual
theorem plain_ok : ∀ (n m : Nat) (d : D), n ≤ m → plainD n d = true → okD m d = true
  | _, m, .non, _, _ => by cases m <;> rfl
  | _, m, .bl _, _, _ => by cases m <;> rfl
  | _, m, .int _, _, _ => by cases m <;> rfl
  | n, m, .str s, _, h => by
    rw [plainD] at h
    cases m <;> (rw [okD]; exact h)
  | 0, m, .lst ds, _, h => by rw [plainD] at h; cases h
  | 0, m, .tup ds, _, h => by rw [plainD] at h; cases h
  | n + 1, 0, .lst ds, l, h => by omega
  | n + 1, 0, .tup ds, l, h => by omega
  | n + 1, m + 1, .lst ds, l, h => by
    rw [plainD, Bool.and_eq_true_iff] at h
    rw [okD]
    exact plains_ok n m ds (by omega) h.2
  | n + 1, m + 1, .tup ds, l, h => by
    rw [plainD, Bool.and_eq_true_iff] at h
    rw [okD]
    exact plains_ok n m ds (by omega) h.2
  | _, _, .dk _ _, _, h => by rw [plainD] at h; cases h
  | _, _, .dt _ _ _, _, h => by rw [plainD] at h; cases h
  | _, _, .adr _, _, h => by rw [plainD] at h; cases h
  | _, _, .scr _ _, _, h => by rw [plainD] at h; cases h
  | _, _, .ob _ _ _ _, _, h => by rw [plainD] at h; cases h
theorem plains_ok : ∀ (n m : Nat) (ds : List D), n ≤ m → plainDs n ds = true → okDs m ds = true
  | _, m, [], _, _ => by rw [okDs]
  | n, m, d :: r, l, h => by
    rw [plainDs, Bool.and_eq_true_iff] at h
    rw [okDs, plain_ok n m d l h.1, plains_ok n m r l h.2]
    rfl
end
theorem plain_at {n : Nat} : ∀ {ds : List D} {i : Nat} {d : D}, plainDs n ds = true → ds[i]? = some d → plainD n d = true
  | [], i, d, _, h => by simp at h
  | e :: r, 0, d, h, q => by
    rw [plainDs, Bool.and_eq_true_iff] at h
    have : e = d := Option.some.inj q
    subst this
    exact h.1
  | e :: r, i + 1, d, h, q => by
    rw [plainDs, Bool.and_eq_true_iff] at h
    exact plain_at h.2 (by simpa using q)
theorem plains_of {n : Nat} : ∀ {ds : List D}, (∀ d ∈ ds, plainD n d = true) → plainDs n ds = true
  | [], _ => by rw [plainDs]
  | d :: r, h => by
    rw [plainDs, h d (by simp), plains_of fun e he => h e (by simp [he])]
    rfl
theorem eqD_refl {n : Nat} {d : D} (h : okD n d = true) : eqD d d = true := by
  unfold eqD
  exact PySem.SeqAt.eqv_refl _ (okD_lay n d h).1
/-- n: how many calls, one in another -/
def S_w_alike : Nat → FS
  | 0 => fun _ _ _ => False
  | n + 1 => fun xs mu Q => ∃ d, xs = [.dat d, .dat d] ∧ mu = [] ∧ n ≤ 50 ∧ plainD n d = true ∧ Q (.dv (.dat (.bl true))) []
def t_w_alike (n : Nat) : DS :=
  (dSeq (dIf (dTest (dIsi2 "list" "tuple" (dVar 1)))
  (dSeq (dIf (dTest (dOp dNe (dIsi "list" (dVar 0)) (dIsi "list" (dVar 1))))
  (dRet (dC (.bl false)))
  dNext)
  (dSeq (dIf (dTest (dOp dNe (dIsi "tuple" (dVar 0)) (dIsi "tuple" (dVar 1))))
  (dRet (dC (.bl false)))
  dNext)
  (dSeq (dIf (dTest (dOp dNe (dCB dLen (aCons (dVar 0) aNil)) (dCB dLen (aCons (dVar 1) aNil))))
  (dRet (dC (.bl false)))
  dNext)
  (dRet (dCB dAll (aCons (dFrz (fLc (iRg1 (aCons (dCB dLen (aCons (dVar 1) aNil)) aNil)) (dgN 2) dYes (dCall (S_w_alike n) (aCons (dOp dIx (dVar 0) (dVar 2)) (aCons (dOp dIx (dVar 1) (dVar 2)) aNil))) [2])) aNil))))))
  dNext)
  (dRet (dAndV (dOp dEq (dIsi "bool" (dVar 0)) (dIsi "bool" (dVar 1))) (dOp dEq (dVar 0) (dVar 1)))))
theorem len_w_alike {n : Nat} : ∀ xs mu Q, S_w_alike n xs mu Q → xs.length = 2 := fun xs mu Q h => by
  cases n with
  | zero => exact h.elim
  | succ n =>
    obtain ⟨d, rfl, _⟩ := h
    rfl
theorem neD_bl (b : Bool) : (!eqD (.bl b) (.bl b)) = false := by cases b <;> rfl
theorem neD_int (i : Int) : (!eqD (.int i) (.int i)) = false := by
  rw [eqD_int, decide_eq_true rfl]
  rfl
theorem all_true : ∀ n : Nat, ((List.replicate n true).all id) = true
  | 0 => rfl
  | n + 1 => by rw [List.replicate_succ, List.all_cons, all_true n]; rfl
/-- the tail of the walk over a list's, a tuple's items -/
theorem alike_items {n : Nat} {d : D} {ds : List D} {Q : List D → Mu → Prop} {rho : Rho} (hn : n < 50) (e0 : ∀ x, slotD (setD rho 2 x) 0 = some (.dat d)) (e1 : ∀ x, slotD (setD rho 2 x) 1 = some (.dat d)) (e2 : ∀ x, slotD (setD rho 2 x) 2 = some x)
    (hd : d = .lst ds ∨ d = .tup ds) (hl : ds.length ≤ 90000) (pl : plainDs n ds = true) (q : Q ((List.replicate ds.length true).map D.bl) []) :
    dCompL (dgN 2) dYes (dCall (S_w_alike (n + 1)) (aCons (dOp dIx (dVar 0) (dVar 2)) (aCons (dOp dIx (dVar 1) (dVar 2)) aNil))) rho Q (rngD 0 ds.length) [] [] := by
  refine comp_inv (fun i acc mu => mu = [] ∧ acc = (List.replicate i true).map D.bl) ⟨rfl, rfl⟩ (fun i x acc mu K hx hp k => ?_) (fun acc mu hp => ?_)
  · obtain ⟨rfl, rfl⟩ := hp
    obtain ⟨rfl, hi⟩ := rng_at hx
    unfold dgN dYes
    simp only [if_true]
    unfold dOp dCall aCons aNil dVar
    simp only [e0, e1, e2]
    have h2 : ds[i]? = some ds[i] := List.getElem?_eq_getElem hi
    have h3 : L2.atI ds (0 + (i : Nat)) = some ds[i] := by
      rw [Int.zero_add]
      exact L2.atI_nat h2
    have fin : S_w_alike (n + 1) [.dat ds[i], .dat ds[i]] [] (backD [] fun y mu2 => onD y fun y => ((List.replicate i true).map D.bl).length < 1000000 ∧ K ((List.replicate i true).map D.bl ++ [y]) mu2) := by
      refine ⟨ds[i], rfl, rfl, by omega, plain_at pl h2, ?_⟩
      refine ⟨by rw [List.length_map, List.length_replicate]; omega, k _ _ ⟨rfl, ?_⟩⟩
      rw [List.replicate_succ', List.map_append]
      rfl
    rcases hd with rfl | rfl
    · exact on_some h3 (on_some h3 ⟨rfl, fin⟩)
    · exact on_some h3 (on_some h3 ⟨rfl, fin⟩)
  · obtain ⟨rfl, rfl⟩ := hp
    rw [rng_len]
    exact q
theorem rd_w_alike {n : Nat} : Body (t_w_alike n) ["_law_found", "_law_due", "_law_k"] (S_w_alike (n + 1)) := fun xs mu Q h => by
  obtain ⟨d, rfl, rfl, hn, pl, q⟩ := h
  have flat : (∀ T, tyDV [] (.dat d) = some T → (isiB T "list" || isiB T "tuple") = false) → (∃ T, tyDV [] (.dat d) = some T) → okD 60 d = true →
      t_w_alike n { nx := fun _ mu' => retQ 0 Q (.dv (.dat .non)) mu', rt := retQ 0 Q } (startD ["_law_found", "_law_due", "_law_k"] [.dat d, .dat d]) [] := fun h1 ⟨T, hT⟩ ok => by
    refine on_some hT ?_
    show if (isiB T "list" || isiB T "tuple") = true then _ else _
    rw [h1 T hT]
    refine iteF ?_
    refine on_some hT (on_some hT ?_)
    refine ⟨okD_bl _ _, okD_bl _ _, ?_⟩
    rw [eqD_refl (n := 60) (okD_bl _ _)]
    refine ⟨ok, ok, ?_⟩
    rw [eqD_refl ok]
    exact q
  have seq : ∀ (ds : List D) (T : String), (d = .lst ds ∨ d = .tup ds) → tyDV [] (.dat d) = some T → (isiB T "list" || isiB T "tuple") = true → ds.length ≤ 90000 → (∃ k, n = k + 1 ∧ plainDs k ds = true) →
      t_w_alike n { nx := fun _ mu' => retQ 0 Q (.dv (.dat .non)) mu', rt := retQ 0 Q } (startD ["_law_found", "_law_due", "_law_k"] [.dat d, .dat d]) [] := fun ds T hd hT h1 hl ⟨k, ek, pk⟩ => by
    subst ek
    refine on_some hT ?_
    show if (isiB T "list" || isiB T "tuple") = true then _ else _
    rw [h1]
    refine iteT ?_
    refine on_some hT (on_some hT ⟨okD_bl _ _, okD_bl _ _, ?_⟩)
    show if (!eqD (.bl (isiB T "list")) (.bl (isiB T "list"))) = true then _ else _
    rw [neD_bl]
    refine iteF ?_
    refine on_some hT (on_some hT ⟨okD_bl _ _, okD_bl _ _, ?_⟩)
    show if (!eqD (.bl (isiB T "tuple")) (.bl (isiB T "tuple"))) = true then _ else _
    rw [neD_bl]
    refine iteF ?_
    have fin : dCompL (dgN 2) dYes (dCall (S_w_alike (k + 1)) (aCons (dOp dIx (dVar 0) (dVar 2)) (aCons (dOp dIx (dVar 1) (dVar 2)) aNil))) [some (.dat d), some (.dat d), none] (fun acc mu2 => dAll [.dat (.lst acc)] mu2 fun x mu3 => retQ 0 Q (.dv x) mu3) (rngD 0 ds.length) [] [] := by
      refine alike_items (by omega) (fun _ => rfl) (fun _ => rfl) (fun _ => rfl) hd hl pk ?_
      refine on_some (a := List.replicate ds.length true) (toBls_of _) ?_
      rw [all_true]
      exact q
    rcases hd with rfl | rfl
    · refine ⟨okD_int _ _, okD_int _ _, ?_⟩
      show if (!eqD (.int ((ds.length : Nat) : Int)) (.int ((ds.length : Nat) : Int))) = true then _ else _
      rw [neD_int]
      refine iteF ?_
      exact ⟨by omega, by omega, fin⟩
    · refine ⟨okD_int _ _, okD_int _ _, ?_⟩
      show if (!eqD (.int ((ds.length : Nat) : Int)) (.int ((ds.length : Nat) : Int))) = true then _ else _
      rw [neD_int]
      refine iteF ?_
      exact ⟨by omega, by omega, fin⟩
  cases d with
  | non => exact flat (fun T h => by cases h; rfl) ⟨_, rfl⟩ (plain_ok n 60 _ (by omega) pl)
  | bl b => exact flat (fun T h => by cases h; rfl) ⟨_, rfl⟩ (plain_ok n 60 _ (by omega) pl)
  | int b => exact flat (fun T h => by cases h; rfl) ⟨_, rfl⟩ (plain_ok n 60 _ (by omega) pl)
  | str b => exact flat (fun T h => by cases h; rfl) ⟨_, rfl⟩ (plain_ok n 60 _ (by omega) pl)
  | lst ds =>
    cases n with
    | zero => rw [plainD] at pl; cases pl
    | succ k =>
      rw [plainD, Bool.and_eq_true_iff] at pl
      exact seq ds "list" (.inl rfl) rfl rfl (of_decide_eq_true pl.1) ⟨k, rfl, pl.2⟩
  | tup ds =>
    cases n with
    | zero => rw [plainD] at pl; cases pl
    | succ k =>
      rw [plainD, Bool.and_eq_true_iff] at pl
      exact seq ds "tuple" (.inr rfl) rfl rfl (of_decide_eq_true pl.1) ⟨k, rfl, pl.2⟩
  | dk _ _ => rw [plainD] at pl; cases pl
  | dt _ _ _ => rw [plainD] at pl; cases pl
  | adr _ => rw [plainD] at pl; cases pl
  | scr _ _ => rw [plainD] at pl; cases pl
  | ob _ _ _ _ => rw [plainD] at pl; cases pl
theorem Df.never {P : Program} {w : World} {K : PySem.W.Frag} {mg : Str → Option Value} {base : Heap} {x : Str} {st : Stmt} {ps : List Str} {S : FS} {k : Nat} (D : Df K mg x st ps) (h : ∀ xs mu Q, ¬ S xs mu Q) : Cal P w K mg base k x ps S := by
  obtain ⟨f, fd, F, m, b⟩ := D.ok
  have no : ∀ vs H Q E, ¬ spOf S vs H Q E := fun vs H Q E h' => by
    obtain ⟨_, _, xs, mu, Qd, _, _, q, _⟩ := h'
    exact h xs mu Qd q
  exact ⟨f, fd, ⟨fun vs H Q E h => absurd h (no vs H Q E), fun A outer s H args us vs Q E _ _ _ _ h => absurd h (no vs H Q E)⟩, m, F.kp, b⟩
end Dx

namespace Dx
open PySem PySem.Spec PyProof.Rows L2
open Evl (Ex)
variable [Tb]

/-! ### a law -/
def S_law (K : PySem.W.Frag) : FS := fun xs mu Q => ∃ ns : List Int, xs = [.dat (.scr K ns)] ∧ ns.length ≤ 63 ∧ mu = [] ∧ Q (.dv (.dat (.bl true))) []
theorem len_law {K : PySem.W.Frag} : ∀ xs mu Q, S_law K xs mu Q → xs.length = 1 := fun xs mu Q h => by
  obtain ⟨ns, rfl, _⟩ := h
  rfl
theorem noT_sq {K : PySem.W.Frag} {H : Hp} {a : Addr} {xs : List V} (h : SqL K H a xs) : SqL K (noT H) a xs := by
  rcases h with (h | ⟨o, h⟩) | h
  · exact .inl (.inl (noT_of h fun ps z => by cases z))
  · exact .inl (.inr ⟨o, noT_of h fun ps z => by cases z⟩)
  · exact .inr h
theorem law_sp {K : PySem.W.Frag} {H : Hp} {a : Addr} {ns : List Int} (ht : TbOk H) (h63 : ns.length ≤ 63) (hS : SqL K H a (ns.map V.int)) : spOf (S_law K) [.ref a] H (fun v _ => v = .bl true) fun _ _ _ => False := by
  refine ⟨noT H, [], [.dat (.scr K ns)], [], fun rv _ => rv = .dv (.dat (.bl true)), Cels.empt noT_ex noT_nt ht, .cons ?_ .nil, ⟨ns, rfl, h63, rfl, rfl⟩, fun F' mu' rv v H' E C r f q => ?_⟩
  · show Rep (noT H) (.scr K ns) (.ref a)
    rw [Rep]
    exact ⟨a, rfl, noT_sq hS⟩
  · subst q
    exact rv_bl_out (F := F') (al := []) r
theorem df_mk {K : PySem.W.Frag} {mg : Str → Option Value} {h : Heap} {x : Str} {st : Stmt} {ps : List Str} {f : Addr} {oc : Value} {od an : Option Addr} {osl : Array (Option Value)} {kV doc pm cdv ct : Value} (X : K.In h) (G : h.Ns mainGlobals mg)
    (a : PySem.W.nsIn K mainGlobals x = some (some (.ref f))) (l : K.lookup f = some ⟨oc, od, .func (PySem.W.fnOf x x (defArgs st) (defBody st) (defScope st) .none kV doc pm an cdv ct), osl⟩) (c : PySem.W.codeIn K cdv x = true) (k : PySem.W.keepIn K (.ref f) = true)
    (hb : ∀ (kV doc pm : Value) (an : Option Addr) (cdv ct : Value) (us : List Value), us.length = ps.length → bindArgs (PySem.W.fnOf x x (defArgs st) (defBody st) (defScope st) .none kV doc pm an cdv ct) ⟨us, []⟩ = pure (ps.zip us)) : Df K mg x st ps := by
  have F := fun_mk (st := st) l c k
  exact ⟨f, _, F, PySem.W.mg_of X G a, F.binds hb⟩
end Dx

namespace Dx
open PySem PySem.Spec PyProof.Rows L2
open Evl (Ex)
variable [Tb]

/-! ### greedy places -/
def natD (n : Nat) : D := .int n
end Dx

namespace Dx
open PySem PySem.Spec PyProof.Rows L2
open Evl (Ex)
variable [Tb]
section
variable {X : Cx} {a tg : Expr} {ta : DE} {pos : Pos}
end

end Dx

namespace Dx
open PySem PySem.Spec PyProof.Rows L2
open Evl (Ex)
variable [Tb]

end Dx

namespace Dx
open PySem PySem.Spec PyProof.Rows L2
open Evl (Ex)
variable [Tb]

open PySem.Builtin PySem.Builtin.Str PySem.StrLaws in
/-! ### machines -/
structure Mach where
  L : List Nat
  b : Nat
  ends : List Nat
  steps : List (List Nat)
def rowD (r : List Nat) : D := .tup (r.map natD)
def Mach.toD (M : Mach) : D := .tup [.str M.L, natD M.b, .tup (M.ends.map natD), .tup (M.steps.map rowD)]
structure Mach.Ok (M : Mach) : Prop where
  letters : IsLetters M.L
  len : 0 < M.L.length ∧ M.L.length ≤ 26
  rooms : 0 < M.steps.length ∧ M.steps.length ≤ 10000
  rows : ∀ r ∈ M.steps, r.length = M.L.length ∧ ∀ q ∈ r, q < M.steps.length
  begin : M.b < M.steps.length
  ends : ∀ e ∈ M.ends, e < M.steps.length
  few : M.ends.length ≤ 10000
  rise : M.ends.Pairwise (· < ·)
def posL (c : Nat) (l : List Nat) : Nat := (findFrom l c 0).getD 0
theorem pos_of {l : List Nat} {c : Nat} (h : c ∈ l) : findFrom l c 0 = some (posL c l) ∧ posL c l < l.length ∧ l[posL c l]? = some c := by
  unfold posL
  cases e : findFrom l c 0 with
  | none =>
    obtain ⟨i, hi, hc⟩ := List.getElem_of_mem h
    exact absurd (by rw [List.getElem?_eq_getElem hi, hc]) (find_none e i (Nat.zero_le _))
  | some k =>
    obtain ⟨_, h2, h3, _⟩ := find_some e
    exact ⟨rfl, h2, h3⟩
def Mach.stp (M : Mach) (r c : Nat) : Nat := (M.steps.getD r []).getD (posL c M.L) 0
def Mach.go (M : Mach) (r : Nat) (t : List Nat) : Nat := t.foldl M.stp r
theorem Mach.go_app (M : Mach) (r : Nat) (t u : List Nat) : M.go r (t ++ u) = M.go (M.go r t) u := List.foldl_append
theorem Mach.Ok.stp {M : Mach} (h : M.Ok) {r c : Nat} (hr : r < M.steps.length) (hc : c ∈ M.L) : ∃ row, M.steps[r]? = some row ∧ row[posL c M.L]? = some (M.stp r c) ∧ M.stp r c < M.steps.length := by
  obtain ⟨_, p1, _⟩ := pos_of hc
  have e1 : M.steps[r]? = some M.steps[r] := List.getElem?_eq_getElem hr
  obtain ⟨w1, w2⟩ := h.rows _ (List.getElem_mem hr)
  have hl : posL c M.L < M.steps[r].length := by rw [w1]; exact p1
  have e2 : M.steps[r][posL c M.L]? = some M.steps[r][posL c M.L] := List.getElem?_eq_getElem hl
  have e3 : M.stp r c = M.steps[r][posL c M.L] := by
    unfold Mach.stp
    rw [List.getD_eq_getElem?_getD, List.getD_eq_getElem?_getD, e1]
    show (M.steps[r][posL c M.L]?).getD 0 = _
    rw [e2]
    rfl
  refine ⟨_, e1, by rw [e3]; exact e2, by rw [e3]; exact w2 _ (List.getElem_mem hl)⟩
theorem Mach.Ok.go {M : Mach} (h : M.Ok) : ∀ {t : List Nat} {r : Nat}, r < M.steps.length → (∀ c ∈ t, c ∈ M.L) → M.go r t < M.steps.length
  | [], r, hr, _ => hr
  | c :: t, r, hr, ht => h.go (t := t) (h.stp hr (ht c (by simp))).choose_spec.2.2 fun x hx => ht x (by simp [hx])
def Mach.takes (M : Mach) (t : List Nat) : Bool := decide (M.go M.b t ∈ M.ends)
end Dx

namespace Dx
open PySem PySem.Spec PyProof.Rows L2
open Evl (Ex)
variable [Tb]

/-! ### wishes -/
inductive Wish where
  | always
  | never
  | has (w : List Nat)
  | neg (a : Wish)
  | con (a b : Wish)
  | dis (a b : Wish)
def Wish.toD : Wish → D
  | .always => .tup [.str (lit "always")]
  | .never => .tup [.str (lit "never")]
  | .has w => .tup [.str (lit "has"), .str w]
  | .neg a => .tup [.str (lit "not"), a.toD]
  | .con a b => .tup [.str (lit "and"), a.toD, b.toD]
  | .dis a b => .tup [.str (lit "or"), a.toD, b.toD]
def Wish.deep : Wish → Nat
  | .always => 0
  | .never => 0
  | .has _ => 0
  | .neg a => a.deep + 1
  | .con a b => max a.deep b.deep + 1
  | .dis a b => max a.deep b.deep + 1
def Wish.size : Wish → Nat
  | .always => 1
  | .never => 1
  | .has _ => 1
  | .neg a => a.size + 1
  | .con a b => a.size + b.size + 1
  | .dis a b => a.size + b.size + 1
def Wish.words : Wish → List (List Nat)
  | .always => []
  | .never => []
  | .has w => [w]
  | .neg a => a.words
  | .con a b => a.words ++ b.words
  | .dis a b => a.words ++ b.words
def Wish.holds : Wish → List Nat → Bool
  | .always, _ => true
  | .never, _ => false
  | .has w, t => sub w t
  | .neg a, t => !a.holds t
  | .con a b, t => a.holds t && b.holds t
  | .dis a b, t => a.holds t || b.holds t
end Dx

namespace Dx
open PySem PySem.Spec PyProof.Rows L2
open Evl (Ex)
variable [Tb]
end Dx

namespace Dx
open PySem PySem.Spec PyProof.Rows PyProof.Rows.G L2
open Evl (Ex)
variable [Tb]

inductive KeysFor (H : Hp) : List Addr → List Str → Prop
  | nil : KeysFor H [] []
  | cons {t : Addr} {w : Str} {ts : List Addr} {ws : List Str} : H t = some (.tup [.int (w.length : Int), .str w]) → KeysFor H ts ws → KeysFor H (t :: ts) (w :: ws)
theorem KeysFor.mono {H H' : Hp} (e : ∀ t u, H t = some (.tup u) → H' t = some (.tup u)) : ∀ {ts : List Addr} {ws : List Str}, KeysFor H ts ws → KeysFor H' ts ws
  | _, _, .nil => .nil
  | _, _, .cons h r => .cons (e _ _ h) (r.mono e)
theorem KeysFor.len {H : Hp} : ∀ {ts : List Addr} {ws : List Str}, KeysFor H ts ws → ts.length = ws.length
  | _, _, .nil => rfl
  | _, _, .cons h r => by rw [List.length_cons, List.length_cons, r.len]
section
variable {X : Cx} {pins : List (Addr × Obj)} {σ : L2.St} {H : Hp} {s : Shared}
def strOf : Value → Str
  | .str w _ => w
  | _ => ⟨#[]⟩
end
section
variable {X : Cx} {pins : List (Addr × Obj)} {σ : L2.St}
end
end Dx

namespace Dx
open PySem PySem.Spec PyProof.Rows PyProof.Rows.G L2
open Evl (Ex)
variable [Tb]
section
variable {X : Cx} {pins : List (Addr × Obj)} {σ : L2.St}
end
end Dx
namespace Dx
open PySem PySem.Spec PyProof.Rows PyProof.Rows.G L2
open Evl (Ex)
variable [Tb]
section
variable {X : Cx} {pins : List (Addr × Obj)} {σ : L2.St} {H : Hp} {s : Shared}
end
/-- shorter ones first, then as texts -/
def ltW (a b : List Nat) : Bool := decide (a.length < b.length) || (decide (a.length = b.length) && decide (a < b))
theorem Cels.up {F H H' : Hp} {al : List Addr} {mu : Mu} (C : Cels F al mu H) (k : Kept H H') : Cels F al mu H' := by
  refine ⟨fun a o e => k.kp a o (C.ex a o e) fun ps z => C.nt a ps (by rw [e, z]), C.nt, k.tb C.tb, C.len, C.nd, fun i a m h1 h2 => ?_⟩
  have ok := C.cel i a m h1 h2
  exact ok.keep (Ex.refl F) id (fun o h n => k.kp a o h n) (k.dm a)
theorem Ext.up {F H H' : Hp} {al : List Addr} {mu : Mu} (C : Cels F al mu H) (k : Kept H H') : Ext F al H F al H' :=
  ⟨Ex.refl F, List.prefix_refl _, fun _ h => .inl h, fun _ h => .inl h, fun a o _ h n => k.kp a o h n, k.dm⟩
theorem repl_strs {F : Hp} : ∀ ys : List (List Nat), RepL F (ys.map D.str) ((ys.map mkS).map V.str)
  | [] => .nil
  | y :: r => .cons (by rw [Rep]; rfl) (repl_strs r)
section
variable {X : Cx} {e : Expr} {te : DE} {x : Str} {ps : List Str} {k : Nat} {pos p p2 p3 : Pos}
end
end Dx

namespace Dx
open PySem PySem.Spec PyProof.Rows L2
open Evl (Ex)
variable [Tb]

section
variable {X : Cx} {a b o i value e k v : Expr} {ta tb to ti te tk tv : DE} {pos pos' : Pos}
theorem Cels.other {F H : Hp} {al : List Addr} {mu : Mu} {p : Addr} {o : HO} (C : Cels F al mu H) (n : p ∉ al) (nF : F p = none) {o1 : HO} (h1 : H p = some o1) (pl : Plain p o1) : Cels F al mu (upd H p o) := by
  refine ⟨fun b u h => ?_, C.nt, tabs_put C.tb h1 pl, C.len, C.nd, fun j a m h1' h2 => ?_⟩
  · rw [upd_ne (fun z => by rw [z, nF] at h; cases h)]
    exact C.ex b u h
  · refine (C.cel j a m h1' h2).mono (Ex.refl F) id ?_
    exact upd_ne (fun z : a = p => n (by rw [← z]; exact List.mem_of_getElem? h1'))
end
end Dx

namespace Dx
open PySem PySem.Spec PyProof.Rows L2
open Evl (Ex)
variable [Tb]

/-! ### words in their order -/
theorem ltW_iff {a b : List Nat} : ltW a b = true ↔ a.length < b.length ∨ (a.length = b.length ∧ a < b) := by
  unfold ltW
  rw [Bool.or_eq_true_iff, Bool.and_eq_true_iff, decide_eq_true_iff, decide_eq_true_iff, decide_eq_true_iff]
theorem ltW_irr (a : List Nat) : ltW a a = false := by
  cases h : ltW a a with
  | false => rfl
  | true =>
    rcases ltW_iff.mp h with z | ⟨_, z⟩
    · omega
    · exact absurd z (List.lt_irrefl a)
theorem ltW_tri {a b : List Nat} (h1 : ltW a b = false) (h2 : ltW b a = false) : a = b := by
  have n1 : ¬ (a.length < b.length ∨ (a.length = b.length ∧ a < b)) := fun z => by rw [ltW_iff.mpr z] at h1; cases h1
  have n2 : ¬ (b.length < a.length ∨ (b.length = a.length ∧ b < a)) := fun z => by rw [ltW_iff.mpr z] at h2; cases h2
  have e : a.length = b.length := by
    rcases Nat.lt_trichotomy a.length b.length with z | z | z
    · exact absurd (.inl z) n1
    · exact z
    · exact absurd (.inl z) n2
  have l1 : ¬ a < b := fun z => n1 (.inr ⟨e, z⟩)
  have l2 : ¬ b < a := fun z => n2 (.inr ⟨e.symm, z⟩)
  exact List.le_antisymm (List.not_lt.mp l2) (List.not_lt.mp l1)
theorem ltW_trans {a b c : List Nat} (h1 : ltW a b = true) (h2 : ltW b c = true) : ltW a c = true := by
  rcases ltW_iff.mp h1 with z1 | ⟨e1, z1⟩
  · rcases ltW_iff.mp h2 with z2 | ⟨e2, z2⟩
    · exact ltW_iff.mpr (.inl (by omega))
    · exact ltW_iff.mpr (.inl (by omega))
  · rcases ltW_iff.mp h2 with z2 | ⟨e2, z2⟩
    · exact ltW_iff.mpr (.inl (by omega))
    · exact ltW_iff.mpr (.inr ⟨by omega, List.lt_trans z1 z2⟩)
/-- in their order -/
def OrdW (l : List (List Nat)) : Prop := l.Pairwise fun a b => ltW b a = false
/-- there is just one such list -/
theorem ordW_uniq : ∀ {l m : List (List Nat)}, OrdW l → OrdW m → l.Perm m → l = m
  | [], m, _, _, p => (List.Perm.nil_eq p)
  | a :: l, [], _, _, p => absurd p.length_eq (by simp)
  | a :: l, b :: m, hl, hm, p => by
    have h1 : ltW b a = false := by
      rcases List.mem_cons.mp (p.mem_iff.mpr (List.mem_cons_self (a := b) (l := m))) with e | e
      · rw [e]; exact ltW_irr a
      · exact (List.pairwise_cons.mp hl).1 b e
    have h2 : ltW a b = false := by
      rcases List.mem_cons.mp (p.mem_iff.mp (List.mem_cons_self (a := a) (l := l))) with e | e
      · rw [e]; exact ltW_irr b
      · exact (List.pairwise_cons.mp hm).1 a e
    have e := ltW_tri h2 h1
    subst e
    rw [ordW_uniq (List.pairwise_cons.mp hl).2 (List.pairwise_cons.mp hm).2 p.cons_inv]
end Dx

namespace Dx
open PySem PySem.Spec PyProof.Rows L2
open Evl (Ex)
variable [Tb]

/-! ### all words of some letters -/
def lev (l : List Nat) : Nat → List (List Nat)
  | 0 => [[]]
  | n + 1 => (lev l n).flatMap fun w => l.map fun c => w ++ [c]
def allW (l : List Nat) : Nat → List (List Nat)
  | 0 => [[]]
  | n + 1 => allW l n ++ lev l (n + 1)
theorem mem_lev {l : List Nat} : ∀ {n : Nat} {w : List Nat}, w ∈ lev l n ↔ w.length = n ∧ ∀ c ∈ w, c ∈ l
  | 0, w => by
    unfold lev
    rw [List.mem_singleton]
    refine ⟨fun e => by subst e; simp, fun h => List.eq_nil_of_length_eq_zero h.1⟩
  | n + 1, w => by
    unfold lev
    rw [List.mem_flatMap]
    refine ⟨fun ⟨v, hv, hw⟩ => ?_, fun ⟨h1, h2⟩ => ?_⟩
    · obtain ⟨c, hc, rfl⟩ := List.mem_map.mp hw
      obtain ⟨a, b⟩ := mem_lev.mp hv
      refine ⟨by rw [List.length_append, a]; rfl, fun x hx => ?_⟩
      rcases List.mem_append.mp hx with z | z
      · exact b x z
      · rw [List.mem_singleton] at z; rw [z]; exact hc
    · rcases List.eq_nil_or_concat w with e | ⟨v, c, e⟩
      · subst e; simp at h1
      · rw [List.concat_eq_append] at e
        subst e
        refine ⟨v, mem_lev.mpr ⟨?_, fun x hx => h2 x (List.mem_append_left _ hx)⟩, List.mem_map.mpr ⟨c, h2 c (by simp), rfl⟩⟩
        rw [List.length_append, List.length_singleton] at h1
        omega
theorem mem_allW {l : List Nat} : ∀ {n : Nat} {w : List Nat}, w ∈ allW l n ↔ w.length ≤ n ∧ ∀ c ∈ w, c ∈ l
  | 0, w => by
    unfold allW
    rw [List.mem_singleton]
    refine ⟨fun e => by subst e; simp, fun h => List.eq_nil_of_length_eq_zero (by omega)⟩
  | n + 1, w => by
    unfold allW
    rw [List.mem_append, mem_allW, mem_lev]
    refine ⟨fun h => ?_, fun ⟨h1, h2⟩ => ?_⟩
    · rcases h with ⟨a, b⟩ | ⟨a, b⟩
      · exact ⟨by omega, b⟩
      · exact ⟨by omega, b⟩
    · by_cases h : w.length ≤ n
      · exact .inl ⟨h, h2⟩
      · exact .inr ⟨by omega, h2⟩
theorem snoc_inj {v w : List Nat} {c d : Nat} (h : v ++ [c] = w ++ [d]) : v = w ∧ c = d := by
  have h1 := congrArg List.reverse h
  rw [List.reverse_append, List.reverse_append] at h1
  have h2 : c :: v.reverse = d :: w.reverse := h1
  injection h2 with a b
  exact ⟨List.reverse_inj.mp b, a⟩
/-! ### the words that lie spread -/
/-- shorter ones first, each once -/
def WordsOf (t : List Nat) (k : Nat) (ys : List (List Nat)) : Prop := OrdW ys ∧ ys.Nodup ∧ ∀ w, w ∈ ys ↔ w.Sublist t ∧ w.length ≤ k
theorem sub_snoc {w t : List Nat} {c : Nat} : w.Sublist (t ++ [c]) ↔ w.Sublist t ∨ ∃ v, v.Sublist t ∧ w = v ++ [c] := by
  rw [List.sublist_append_iff]
  refine ⟨fun ⟨l1, l2, e, h1, h2⟩ => ?_, fun h => ?_⟩
  · cases h2 with
    | cons _ h =>
      cases h
      rw [List.append_nil] at e
      subst e
      exact .inl h1
    | cons_cons _ h =>
      cases h
      exact .inr ⟨l1, h1, e⟩
  · rcases h with h | ⟨v, h, e⟩
    · exact ⟨w, [], by simp, h, List.nil_sublist _⟩
    · exact ⟨v, [c], e, h, List.Sublist.refl _⟩
end Dx

namespace Dx
open PySem PySem.Spec PyProof.Rows L2
open Evl (Ex)
variable [Tb]

theorem words_plain {n : Nat} {ys : List (List Nat)} (h : ∀ w ∈ ys, ∀ c ∈ w, c < 1114112) : plainDs n (ys.map D.str) = true := plains_of fun d hd => by
  obtain ⟨w, hw, rfl⟩ := List.mem_map.mp hd
  have : w.all (· < 0x110000) = true := List.all_eq_true.mpr fun c hc => decide_eq_true (h w hw c hc)
  cases n <;> (rw [plainD]; exact this)
end Dx

namespace Dx
open PySem PySem.Spec PyProof.Rows L2
open Evl (Ex)
variable [Tb]

section
variable {X : Cx} {e : Expr} {te : DE} {k : Nat} {p1 p2 p3 pos : Pos}
end
end Dx

namespace Dx
open PySem PySem.Spec PyProof.Rows L2
open Evl (Ex)
variable [Tb]

end Dx

namespace Dx
open PySem PySem.Spec PyProof.Rows L2 PySem.Froz
open Evl (Ex)
variable [Tb]

/-! ### sets of texts -/
structure TxR (P : Program) (w : World) (D : SD) (l : List Str) : Prop where
  ok : TxOk P w D l
  ris : Ris D.2.2.place.toList
  led : w.params.followText "set-order" = true ∨ D.2.2.led = true
  nd : l.Nodup
theorem tail_place {w : World} {ep : Nat} {es1 : Array (Int × Value)} {t2 : SetTable} {d : Bool} (r : Ris t2.place.toList) (l : w.params.followText "set-order" = true ∨ t2.led = true) :
    Ris (tailTx ep es1 t2 d).2.2.place.toList ∧ (w.params.followText "set-order" = true ∨ (tailTx ep es1 t2 d).2.2.led = true) := by
  unfold tailTx
  by_cases c : (!d && t2.tooFull) = true
  · rw [if_pos c]
    exact ⟨relayAll_ris _ _ _, l.imp id fun z => (relayAll_led _ _ _).trans z⟩
  · rw [if_neg c]
    exact ⟨r, l⟩
theorem TxR.add {P : Program} {w : World} {D : SD} {l : List Str} {k : Str} (u : Tok) (R : TxR P w D l) (hk : k ∉ l) : TxR P w (addTx (hashStr w k) (.str k u) D) (k :: l) := by
  have h1 := layNew_ris D.2.2 D.1 (hashStr w k) (.str k u) R.ris
  have h2 := layNew_led D.2.2 D.1 (hashStr w k) (.str k u)
  have h3 : Ris (if (layNew D.2.2 D.1 (hashStr w k) (.str k u)).2.1.plain = true then { (layNew D.2.2 D.1 (hashStr w k) (.str k u)).2.1 with plain := false } else (layNew D.2.2 D.1 (hashStr w k) (.str k u)).2.1).place.toList ∧
      (w.params.followText "set-order" = true ∨ (if (layNew D.2.2 D.1 (hashStr w k) (.str k u)).2.1.plain = true then { (layNew D.2.2 D.1 (hashStr w k) (.str k u)).2.1 with plain := false } else (layNew D.2.2 D.1 (hashStr w k) (.str k u)).2.1).led = true) := by
    split
    · exact ⟨h1, R.led.imp id fun z => h2.trans z⟩
    · exact ⟨h1, R.led.imp id fun z => h2.trans z⟩
  have h4 := tail_place (ep := D.2.1) (es1 := (layNew D.2.2 D.1 (hashStr w k) (.str k u)).1) (d := (layNew D.2.2 D.1 (hashStr w k) (.str k u)).2.2.1) h3.1 h3.2
  exact ⟨add_ok u R.ok, h4.1, h4.2, List.nodup_cons.mpr ⟨hk, R.nd⟩⟩
section
variable {P : Program} {w : World} {A : Around} {E : Value → Shared → Prop} {s : Shared} {a : Addr} {D : SD} {l : List Str} {k : Str} {u : Tok}
theorem add_old {Q : Bool → Shared → Prop} (ho : s.heap.get? a = some (sObj "set" D)) (F : TxOk P w D l) (hk : k ∈ l) (hb : l.length < scanBound) (h : Q false s) : wpAny (model P w) A (setAddHashed a (.str k u) (hashStr w k)) Q E s := by
  obtain ⟨es, ep, t⟩ := D
  have hdt : (sObj "set" (es, ep, t)).data = .set es ep t := rfl
  have hel : ElemsOf (strKind P w) es.toList := F.el
  have hsz : es.size = l.length := F.sz
  obtain ⟨e, he, hie⟩ := (F.mem k).mp hk
  unfold setAddHashed setAddHashedIn
  refine wpAny_holding (wpAny_bind (wpAny_setState_of ho hdt F.fit ?_))
  dsimp only
  rw [byScan_of rfl (by omega) hel]
  simp only [↓reduceIte]
  unfold setAddByScan
  refine wpAny_bind (wpAny_bind (wpAny_rule ?_))
  refine wpAny_bind (wpAny_setScan_of (knd := strKind P w) (k := k) (is_str k u) ho hdt F.fit hel ?_)
  cases hr : List.findIdx? (fun e => (strKind P w).is k e.2) es.toList with
  | none =>
    have := List.findIdx?_eq_none_iff.mp hr e he
    rw [hie] at this
    cases this
  | some j =>
    dsimp only
    exact wpAny_pure (wpAny_pure h)
/-- a sign into the set -/
theorem sign_in {Q : Bool → Shared → Prop} (ho : s.heap.get? a = some (sObj "set" D)) (R : TxR P w D l) (hb : l.length + 1 < scanBound)
    (h : ∀ (b : Bool) (D' : SD) (l' : List Str) (h' : Heap), h'.get? a = some (sObj "set" D') → TxR P w D' l' → (∀ y, y ∈ l' ↔ y ∈ l ∨ y = k) → l'.length ≤ l.length + 1 → Heap.SameBut a s.heap h' → Q b { s with heap := h', toks := s.toks + 1 }) :
    wpAny (model P w) A (setAdd a (.str k u)) Q E s := by
  unfold setAdd
  refine wpAny_holding ?_
  refine wpAny_bind ((strKind P w).pyHash (k := k) (is_str k u) ?_)
  by_cases hk : k ∈ l
  · refine add_old (s := { s with toks := s.toks + 1 }) ho R.ok hk (by omega) ?_
    exact h _ D l s.heap ho R (fun y => ⟨.inl, fun z => z.elim id fun e => e ▸ hk⟩) (Nat.le_succ _) (Heap.SameBut.refl a s.heap)
  · refine add_x (s := { s with toks := s.toks + 1 }) ho R.ok hk hb ?_
    refine h _ _ (k :: l) _ (get_upd _ ho rfl) (R.add u hk) (fun y => ?_) (Nat.le_refl _) (Heap.SameBut.update s.heap a _)
    rw [List.mem_cons]
    exact Or.comm
end
section
variable {P : Program} {w : World} {A : Around} {a : Addr} {R : Result → Shared → Prop}
def SignsOf (x : Str) (i : Nat) (l : List Str) : Prop := ∀ y, y ∈ l ↔ ∃ c ∈ x.cps.toList.take i, y = sing c
theorem txt_update {x : Str} {I : Addr} {fp wr : List Addr} {n : Nat} {St : Nat → Heap → Prop} (W : Walks P w A.in1 I fp wr n (SignAt x) St) (hn : n = x.cps.size) (haf : a ∉ fp) (hb : n + 1 < scanBound) :
    ∀ (m i : Nat) (s : Shared) (D : SD) (l : List Str), n - i = m → i ≤ n → St i s.heap → s.heap.get? a = some (sObj "set" D) → TxR P w D l → SignsOf x i l → l.length ≤ i →
      (∀ h' tk (D' : SD) (l' : List Str), h'.get? a = some (sObj "set" D') → TxR P w D' l' → SignsOf x n l' → l'.length ≤ n → (∀ b o, b ∉ wr → b ≠ a → s.heap.get? b = some o → h'.get? b = some o) → R (.ok (.ret .none)) { s with heap := h', toks := tk }) →
      codeAny (model P w) A (.builtin "set.update.loop" ⟨[.ref a, .ref I], []⟩) R s := by
  have haw : a ∉ wr := fun z => haf (W.sub _ z)
  intro m
  induction m with
  | zero =>
    intro i s D l hm hi hst ho hR hS hl q
    have hin : i = n := by omega
    subst hin
    refine codeAny_builtin F.entry_set_update_loop ?_
    rw [Around.under_plainId F.plain_set_update_loop _]
    show wpAny _ A.in1 (pyNext (.ref I) >>= _) _ _ s
    refine wpAny_bind (W.done s _ _ hst fun h' tk hk => ?_)
    show wpAny _ A.in1 (ret Value.none) _ _ _
    exact wpAny_pure (q h' tk D l (hk a _ haw ho) hR hS hl fun b o b1 _ e => hk b o b1 e)
  | succ m ih =>
    intro i s D l hm hi hst ho hR hS hl q
    have hlt : i < n := by omega
    refine codeAny_builtin F.entry_set_update_loop ?_
    rw [Around.under_plainId F.plain_set_update_loop _]
    show wpAny _ A.in1 (pyNext (.ref I) >>= _) _ _ s
    refine wpAny_bind (W.item i s _ _ hlt hst fun v h1 tk hP hst1 hk => ?_)
    obtain ⟨c, t, hc, rfl⟩ := hP
    show wpAny _ A.in1 (holding [Value.str (sing c) t] (setAdd a (.str (sing c) t)) >>= _) _ _ _
    refine wpAny_bind (wpAny_holding ?_)
    refine sign_in (s := { s with heap := h1, toks := tk }) (hk a _ haw ho) hR (by omega) fun b D' l' h2 ho2 hR2 hm2 hl2 sb => ?_
    have hst2 : St (i + 1) h2 := W.frame _ _ _ hst1 fun b hb o e => by
      rw [sb.2 b (fun z => haf (z ▸ hb))]
      exact e
    have hci : x.cps.toList[i]? = some c := by
      rw [Array.getElem?_toList]
      exact hc
    refine wpAny_pure ⟨plainId_quiet F.plain_set_update_loop _, ih (i + 1) _ D' l' (by omega) hlt hst2 ho2 hR2 (fun y => ?_) (by omega) fun h3 tk3 D3 l3 o3 r3 s3 n3 k3 => q h3 tk3 D3 l3 o3 r3 s3 n3 fun b o b1 b2 e => k3 b o b1 b2 ?_⟩
    · rw [hm2, hS y, List.take_add_one, hci]
      refine ⟨fun z => ?_, fun ⟨d, hd, e⟩ => ?_⟩
      · rcases z with ⟨d, hd, e⟩ | e
        · exact ⟨d, List.mem_append_left _ hd, e⟩
        · exact ⟨c, by simp, e⟩
      · rcases List.mem_append.mp hd with z | z
        · exact .inl ⟨d, z, e⟩
        · have e2 : d = c := by simpa using z
          rw [e2] at e
          exact .inr e
    · show h2.get? b = some o
      rw [sb.2 b b2]
      exact hk b o b1 e
end
/-- a set as it is made -/
def newS (w : World) : SD := (#[], 0, .fresh 0 0 (!w.params.followText "set-order"))
theorem newS_ok (P : Program) (w : World) : TxR P w (newS w) [] := ⟨TxOk.nil rfl, List.Pairwise.nil, by
  show _ ∨ (!w.params.followText "set-order") = true
  cases w.params.followText "set-order"
  · exact .inr rfl
  · exact .inl rfl, .nil⟩
section
variable {P : Program} {w : World} {A : Around} {E : Value → Shared → Prop} {s : Shared}
set_option maxHeartbeats 8000000 in
/-- set(text) -/
theorem call_set_txt {x : Str} {u : Tok} {Q : Value → Shared → Prop} (hh : A.handled = none) (hb : x.cps.size + 1 < scanBound)
    (q : ∀ (h' : Heap) (tk : Nat) (D : SD) (l : List Str), h'.get? s.heap.objs.size = some (sObj "set" D) → TxR P w D l → SignsOf x x.cps.size l → l.length ≤ x.cps.size → (∀ b o, s.heap.get? b = some o → h'.get? b = some o) → Q (.ref s.heap.objs.size) { s with heap := h', toks := tk }) :
    wpAny (model P w) A (call (.type "set") [.str x u]) Q E s := by
  obtain ⟨c, tl, hmro⟩ := F.called_set.mro
  have hmade := F.called_set.made
  have hsub := F.called_set.sub
  refine wpAny_call (codeAny_of_tree ?_)
  show wpAny _ _ (callAny (.type "set") _) _ _ _
  refine wpAny_pure ⟨Code.quiet_builtin _ (by decide +kernel), codeAny_builtin F.entry_type_call ?_⟩
  rw [Around.under_plain (weight_type_call_type "set" [.str x u] []) rfl]
  have h1 := F.called_set.notType
  have h2 := F.called_set.canCreate
  have hct := F.typeCall_set_1 (.str x u)
  repeat (any_goals (first | assumption | wp_step))
  refine codeAny_mono (code_set_led1 (.str x u) (E := E) (Q₁ := fun obj s₁ => obj = .ref s.heap.objs.size ∧ s₁ = { s with heap := s.heap.push (sObj "set" (newS w)) }) ⟨rfl, rfl⟩) fun r s₁ hr => ?_
  cases r with
  | error e => exact hr
  | ok fl =>
    cases fl with
    | ret obj =>
      obtain ⟨rfl, rfl⟩ := hr
      have hS : (s.heap.push (sObj "set" (newS w))).get? s.heap.objs.size = some (sObj "set" (newS w)) := Heap.get?_push_size _ rfl
      have hT : Shared.TypeIs { s with heap := s.heap.push (sObj "set" (newS w)) } (.ref s.heap.objs.size) "set" := ⟨_, hS, rfl⟩
      have hli := F.called_set.init.lookup
      have hbi := F.called_set.init.bind (.ref s.heap.objs.size)
      repeat (any_goals (first | assumption | wp_step))
      have hz : (s.heap.push (sObj "set" (newS w))).objs.size = s.heap.objs.size + 1 := Heap.size_push ..
      refine codeAny_mono (codeAny_call_builtin (R := wants (fun r s₂ => r = .none ∧ ∃ h' tk D l, s₂ = { s with heap := h', toks := tk } ∧ h'.get? s.heap.objs.size = some (sObj "set" D) ∧ TxR P w D l ∧ SignsOf x x.cps.size l ∧ l.length ≤ x.cps.size ∧
          ∀ b o, s.heap.get? b = some o → h'.get? b = some o) E) F.called_set.init.plain F.entry_set_init (check_set_init_1 hT ?_)) fun r₂ s₂ hr₂ => ?_
      · have g1 := PySem.F.sub_str_set
        have g2 := PySem.F.sub_str_frozenset
        have hne : (Value.type "str" == Value.type "dict") = false := by decide
        unfold Builtin.«set.__init__» noKeywords Builtin.Frozenset.updateFrom
        generalize hPI : pyIter = PI
        wp_walk
        subst hPI
        refine wpAny_pyIter_str fun o St W st0 => ?_
        refine wpAny_bind (wpAny_runValue ?_)
        have hh3 : A.in1.in1.in1.handled = none := by simp [hh]
        have n1 : s.heap.objs.size ∉ [(s.heap.push (sObj "set" (newS w))).objs.size] := by
          rw [hz, List.mem_singleton]
          omega
        have none_of : ∀ b, s.heap.objs.size ≤ b → s.heap.get? b = none := fun b hb => by
          cases z : s.heap.get? b with
          | none => rfl
          | some o => exact absurd (Nat.lt_of_lt_of_le (Heap.lt_size z) hb) (Nat.lt_irrefl _)
        refine txt_update (W _ hh3) rfl n1 hb _ 0 _ (newS w) [] rfl (Nat.zero_le _) st0 (Heap.get?_push_of_some _ hS) (newS_ok P w) (fun y => by simp) (Nat.le_refl _) fun h' tk D l o1 r1 s1 l1 k1 => ?_
        show wpAny _ _ _ _ _ _
        refine wpAny_pure ?_
        show wpAny _ _ (ret Value.none) _ _ _
        refine wpAny_pure ⟨rfl, h', tk, D, l, rfl, o1, r1, s1, l1, fun b o e => k1 b o (fun z => ?_) (fun z => ?_) (Heap.get?_push_of_some _ (Heap.get?_push_of_some _ e))⟩
        · rw [List.mem_singleton, hz] at z
          rw [z, none_of _ (by omega)] at e
          cases e
        · rw [z, none_of _ (Nat.le_refl _)] at e
          cases e
      · cases r₂ with
        | error e => exact hr₂
        | ok fl₂ =>
          cases fl₂ with
          | ret r =>
            obtain ⟨rfl, h', tk, D, l, rfl, o1, r1, s1, n1, k1⟩ := hr₂
            repeat (any_goals (first | assumption | wp_step))
            exact q h' tk D l o1 r1 s1 n1 k1
          | _ => exact hr₂.elim
    | _ => exact hr.elim
end
end Dx

namespace Dx
open PySem PySem.Spec PyProof.Rows L2 PySem.Froz
open Evl (Ex)
variable [Tb]

/-! ### sorted(set(text)) -/
theorem perm_of_sub {α : Type} [BEq α] [LawfulBEq α] : ∀ {l m : List α}, l.Nodup → (∀ x ∈ l, x ∈ m) → l.length = m.length → l.Perm m
  | [], m, _, _, h => by rw [List.eq_nil_of_length_eq_zero h.symm]
  | a :: l, m, nd, s, h => by
    have ha := s a (by simp)
    obtain ⟨n1, n2⟩ := List.nodup_cons.mp nd
    have p := List.perm_cons_erase ha
    have hl : (m.erase a).length + 1 = m.length := by
      have := p.length_eq
      rw [List.length_cons] at this
      exact this.symm
    refine ((perm_of_sub n2 (fun x hx => ?_) (by rw [List.length_cons] at h; omega)).cons a).trans p.symm
    exact (List.mem_erase_of_ne (fun e : x = a => n1 (by rw [← e]; exact hx))).mpr (s x (by simp [hx]))
def SetTx (P : Program) (w : World) (a : Addr) (l : List Str) : HO := .ext fun h => ∃ D, h.get? a = some (sObj "set" D) ∧ TxR P w D l
def rSetTx (P : Program) (w : World) : List V → Hp → VK → Prop := fun xs H Q => ∃ x : Str, xs = [.str x] ∧ x.cps.size ≤ 4000 ∧ ∀ a l, H a = none → l.Nodup → SignsOf x x.cps.size l → l.length ≤ x.cps.size → Q (.ref a) (upd H a (SetTx P w a l))
theorem cr_setTx {X : Cx} (hc : X.calm = true) : CallR X (.type "set") (rSetTx X.prog X.w) := by
  intro pins s σ H xs us Q I r h
  obtain ⟨x, rfl, hb, q⟩ := h
  obtain ⟨u, eu, rx⟩ := vals1 r
  subst eu
  obtain ⟨t, rfl⟩ := rx
  have hn : H s.heap.objs.size = none := I.hok.fresh (Nat.le_refl _)
  refine call_set_txt (I.ok.hd hc) (by unfold scanBound; omega) fun h' tk D l o1 r1 s1 l1 k1 => ?_
  refine ⟨.ref s.heap.objs.size, upd H s.heap.objs.size (SetTx X.prog X.w s.heap.objs.size l), I.laid (t' := tk) k1 (Nat.le_refl _) ?_, rfl, q _ l hn r1.nd s1 l1⟩
  exact ⟨⟨D, o1, r1⟩, ⟨_, o1⟩, fun h1 h2 ⟨D', o, r⟩ k => ⟨D', k _ o, r⟩⟩
def rSortedTx (P : Program) (w : World) : List V → Hp → VK → Prop := fun xs H Q => ∃ (a : Addr) (l : List Str), xs = [.ref a] ∧ H a = some (SetTx P w a l) ∧ l.length ≤ 4000 ∧ ∀ ys p, ys.Perm l → sortedS ys = true → H p = none → Q (.ref p) (upd H p (.lst (ys.map V.str)))
theorem cr_sortedTx {X : Cx} (hc : X.calm = true) : CallR X (.builtin "sorted") (rSortedTx X.prog X.w) := by
  intro pins s σ H xs us Q I r h
  obtain ⟨a, l, rfl, ha, hl, q⟩ := h
  rw [Vals.ref1 r]
  obtain ⟨D, ho, R⟩ := (I.hok a _ ha).1
  have hsz : D.1.size = l.length := R.ok.sz
  have hat : SetAt s.heap a D.1 D.2.1 D.2.2 := ⟨_, ho, rfl, rfl⟩
  refine Calls.call_function_entry PyProof.Rows.kind_sorted PyProof.Rows.plain_sorted PyProof.Rows.entry_sorted (PyProof.Rows.args_sorted1 _) ?_
  unfold Builtin.«sorted»
  refine wpAny_bind (m := checkCount "sorted" 1 1 _) (wpAny_pure ?_)
  refine wpAny_bind (collect_set (A := X.A.in1) (I.ok.hd hc) hat R.ok.fit (by unfold scanBound; omega) R.ris R.led fun s' out k gsz gg go pm => ?_)
  have vals : ∀ v ∈ D.1.toList.map (·.2), ∃ y t, v = Value.str y t ∧ y ∈ l := fun v hv => by
    obtain ⟨e, he, rfl⟩ := List.mem_map.mp hv
    obtain ⟨⟨y, hy, _⟩, _⟩ := R.ok.el e he
    obtain ⟨t, et⟩ := Value.isStrOf_shape hy
    exact ⟨y, t, et, (R.ok.mem y).mpr ⟨e, he, hy⟩⟩
  have p0 : l.Perm ((D.1.toList.map (·.2)).map strOf) := perm_of_sub R.nd (fun y hy => by
    obtain ⟨e, he, ie⟩ := (R.ok.mem y).mp hy
    obtain ⟨t, et⟩ := Value.isStrOf_shape ie
    exact List.mem_map.mpr ⟨e.2, List.mem_map.mpr ⟨e, he, rfl⟩, by rw [et]; rfl⟩) (by rw [List.length_map, List.length_map]; exact hsz.symm)
  have p1 : (out.map strOf).Perm l := (pm.map strOf).trans p0.symm
  have hal : out.length = l.length := by rw [← p1.length_eq, List.length_map]
  have hS : StrsAre out (out.map strOf) := by
    have : ∀ o : List Value, (∀ v ∈ o, ∃ y t, v = Value.str y t) → StrsAre o (o.map strOf) := fun o => by
      induction o with
      | nil => intro _; exact .nil
      | cons v r ih =>
        intro h
        obtain ⟨y, t, rfl⟩ := h v (by simp)
        exact .cons _ _ (ih fun v hv => h v (by simp [hv]))
    exact this out fun v hv => by
      obtain ⟨y, t, e, _⟩ := vals v (pm.mem_iff.mp hv)
      exact ⟨y, t, e⟩
  have I1 : Inv X pins σ H s' := I.call' go (Un.kept k) (I.hok.kept k) (by rw [gg]; exact I.bare) (fun b y => absurd y List.not_mem_nil)
  have hl2 : out.length ≤ sizeLine := by rw [hal]; exact szM_of (by omega)
  refine wpAny_bind (wpAny_newList ?_ hl2)
  have hoL : (s'.heap.push (seqObj "list" out.toArray 0)).get? s'.heap.objs.size = some (seqObj "list" out.toArray 0) := Heap.get?_push_size _ rfl
  show wpAny _ _ _ _ _ { s' with heap := s'.heap.push (seqObj "list" out.toArray 0) }
  refine wpAny_bind (wpAny_holding (wpAny_call_entry PyProof.Rows.slot_list_sort ⟨_, hoL, rfl⟩ PyProof.Rows.entry_list_sort
    (list_sort_treeKAny PyProof.Rows.strKind_oneLt (s := { s' with heap := s'.heap.push (seqObj "list" out.toArray 0) }) hoL hS.keysOf (fun v₁ v₂ rest e => keyKind_strs (by rw [← e]; exact hS)) hl2 fun st' hp hs => ⟨_, rfl, ?_⟩) (PyProof.Rows.args_list_sort _)))
  obtain ⟨ys, g1, g2, g3⟩ := sorted_out_str hS hp hs
  obtain ⟨e', he'⟩ := PyProof.Rows.sortedHeap_at (vs := out) (out := (arrOf st').map (·.2)) hoL
  have hlen : (ys.map V.str).length ≤ sizeLine := by rw [List.length_map, g2.length_eq, List.length_map]; exact hl2
  refine wpAny_pure ⟨_, rfl, .ref s'.heap.objs.size, upd H s'.heap.objs.size (.lst (ys.map V.str)), I1.laid (t' := s'.toks) (fun b u e => ?_) (Nat.le_refl _) ⟨hlen, ((arrOf st').map (·.2)).toList, e', vals_of_strs g1, by rw [Array.toArray_toList]; exact he'⟩, rfl, q ys _ (g2.trans p1) g3 (I1.hok.fresh (Nat.le_refl _))⟩
  have hb : b < s'.heap.objs.size := Heap.lt_size e
  rw [PyProof.Rows.sortedHeap_old (Nat.ne_of_lt hb) (by rw [size_push']; exact Nat.lt_succ_of_lt hb)]
  exact Heap.get?_push_of_some _ e
/-- rising, unlike: the signs of s, each once -/
def SignsIn (s l : List Nat) : Prop := l.Pairwise (· < ·) ∧ ∀ c, c ∈ l ↔ c ∈ s
def fSortSet (te : DE) : DF := fun rho mu Q => te rho mu fun x mu1 => onS x fun s => s.length ≤ 4000 ∧ ∀ l, SignsIn s l → Q (.lst (l.map fun c => D.str [c])) mu1
theorem signs_list {s : List Nat} {l ys : List Str} (nd : l.Nodup) (h : SignsOf (mkS s) (mkS s).cps.size l) (pm : ys.Perm l) (so : sortedS ys = true) : ∃ cs, ys = (cs.map fun c => [c]).map mkS ∧ SignsIn s cs := by
  have all : ∀ y ∈ ys, ∃ c ∈ s, y = mkS [c] := fun y hy => by
    obtain ⟨c, hc, e⟩ := (h y).mp (pm.mem_iff.mp hy)
    exact ⟨c, List.mem_of_mem_take hc, e⟩
  obtain ⟨cs, ec⟩ : ∃ cs : List Nat, ys = (cs.map fun c => [c]).map mkS := by
    clear pm so
    induction ys with
    | nil => exact ⟨[], rfl⟩
    | cons y r ih =>
      obtain ⟨c, _, e⟩ := all y (by simp)
      obtain ⟨cs, e2⟩ := ih fun z hz => all z (by simp [hz])
      exact ⟨c :: cs, by rw [e, e2]; rfl⟩
  subst ec
  have nd2 : ((cs.map fun c => [c]).map mkS).Nodup := pm.nodup_iff.mpr nd
  have nd3 : cs.Nodup := by
    have : List.Pairwise (· ≠ ·) ((cs.map fun c => [c]).map mkS) := nd2
    rw [List.pairwise_map, List.pairwise_map] at this
    exact this.imp fun {a b} h e => h (by rw [e])
  refine ⟨cs, rfl, strict_of (sorted_one so) nd3, fun c => ⟨fun hc => ?_, fun hc => ?_⟩⟩
  · obtain ⟨d, hd, e⟩ := all (mkS [c]) (List.mem_map.mpr ⟨[c], List.mem_map.mpr ⟨c, hc, rfl⟩, rfl⟩)
    have := mkS_inj e
    have : c = d := by simpa using this
    rw [this]
    exact hd
  · have hm : mkS [c] ∈ l := (h _).mpr ⟨c, by
      have e : (mkS s).cps.toList.take (mkS s).cps.size = s := List.take_of_length_le (Nat.le_refl _)
      rw [e]
      exact hc, rfl⟩
    obtain ⟨w, hw, e⟩ := List.mem_map.mp (pm.mem_iff.mpr hm)
    obtain ⟨d, hd, rfl⟩ := List.mem_map.mp hw
    have := mkS_inj e
    have : d = c := by simpa using this
    rw [← this]
    exact hd
theorem b_set : bootBuiltins "set" = some (.type "set") := by decide +kernel
section
variable {X : Cx} {e : Expr} {te : DE} {p p2 pos pos2 : Pos}
theorem cf_sortSet (hc : X.calm = true) (m1 : X.mg "sorted" = none) (m2 : X.mg "set" = none) (he : CE X e te) (g1 : Gl X "sorted" := by rfl) (g2 : Gl X "set" := by rfl)
    (hs : starEach [e] X.env = (false, eval e X.env) :: starEach [] X.env := by rfl)
    (hs2 : starEach [.Call (.Name "set" p2) [e] [] pos2] X.env = (false, eval (.Call (.Name "set" p2) [e] [] pos2) X.env) :: starEach [] X.env := by rfl) :
    CF X (.Call (.Name "sorted" p) [.Call (.Name "set" p2) [e] [] pos2] [] pos) (fSortSet te) := by
  obtain ⟨t, pe, ge⟩ := he.ok
  refine ⟨_, pe_callB (cr_sortedTx hc) g1 m1 b_sorted (pa_cons (pe_callTy (cr_setTx hc) g2 m2 b_set (pa_cons pe pa_nil hs) (by decide) (by decide) hs rfl) pa_nil hs2) (by decide) (by decide) hs2 rfl, fun F al rho mu σ H Q R S q l => ?_⟩
  refine ge F al rho mu σ H _ _ S q fun F1 al1 y mu1 v H1 E1 C1 r1 q1 => ?_
  obtain ⟨s, ex, ev, hs4, q2⟩ := onS_out q1 r1
  refine ⟨mkS s, by rw [ev], hs4, fun a ws ha nd sg wl => ?_⟩
  refine ⟨a, ws, rfl, upd_same, Nat.le_trans wl hs4, fun ys n pm so hn => ?_⟩
  obtain ⟨cs, ey, hcs⟩ := signs_list nd sg pm so
  subst ey
  have na : n ≠ a := fun z => by rw [z, upd_same] at hn; cases hn
  have hn1 : H1 n = none := by rw [upd_ne na] at hn; exact hn
  have Ea : Ext F1 al1 H1 F1 al1 (upd H1 a (SetTx X.prog X.w a ws)) := Ext.loose ha
  have Ca := C1.loose (o := SetTx X.prog X.w a ws) ha
  have e3 : (cs.map fun c => D.str [c]) = (cs.map fun c => [c]).map D.str := map_str1 cs
  refine l F1 al1 (.lst (cs.map fun c => D.str [c])) mu1 n _ ((E1.trans Ea).trans (Ext.loose hn)) (Ca.loose hn) (Ca.not_al hn) (none_back (E1.dm n) hn1) rfl ⟨ex_none Ca.ex hn, _, upd_same, ?_⟩ (q2 cs hcs)
  rw [e3]
  exact repl_strs _
end
end Dx

namespace Dx
open PySem PySem.Spec PyProof.Rows L2
open Evl (Ex)
variable [Tb]

/-! ### lists of texts compared -/
theorem eqv_words : ∀ (xs ys : List (List Nat)), PyData.eqvAll (toPys (xs.map D.str)) (toPys (ys.map D.str)) = decide (xs = ys)
  | [], [] => rfl
  | [], y :: ys => rfl
  | x :: xs, [] => rfl
  | x :: xs, y :: ys => by
    show (mkS x == mkS y && PyData.eqvAll (toPys (xs.map D.str)) (toPys (ys.map D.str))) = _
    rw [eqv_words xs ys, beq_mkS]
    by_cases e : x = y
    · subst e
      by_cases e2 : xs = ys
      · subst e2; simp
      · simp [e2]
    · simp [e]
theorem eqD_words (xs ys : List (List Nat)) : eqD (.lst (xs.map D.str)) (.lst (ys.map D.str)) = decide (xs = ys) := eqv_words xs ys
theorem map_one_inj {xs ys : List Nat} (h : (xs.map fun c => [c]) = ys.map fun c => [c]) : xs = ys := by
  have := congrArg List.flatten h
  rwa [flat_one, flat_one] at this
theorem eqD_signs (xs ys : List Nat) : eqD (.lst (xs.map fun c => D.str [c])) (.lst (ys.map fun c => D.str [c])) = decide (xs = ys) := by
  rw [map_str1, map_str1, eqD_words]
  exact decide_eq_decide.mpr ⟨map_one_inj, fun e => by rw [e]⟩
/-- two rising lists with the same members are one -/
theorem rise_uniq {l m : List Nat} (hl : l.Pairwise (· < ·)) (hm : m.Pairwise (· < ·)) (h : ∀ c, c ∈ l ↔ c ∈ m) : l = m := by
  have n1 : l.Nodup := hl.imp fun {a b} z e => by omega
  have n2 : m.Nodup := hm.imp fun {a b} z e => by omega
  have p := (List.perm_ext_iff_of_nodup n1 n2).mpr h
  exact p.eq_of_pairwise (le := (· < ·)) (fun a b _ _ h1 h2 => by omega) hl hm
theorem signs_self {s l : List Nat} (h : SignsIn s l) : l = s ↔ s.Pairwise (· < ·) := ⟨fun e => e ▸ h.1, fun p => rise_uniq h.1 p h.2⟩
end Dx

namespace Dx
open PySem PySem.Spec PyProof.Rows L2
open Evl (Ex)
variable [Tb]

/-! ### joints, lists of truths -/
@[irreducible] def dJn (t u : DS) : DS := dSeq t u
theorem dJn_eq (t u : DS) : dJn t u = dSeq t u := by unfold dJn; rfl
theorem css_join {X : Cx} {st : Stmt} {rest : List Stmt} {t u : DS} (h1 : CS X st t) (h2 : CSs X rest u) : CSs X (st :: rest) (dJn t u) := by
  rw [dJn_eq]
  exact css_cons h1 h2
/-- no joint is wanted -/
theorem jn_go {t u : DS} {D : DEnds} {rho : Rho} {mu : Mu} (h : t { D with nx := u D } rho mu) : dJn t u D rho mu := by
  rw [dJn_eq]
  exact h
theorem rise_nd {l : List Nat} (h : l.Pairwise (· < ·)) : l.Nodup := h.imp fun {a b} z e => by omega
theorem nodup_le {α : Type} [BEq α] [LawfulBEq α] : ∀ {l m : List α}, l.Nodup → (∀ x ∈ l, x ∈ m) → l.length ≤ m.length
  | [], m, _, _ => Nat.zero_le _
  | a :: l, m, nd, s => by
    obtain ⟨n1, n2⟩ := List.nodup_cons.mp nd
    have ha := s a (by simp)
    have hl := nodup_le (m := m.erase a) n2 (fun x hx => (List.mem_erase_of_ne (fun e : x = a => n1 (by rw [← e]; exact hx))).mpr (s x (by simp [hx])))
    rw [List.length_erase_of_mem ha] at hl
    have : 0 < m.length := List.length_pos_of_mem ha
    rw [List.length_cons]
    omega
theorem all_bl {α : Type} {l : List α} {f : α → Bool} {mu : Mu} {Q : DV → Mu → Prop} (q : Q (.dat (.bl (l.all f))) mu) : dAll [.dat (.lst ((l.map f).map D.bl))] mu Q := by
  refine on_some (a := l.map f) (toBls_of _) ?_
  rw [List.all_map]
  exact q
/-- [f(c) for c in text], truths -/
theorem comp_bl {i : Nat} {te : DE} {s : List Nat} {f : Nat → Bool} {rho : Rho} {mu : Mu} {Q : List D → Mu → Prop} (hs : s.length ≤ 1000000)
    (step : ∀ (c : Nat) (K : DV → Mu → Prop), c ∈ s → K (.dat (.bl (f c))) mu → te (setD rho i (.dat (.str [c]))) mu K)
    (q : Q ((s.map f).map D.bl) mu) : dCompL (dgN i) dYes te rho Q (s.map fun c => D.str [c]) [] mu := by
  refine comp_inv (fun j acc mu' => mu' = mu ∧ acc = ((s.take j).map f).map D.bl) ⟨rfl, rfl⟩ (fun j d acc mu' K hd hp ke => ?_) (fun acc mu' hp => ?_)
  · obtain ⟨rfl, rfl⟩ := hp
    rw [List.getElem?_map] at hd
    cases hc : s[j]? with
    | none => rw [hc] at hd; cases hd
    | some c =>
      rw [hc] at hd
      have hd := (Option.some.inj hd).symm
      subst hd
      have hj := (List.getElem?_eq_some_iff.mp hc).1
      unfold dgN dYes
      simp only [if_true]
      refine step c _ (List.mem_of_getElem? hc) ?_
      refine ⟨by rw [List.length_map, List.length_map, List.length_take]; omega, ke _ _ ⟨rfl, ?_⟩⟩
      rw [List.take_add_one, hc, List.map_append, List.map_append]
      rfl
  · obtain ⟨rfl, rfl⟩ := hp
    rw [List.length_map, List.take_length]
    exact q
end Dx

namespace Dx
open PySem PySem.Spec PyProof.Rows L2
open Evl (Ex)
variable [Tb]

/-! ### dicts whose keys are nested tuples (or ints, bools, texts) -/
mutual
def keyOk : D → Bool
  | .non => true
  | .bl _ => true
  | .int _ => true
  | .str _ => true
  | .tup ds => keyOks ds
  | .lst _ => false
  | .dk _ _ => false
  | .dt _ _ _ => false
  | .adr _ => false
  | .scr _ _ => false
  | .ob _ _ _ _ => false
def keyOks : List D → Bool
  | [] => true
  | d :: r => keyOk d && keyOks r
end
def isTup : D → Bool
  | .tup _ => true
  | _ => false
def kTup (d : D) : Bool := isTup d && (keyOk d && decide ((nkD d).depth ≤ 8))
def KeyT (H : Hp) (k : NestedKey) (y : V) : Prop := ∃ F d, Ex F H ∧ kTup d = true ∧ Rep F d y ∧ k = nkD d
mutual
theorem nested_of {P : Program} {w : World} {H F : Hp} {h : Heap} (ok : HOk P w H h) (e : Ex F H) : ∀ (d : D) (y : V) (u : Value), keyOk d = true → Rep F d y → RelV y u → NestedIs h (nkD d) u
  | .non, y, u, _, r, q => by
    rw [Rep] at r
    subst r
    cases (show u = Value.none from q)
    exact .none
  | .bl b, y, u, _, r, q => by
    rw [Rep] at r
    subst r
    cases (show u = Value.bool b from q)
    exact .bool rfl
  | .int i, y, u, _, r, q => by
    rw [Rep] at r
    subst r
    obtain ⟨t, rfl⟩ := q
    exact .int _ _
  | .str s, y, u, _, r, q => by
    rw [Rep] at r
    subst r
    obtain ⟨t, rfl⟩ := q
    exact .text _ _
  | .tup ds, y, u, ko, r, q => by
    rw [Rep] at r
    obtain ⟨a, vs, rfl, hF, rl⟩ := r
    cases (show u = Value.ref a from q)
    obtain ⟨_, its, rv, o, h1, h2, n, h3⟩ := (show ObjOk P w H h a (.tup vs) from ok a _ (e _ _ hF))
    exact .tup h1 h2 h3 (by simpa using nesteds_of ok e ds vs its ko rl rv)
  | .lst _, y, u, ko, r, q => by cases ko
  | .dk _ _, y, u, ko, r, q => by cases ko
  | .dt _ _ _, y, u, ko, r, q => by cases ko
  | .adr _, y, u, ko, r, q => by cases ko
  | .scr _ _, y, u, ko, r, q => by cases ko
  | .ob _ _ _ _, y, u, ko, r, q => by cases ko
theorem nesteds_of {P : Program} {w : World} {H F : Hp} {h : Heap} (ok : HOk P w H h) (e : Ex F H) : ∀ (ds : List D) (ys : List V) (us : List Value), keyOks ds = true → RepL F ds ys → Vals ys us → NestedAll h (nkDs ds) us
  | [], ys, us, _, r, q => by
    rw [r.unnil] at q
    cases q
    exact .nil
  | d :: ds, ys, us, ko, r, q => by
    obtain ⟨y, r', rfl, a, b⟩ := r.uncons
    cases q with
    | cons q1 q2 =>
      rw [keyOks, Bool.and_eq_true_iff] at ko
      exact .cons (nested_of ok e d y _ ko.1 a q1) (nesteds_of ok e ds r' _ ko.2 b q2)
end
theorem KeyT.ref {H : Hp} {k : NestedKey} {y : V} (h : KeyT H k y) : ∃ b, y = .ref b := by
  obtain ⟨F, d, e, kt, r, _⟩ := h
  cases d with
  | tup ds =>
    rw [Rep] at r
    obtain ⟨a, vs, e, _⟩ := r
    exact ⟨a, e⟩
  | _ => cases kt
theorem KeyT.is {P : Program} {w : World} {H : Hp} {h : Heap} (ok : HOk P w H h) {k : NestedKey} {b : Addr} (x : KeyT H k (.ref b)) : (nestedKind P w).is h k b := by
  obtain ⟨F, d, e, kt, r, rfl⟩ := x
  unfold kTup at kt
  rw [Bool.and_eq_true_iff, Bool.and_eq_true_iff] at kt
  exact ⟨nested_of ok e d _ _ kt.2.1 r rfl, of_decide_eq_true kt.2.2⟩
abbrev RT (p : NestedKey × V × V) (q : NestedKey × Addr × Value) : Prop := p.1 = q.1 ∧ p.2.1 = .ref q.2.1 ∧ RelV p.2.2 q.2.2
/-! #### the object and its description -/
section
variable {P : Program} {w : World} {H : Hp} {h : Heap} {a : Addr} {ep : Nat} {xs : List (NestedKey × V × V)}
end
end Dx

namespace Dx
open PySem PySem.Spec PyProof.Rows L2
open Evl (Ex)
variable [Tb]

section
variable {X : Cx} {pins : List (Addr × Obj)} {σ : L2.St} {H : Hp} {s : Shared} {a : Addr} {y v : V} {u r : Value} {o : Option V} {A : Around} {E : Value → Shared → Prop}
end
end Dx

namespace Dx
open PySem PySem.Spec PyProof.Rows L2
open Evl (Ex)
variable [Tb]

section
variable {X : Cx} {o i e f value : Expr} {pos pos' apos cpos : Pos} {td ty tv tx : TE}
end
end Dx

namespace Dx
open PySem PySem.Spec PyProof.Rows L2
open Evl (Ex)
variable [Tb]

section
variable {X : Cx} {o i e f k v value : Expr} {to ti te tk tv tz : DE} {pos pos' apos : Pos}
end
end Dx

namespace Dx
open PySem PySem.Spec PyProof.Rows L2
open Evl (Ex)
variable [Tb]

/-! ### dicts by keys and values of one's own types -/
section
variable {κ α : Type} [DecidableEq κ]
def alook (l : List (κ × α)) (k : κ) : Option α := (l.find? fun p => decide (p.1 = k)).map (·.2)
def aput (l : List (κ × α)) (k : κ) (v : α) : List (κ × α) := if (alook l k).isSome then l.map (fun p => if p.1 = k then (p.1, v) else p) else l ++ [(k, v)]
theorem alook_cons (p : κ × α) (l : List (κ × α)) (k : κ) : alook (p :: l) k = if p.1 = k then some p.2 else alook l k := by
  unfold alook
  rw [List.find?_cons]
  by_cases e : p.1 = k
  · rw [decide_eq_true e, if_pos e]; rfl
  · rw [decide_eq_false e, if_neg e]
theorem alook_app (l m : List (κ × α)) (k : κ) : alook (l ++ m) k = (alook l k).or (alook m k) := by
  induction l with
  | nil => rfl
  | cons p l ih =>
    rw [List.cons_append, alook_cons, alook_cons, ih]
    by_cases e : p.1 = k
    · rw [if_pos e, if_pos e]; rfl
    · rw [if_neg e, if_neg e]
theorem alook_some {l : List (κ × α)} {k : κ} : (alook l k).isSome = true ↔ k ∈ l.map (·.1) := by
  induction l with
  | nil => exact ⟨fun h => (nomatch h), fun h => (nomatch h)⟩
  | cons p l ih =>
    rw [alook_cons, List.map_cons, List.mem_cons]
    by_cases e : p.1 = k
    · rw [if_pos e]
      exact ⟨fun _ => .inl e.symm, fun _ => rfl⟩
    · rw [if_neg e, ih]
      exact ⟨.inr, fun h => h.elim (fun z => absurd z.symm e) id⟩
theorem alook_none {l : List (κ × α)} {k : κ} : alook l k = none ↔ k ∉ l.map (·.1) := by
  rw [← alook_some]
  cases alook l k with
  | none => exact ⟨(fun _ h => nomatch h), fun _ => rfl⟩
  | some x => exact ⟨(fun h => nomatch h), fun h => absurd rfl h⟩
theorem aput_new {l : List (κ × α)} {k : κ} (v : α) (h : k ∉ l.map (·.1)) : aput l k v = l ++ [(k, v)] := by
  unfold aput
  rw [alook_none.mpr h]
  rfl
theorem aput_old {l : List (κ × α)} {k : κ} (v : α) (h : k ∈ l.map (·.1)) : aput l k v = l.map (fun p => if p.1 = k then (p.1, v) else p) := by
  unfold aput
  rw [if_pos (alook_some.mpr h)]
theorem aput_keys (l : List (κ × α)) (k : κ) (v : α) : (aput l k v).map (·.1) = if k ∈ l.map (·.1) then l.map (·.1) else l.map (·.1) ++ [k] := by
  by_cases h : k ∈ l.map (·.1)
  · rw [aput_old v h, if_pos h, List.map_map]
    apply List.map_congr_left
    intro p _
    show (if p.1 = k then (p.1, v) else p).1 = p.1
    split <;> rfl
  · rw [aput_new v h, if_neg h, List.map_append]
    rfl
theorem alook_map {f : κ × α → κ × α} (hf : ∀ p, (f p).1 = p.1) (l : List (κ × α)) (k : κ) : alook (l.map f) k = (l.find? fun p => decide (p.1 = k)).map fun p => (f p).2 := by
  induction l with
  | nil => rfl
  | cons p l ih =>
    rw [List.map_cons, alook_cons, hf, List.find?_cons]
    by_cases e : p.1 = k
    · rw [if_pos e, decide_eq_true e]; rfl
    · rw [if_neg e, decide_eq_false e, ih]
theorem alook_put (l : List (κ × α)) (k k' : κ) (v : α) : alook (aput l k v) k' = if k' = k then some v else alook l k' := by
  by_cases h : k ∈ l.map (·.1)
  · rw [aput_old v h, alook_map (fun p => by split <;> rfl)]
    by_cases e : k' = k
    · subst e
      rw [if_pos rfl]
      have := alook_some.mpr h
      unfold alook at this
      cases q : l.find? (fun p => decide (p.1 = k')) with
      | none => rw [q] at this; cases this
      | some p =>
        have e1 : p.1 = k' := of_decide_eq_true (List.find?_some (p := fun p : κ × α => decide (p.1 = k')) q)
        show some ((if p.1 = k' then (p.1, v) else p).2) = some v
        rw [if_pos e1]
    · rw [if_neg e]
      unfold alook
      cases q : l.find? (fun p => decide (p.1 = k')) with
      | none => rfl
      | some p =>
        have e1 : p.1 = k' := of_decide_eq_true (List.find?_some (p := fun p : κ × α => decide (p.1 = k')) q)
        show some ((if p.1 = k then (p.1, v) else p).2) = some p.2
        rw [if_neg (fun z => e (e1.symm.trans z))]
  · rw [aput_new v h, alook_app]
    by_cases e : k' = k
    · subst e
      rw [if_pos rfl, alook_none.mpr h, alook_cons, if_pos rfl]
      rfl
    · rw [if_neg e, alook_cons, if_neg (fun z => e z.symm)]
      cases alook l k' <;> rfl
end
section
variable {κ α : Type} [DecidableEq κ] {w : World} {mu : Mu} {j : Nat} {l : List (κ × α)}
end
section
variable {X : Cx}
end
end Dx

namespace Dx
open PySem PySem.Spec PyProof.Rows L2
open Evl (Ex)
variable [Tb]

/-! ### breadth first: the first word that leads to each state -/
theorem ltW_nil {w : List Nat} (h : w ≠ []) : ltW [] w = true := by
  refine ltW_iff.mpr (.inl ?_)
  cases w with
  | nil => exact absurd rfl h
  | cons a w => simp
theorem ltW_not_nil (w : List Nat) : ltW w [] = false := by
  cases h : ltW w [] with
  | false => rfl
  | true =>
    rcases ltW_iff.mp h with h | h
    · simp at h
    · exact absurd h.2 (List.not_lt_nil w)
theorem lex_snoc : ∀ {x q : List Nat} {e c : Nat}, x.length = q.length → (x ++ [e] < q ++ [c] ↔ x < q ∨ (x = q ∧ e < c))
  | [], [], e, c, _ => by
    rw [List.nil_append, List.nil_append, List.cons_lt_cons_iff]
    constructor
    · rintro (h | ⟨_, h⟩)
      · exact .inr ⟨rfl, h⟩
      · exact absurd h (List.not_lt_nil [])
    · rintro (h | ⟨_, h⟩)
      · exact absurd h (List.not_lt_nil [])
      · exact .inl h
  | [], _ :: _, _, _, h => by simp at h
  | _ :: _, [], _, _, h => by simp at h
  | a :: x, b :: q, e, c, h => by
    have ih := lex_snoc (x := x) (q := q) (e := e) (c := c) (by simpa using h)
    rw [List.cons_append, List.cons_append, List.cons_lt_cons_iff, List.cons_lt_cons_iff, ih]
    constructor
    · rintro (h | ⟨h1, h2 | ⟨h2, h3⟩⟩)
      · exact .inl (.inl h)
      · exact .inl (.inr ⟨h1, h2⟩)
      · exact .inr ⟨by rw [h1, h2], h3⟩
    · rintro ((h | ⟨h1, h2⟩) | ⟨h1, h2⟩)
      · exact .inl h
      · exact .inr ⟨h1, .inl h2⟩
      · injection h1 with h1 h3
        exact .inr ⟨h1, .inr ⟨h3, h2⟩⟩
theorem ltW_snoc {x q : List Nat} {e c : Nat} : ltW (x ++ [e]) (q ++ [c]) = true ↔ ltW x q = true ∨ (x = q ∧ e < c) := by
  rw [ltW_iff, ltW_iff, List.length_append, List.length_append, List.length_singleton, List.length_singleton]
  constructor
  · rintro (h | ⟨h1, h2⟩)
    · exact .inl (.inl (by omega))
    · have hl : x.length = q.length := by omega
      rcases (lex_snoc hl).mp h2 with h | h
      · exact .inl (.inr ⟨hl, h⟩)
      · exact .inr h
  · rintro ((h | ⟨h1, h2⟩) | ⟨h1, h2⟩)
    · exact .inl (by omega)
    · exact .inr ⟨by omega, (lex_snoc h1).mpr (.inl h2)⟩
    · subst h1
      exact .inr ⟨rfl, (lex_snoc rfl).mpr (.inr ⟨rfl, h2⟩)⟩
theorem ltW_app1 (x : List Nat) (e : Nat) : ltW x (x ++ [e]) = true := ltW_iff.mpr (.inl (by simp))
theorem ltW_le_trans {a b c : List Nat} (h1 : ltW b a = false) (h2 : ltW b c = true) : ltW a c = true := by
  cases h : ltW a b with
  | true => exact ltW_trans h h2
  | false => rw [ltW_tri h h1]; exact h2
theorem ltW_asymm {a b : List Nat} (h : ltW a b = true) : ltW b a = false := by
  cases h2 : ltW b a with
  | false => rfl
  | true => have := ltW_trans h h2; rw [ltW_irr] at this; cases this
theorem snoc_ind {P : List Nat → Prop} (h0 : P []) (h1 : ∀ x e, P x → P (x ++ [e])) (v : List Nat) : P v := by
  have key : ∀ u : List Nat, P u.reverse := fun u => by
    induction u with
    | nil => exact h0
    | cons a u ih =>
      rw [List.reverse_cons]
      exact h1 _ _ ih
  have := key v.reverse
  rwa [List.reverse_reverse] at this
/-- states, where one begins, what a letter does -/
structure Aut (S : Type) where
  init : S
  step : S → Nat → Option S
section
variable {S : Type} (A : Aut S)
def Aut.run (w : List Nat) : Option S := w.foldl (fun s c => s.bind fun s => A.step s c) (some A.init)
theorem Aut.run_snoc (w : List Nat) (c : Nat) : A.run (w ++ [c]) = (A.run w).bind fun s => A.step s c := by
  unfold Aut.run
  rw [List.foldl_append]
  rfl
theorem Aut.run_nil : A.run [] = some A.init := rfl
structure Bfs (L : List Nat) (line : List (List Nat × S)) (at' j : Nat) : Prop where
  head : line[0]? = some ([], A.init)
  run : ∀ p ∈ line, A.run p.1 = some p.2 ∧ ∀ c ∈ p.1, c ∈ L
  sorted : line.Pairwise fun a b => ltW a.1 b.1 = true
  nd : (line.map (·.2)).Nodup
  par : ∀ (i : Nat) (p : List Nat × S), line[i]? = some p → i = 0 ∨ ∃ (k : Nat) (q : List Nat × S) (c m : Nat), line[k]? = some q ∧ p.1 = q.1 ++ [c] ∧ L[m]? = some c ∧ (k < at' ∨ (k = at' ∧ m < j))
  done : ∀ (k : Nat) (q : List Nat × S) (m c : Nat), line[k]? = some q → L[m]? = some c → (k < at' ∨ (k = at' ∧ m < j)) → ∀ t, A.step q.2 c = some t → t ∈ line.map (·.2)
  least : ∀ p ∈ line, ∀ v, A.run v = some p.2 → (∀ c ∈ v, c ∈ L) → ltW v p.1 = false
variable {A} {L : List Nat} {line : List (List Nat × S)} {at' j : Nat}
theorem Bfs.start : Bfs A L [([], A.init)] 0 0 where
  head := rfl
  run := fun p hp => by
    rw [List.mem_singleton] at hp
    subst hp
    exact ⟨rfl, fun c hc => nomatch hc⟩
  sorted := List.pairwise_singleton ..
  nd := by simp
  par := fun i p h => by
    cases i with
    | zero => exact .inl rfl
    | succ i => simp at h
  done := fun k q m c _ _ h => by omega
  least := fun p hp v _ _ => by
    rw [List.mem_singleton] at hp
    subst hp
    exact ltW_not_nil v
theorem Bfs.lt_idx (B : Bfs A L line at' j) {i k : Nat} {p q : List Nat × S} (hi : line[i]? = some p) (hk : line[k]? = some q) (h : ltW p.1 q.1 = true) : i < k := by
  have hs := B.sorted
  by_cases c : i < k
  · exact c
  · rcases Nat.lt_or_eq_of_le (Nat.le_of_not_lt c) with c | c
    · have h1 : ltW q.1 p.1 = true := by
        obtain ⟨hk', ek⟩ := List.getElem?_eq_some_iff.mp hk
        obtain ⟨hi', ei⟩ := List.getElem?_eq_some_iff.mp hi
        have := List.pairwise_iff_getElem.mp hs k i hk' hi' c
        rw [ek, ei] at this
        exact this
      rw [ltW_asymm h] at h1
      cases h1
    · subst c
      rw [hi] at hk
      cases hk
      rw [ltW_irr] at h
      cases h
theorem Bfs.idx_lt (B : Bfs A L line at' j) {i k : Nat} {p q : List Nat × S} (hi : line[i]? = some p) (hk : line[k]? = some q) (h : i < k) : ltW p.1 q.1 = true := by
  obtain ⟨hk', ek⟩ := List.getElem?_eq_some_iff.mp hk
  obtain ⟨hi', ei⟩ := List.getElem?_eq_some_iff.mp hi
  have := List.pairwise_iff_getElem.mp B.sorted i k hi' hk' h
  rw [ek, ei] at this
  exact this
/-- what lies ahead of all that isn't done yet is met -/
theorem Bfs.reach (B : Bfs A L line at' j) : ∀ {v : List Nat} {s : S}, (∀ k p, line[k]? = some p → ltW p.1 v = true → k < at') → A.run v = some s → (∀ c ∈ v, c ∈ L) → ∃ p ∈ line, p.2 = s ∧ ltW v p.1 = false := by
  intro v
  refine snoc_ind (P := fun v => ∀ {s : S}, (∀ k p, line[k]? = some p → ltW p.1 v = true → k < at') → A.run v = some s → (∀ c ∈ v, c ∈ L) → ∃ p ∈ line, p.2 = s ∧ ltW v p.1 = false) ?_ ?_ v
  · intro s _ h _
    refine ⟨_, List.mem_of_getElem? B.head, ?_, ltW_irr _⟩
    exact Option.some.inj h
  · intro x e ih s hv h ho
    rw [Aut.run_snoc] at h
    cases hx : A.run x with
    | none => rw [hx] at h; cases h
    | some s' =>
      rw [hx] at h
      have h : A.step s' e = some s := h
      obtain ⟨p, hp, e1, e2⟩ := ih (s := s') (fun k p hk hl => hv k p hk (ltW_trans hl (ltW_app1 x e))) hx (fun c hc => ho c (List.mem_append_left _ hc))
      obtain ⟨k, hk⟩ := List.mem_iff_getElem?.mp hp
      have hkat := hv k p hk (ltW_le_trans e2 (ltW_app1 x e))
      obtain ⟨m, hm⟩ := List.mem_iff_getElem?.mp (ho e (by simp))
      have hs := B.done k p m e hk hm (.inl hkat) s (by rw [e1]; exact h)
      obtain ⟨p', hp', e3⟩ := List.mem_map.mp hs
      refine ⟨p', hp', e3, B.least p' hp' _ ?_ ho⟩
      rw [e3, Aut.run_snoc, hx]
      exact h
/-- all is done -/
theorem Bfs.all (B : Bfs A L line at' j) (h : line.length ≤ at') {v : List Nat} {s : S} (hr : A.run v = some s) (ho : ∀ c ∈ v, c ∈ L) : ∃ p ∈ line, p.2 = s ∧ ltW v p.1 = false :=
  B.reach (fun k p hk _ => by have := (List.getElem?_eq_some_iff.mp hk).1; omega) hr ho
/-- what comes no later than the entry that is at work -/
theorem Bfs.upto (B : Bfs A L line at' j) {q : List Nat × S} (hq : line[at']? = some q) {v : List Nat} {s : S} (hl : ltW q.1 v = false) (hr : A.run v = some s) (ho : ∀ c ∈ v, c ∈ L) : ∃ p ∈ line, p.2 = s ∧ ltW v p.1 = false :=
  B.reach (fun k p hk h => B.lt_idx hk hq (by
    cases h2 : ltW v q.1 with
    | true => exact ltW_trans h h2
    | false => rw [← ltW_tri h2 hl]; exact h)) hr ho
theorem Bfs.old (B : Bfs A L line at' j) {q : List Nat × S} {c : Nat} (hq : line[at']? = some q) (hc : L[j]? = some c) (h : ∀ t, A.step q.2 c = some t → t ∈ line.map (·.2)) : Bfs A L line at' (j + 1) where
  head := B.head
  run := B.run
  sorted := B.sorted
  nd := B.nd
  par := fun i p hi => by
    rcases B.par i p hi with h | ⟨k, q', c', m, h1, h2, h3, h4⟩
    · exact .inl h
    · exact .inr ⟨k, q', c', m, h1, h2, h3, by omega⟩
  done := fun k q' m c' h1 h2 h3 t ht => by
    by_cases hk : k < at' ∨ (k = at' ∧ m < j)
    · exact B.done k q' m c' h1 h2 hk t ht
    · have e1 : k = at' := by omega
      have e2 : m = j := by omega
      subst e1
      subst e2
      rw [hq] at h1
      cases h1
      rw [hc] at h2
      cases h2
      exact h t ht
  least := B.least
theorem Bfs.new (B : Bfs A L line at' j) (hL : L.Pairwise (· < ·)) {q : List Nat × S} {c : Nat} {t : S} (hq : line[at']? = some q) (hc : L[j]? = some c) (ht : A.step q.2 c = some t) (hn : t ∉ line.map (·.2)) : Bfs A L (line ++ [(q.1 ++ [c], t)]) at' (j + 1) := by
  have hqm := List.mem_of_getElem? hq
  have atl := (List.getElem?_eq_some_iff.mp hq).1
  have old : ∀ {k : Nat} {p : List Nat × S}, line[k]? = some p → (line ++ [(q.1 ++ [c], t)])[k]? = some p := fun {k p} h => by
    rw [List.getElem?_append_left (List.getElem?_eq_some_iff.mp h).1]
    exact h
  have below : ∀ p ∈ line, ltW p.1 (q.1 ++ [c]) = true := fun p hp => by
    obtain ⟨i, hi⟩ := List.mem_iff_getElem?.mp hp
    rcases B.par i p hi with h | ⟨k, q', c', m, h1, h2, h3, h4⟩
    · subst h
      rw [B.head] at hi
      cases hi
      exact ltW_nil (by simp)
    · rw [h2]
      refine ltW_snoc.mpr ?_
      rcases h4 with h4 | ⟨h4, h5⟩
      · exact .inl (B.idx_lt h1 hq h4)
      · subst h4
        rw [hq] at h1
        cases h1
        refine .inr ⟨rfl, ?_⟩
        obtain ⟨hm, em⟩ := List.getElem?_eq_some_iff.mp h3
        obtain ⟨hj, ej⟩ := List.getElem?_eq_some_iff.mp hc
        have := List.pairwise_iff_getElem.mp hL m j hm hj h5
        omega
  refine ⟨?_, fun p hp => ?_, ?_, ?_, fun i p hi => ?_, fun k q' m c' h1 h2 h3 t' ht' => ?_, fun p hp v hr ho => ?_⟩
  · exact old B.head
  · rcases List.mem_append.mp hp with hp | hp
    · exact B.run p hp
    · rw [List.mem_singleton] at hp
      subst hp
      refine ⟨?_, fun d hd => ?_⟩
      · show A.run (q.1 ++ [c]) = some t
        rw [Aut.run_snoc, (B.run q hqm).1]
        exact ht
      · rcases List.mem_append.mp hd with hd | hd
        · exact (B.run q hqm).2 d hd
        · rw [List.mem_singleton] at hd
          subst hd
          exact List.mem_of_getElem? hc
  · rw [List.pairwise_append]
    refine ⟨B.sorted, List.pairwise_singleton .., fun a ha b hb => ?_⟩
    rw [List.mem_singleton] at hb
    subst hb
    exact below a ha
  · rw [List.map_append, List.nodup_append]
    refine ⟨B.nd, by simp, fun a ha b hb => ?_⟩
    have hb : b = t := by simpa using hb
    subst hb
    intro e
    exact hn (e ▸ ha)
  · by_cases hi' : i < line.length
    · rw [List.getElem?_append_left hi'] at hi
      rcases B.par i p hi with h | ⟨k, q', c', m, h1, h2, h3, h4⟩
      · exact .inl h
      · exact .inr ⟨k, q', c', m, old h1, h2, h3, by omega⟩
    · rw [List.getElem?_append_right (by omega)] at hi
      have e0 : i - line.length = 0 := by
        by_cases z : i - line.length = 0
        · exact z
        · rw [List.getElem?_eq_none (by rw [List.length_singleton]; omega)] at hi
          cases hi
      rw [e0] at hi
      cases hi
      exact .inr ⟨at', q, c, j, old hq, rfl, hc, .inr ⟨rfl, by omega⟩⟩
  · have hk : k < line.length := by omega
    rw [List.getElem?_append_left hk] at h1
    rw [List.map_append]
    by_cases hkj : k < at' ∨ (k = at' ∧ m < j)
    · exact List.mem_append_left _ (B.done k q' m c' h1 h2 hkj t' ht')
    · have e1 : k = at' := by omega
      have e2 : m = j := by omega
      subst e1
      subst e2
      rw [hq] at h1
      cases h1
      rw [hc] at h2
      cases h2
      rw [ht] at ht'
      cases ht'
      exact List.mem_append_right _ (by simp)
  · rcases List.mem_append.mp hp with hp | hp
    · exact B.least p hp v hr ho
    · rw [List.mem_singleton] at hp
      subst hp
      cases hlt : ltW v (q.1 ++ [c]) with
      | false => rfl
      | true =>
        exfalso
        apply hn
        have hr : A.run v = some t := hr
        rcases List.eq_nil_or_concat v with e | ⟨x, e', e⟩
        · subst e
          rw [Aut.run_nil] at hr
          rw [← Option.some.inj hr]
          exact List.mem_map.mpr ⟨_, List.mem_of_getElem? B.head, rfl⟩
        · rw [List.concat_eq_append] at e
          subst e
          rw [Aut.run_snoc] at hr
          cases hx : A.run x with
          | none => rw [hx] at hr; cases hr
          | some s' =>
            rw [hx] at hr
            have hr : A.step s' e' = some t := hr
            have ho1 : ∀ d ∈ x, d ∈ L := fun d hd => ho d (List.mem_append_left _ hd)
            obtain ⟨m, hm⟩ := List.mem_iff_getElem?.mp (ho e' (by simp))
            rcases ltW_snoc.mp hlt with h | ⟨h1, h2⟩
            · obtain ⟨p, hp, e1, e2⟩ := B.upto hq (ltW_asymm h) hx ho1
              obtain ⟨k, hk⟩ := List.mem_iff_getElem?.mp hp
              exact B.done k p m e' hk hm (.inl (B.lt_idx hk hq (ltW_le_trans e2 h))) t (by rw [e1]; exact hr)
            · subst h1
              rw [(B.run q hqm).1] at hx
              cases hx
              refine B.done at' q m e' hq hm (.inr ⟨rfl, ?_⟩) t hr
              obtain ⟨hm', em⟩ := List.getElem?_eq_some_iff.mp hm
              obtain ⟨hj, ej⟩ := List.getElem?_eq_some_iff.mp hc
              by_cases z : m < j
              · exact z
              · rcases Nat.lt_or_eq_of_le (Nat.le_of_not_lt z) with z | z
                · have := List.pairwise_iff_getElem.mp hL j m hj hm' z
                  omega
                · subst z
                  rw [hc] at hm
                  cases hm
                  omega
theorem Bfs.row (B : Bfs A L line at' j) (hj : L.length ≤ j) : Bfs A L line (at' + 1) 0 where
  head := B.head
  run := B.run
  sorted := B.sorted
  nd := B.nd
  par := fun i p hi => by
    rcases B.par i p hi with h | ⟨k, q', c', m, h1, h2, h3, h4⟩
    · exact .inl h
    · exact .inr ⟨k, q', c', m, h1, h2, h3, by omega⟩
  done := fun k q' m c' h1 h2 h3 t ht => by
    have := (List.getElem?_eq_some_iff.mp h2).1
    exact B.done k q' m c' h1 h2 (by omega) t ht
  least := B.least
end
end Dx

namespace Dx
open PySem PySem.Spec PyProof.Rows L2
open Evl (Ex)
variable [Tb]
/-! ### parting -/
def nextP (t : List Nat) (k c : Nat) : Option Nat := (findFrom t c k).map (· + 1)
/-- where a word ends, greedily, from a place on -/
def posFrom (t : List Nat) (o : Option Nat) (w : List Nat) : Option Nat := w.foldl (fun o c => o.bind fun k => nextP t k c) o
def pos (t w : List Nat) : Option Nat := posFrom t (some 0) w
theorem sub_self (t : List Nat) : sub t t = true := (sub_iff t t).mpr (List.Sublist.refl t)
/-! #### the search -/
abbrev Line := List (List Nat × (Nat × Nat))
def NoPart (one other : List Nat) (l : List Nat) (line : Line) (at' j : Nat) : Prop :=
  ∀ (k : Nat) (q : List Nat × (Nat × Nat)) (m c : Nat), line[k]? = some q → l[m]? = some c → (k < at' ∨ (k = at' ∧ m < j)) → (nextP one q.2.1 c).isSome = (nextP other q.2.2 c).isSome
section
variable {one other l : List Nat} {line : Line} {at' j : Nat}
end
theorem NoPart.row {one other l : List Nat} {line : Line} {at' j : Nat} (N : NoPart one other l line at' j) (h : l.length ≤ j) : NoPart one other l line (at' + 1) 0 := fun k q m c h1 h2 h3 => by
  have := (List.getElem?_eq_some_iff.mp h2).1
  exact N k q m c h1 h2 (by omega)
theorem NoPart.more {one other l : List Nat} {line : Line} {at' j : Nat} {q : List Nat × (Nat × Nat)} {c : Nat} (N : NoPart one other l line at' j) (hq : line[at']? = some q) (hc : l[j]? = some c) (e : (nextP one q.2.1 c).isSome = (nextP other q.2.2 c).isSome) (fresh : Line) : NoPart one other l (line ++ fresh) at' (j + 1) := fun k q' m c' h1 h2 h3 => by
  have hk : k < line.length := by have := (List.getElem?_eq_some_iff.mp hq).1; omega
  rw [List.getElem?_append_left hk] at h1
  by_cases z : k < at' ∨ (k = at' ∧ m < j)
  · exact N k q' m c' h1 h2 z
  · have e1 : k = at' := by omega
    have e2 : m = j := by omega
    subst e1
    subst e2
    rw [hq] at h1
    cases h1
    rw [hc] at h2
    cases h2
    exact e
end Dx

namespace Dx
open PySem PySem.Spec PyProof.Rows L2
open Evl (Ex)
variable [Tb]
def AlikeTo (one other : List Nat) (k : Nat) : Prop := ∀ w, w.length ≤ k → sub w one = sub w other
end Dx

namespace Dx
open PySem PySem.Spec PyProof.Rows L2
open Evl (Ex)
variable [Tb]
/-! ### letters that may be left out, put in -/
/-- [v(x) for x in xs if p(x)] that changes nothing -/
theorem comp_filt {α : Type} {xs : List α} {gd v : α → D} {p : α → Bool} {t : DG} {tt : DT} {te : DE} {rho : Rho} {mu : Mu} {Q : List D → Mu → Prop} (hs : xs.length ≤ 1000000)
    (step : ∀ x ∈ xs, ∀ (G : DQ) (N : Mu → Prop), (p x = true → G (.dat (v x)) mu) → (p x = false → N mu) → t (gd x) rho fun rho' => tt rho' mu fun b mu1 => if b = true then te rho' mu1 G else N mu1)
    (q : Q ((xs.filter p).map v) mu) : dCompL t tt te rho Q (xs.map gd) [] mu := by
  refine comp_inv (fun j acc mu' => mu' = mu ∧ acc = ((xs.take j).filter p).map v) ⟨rfl, rfl⟩ (fun j d acc mu' K hd hp ke => ?_) (fun acc mu' hp => ?_)
  · obtain ⟨rfl, rfl⟩ := hp
    rw [List.getElem?_map] at hd
    cases hx : xs[j]? with
    | none => rw [hx] at hd; cases hd
    | some x =>
      rw [hx] at hd
      have hd := (Option.some.inj hd).symm
      subst hd
      have e1 : xs.take (j + 1) = xs.take j ++ [x] := by rw [List.take_add_one, hx]; rfl
      have hl : (((xs.take j).filter p).map v).length ≤ j := by
        rw [List.length_map]
        exact Nat.le_trans (List.length_filter_le _ _) (by rw [List.length_take]; omega)
      have hj := (List.getElem?_eq_some_iff.mp hx).1
      refine step x (List.mem_of_getElem? hx) _ _ (fun hp => ?_) (fun hp => ?_)
      · refine ⟨by omega, ke _ _ ⟨rfl, ?_⟩⟩
        rw [e1, List.filter_append, List.map_append, List.filter_cons, hp]
        rfl
      · refine ke _ _ ⟨rfl, ?_⟩
        rw [e1, List.filter_append, List.map_append, List.filter_cons, hp]
        show _ = _ ++ []
        rw [List.append_nil]
  · obtain ⟨rfl, rfl⟩ := hp
    rw [List.length_map, List.take_length]
    exact q
end Dx

namespace Dx
open PySem PySem.Spec PyProof.Rows L2
open Evl (Ex)
variable [Tb]

section
variable {X : Cx}
end

/-! ### rows numbered as they come first -/
section
variable {κ : Type} [DecidableEq κ]
def firsts : List κ → List κ := fun rows => rows.foldl (fun acc r => if r ∈ acc then acc else acc ++ [r]) []
theorem firsts_snoc (rows : List κ) (r : κ) : firsts (rows ++ [r]) = if r ∈ firsts rows then firsts rows else firsts rows ++ [r] := by
  unfold firsts
  rw [List.foldl_append]
  rfl
theorem snoc_indA {α : Type} {P : List α → Prop} (h0 : P []) (h1 : ∀ x e, P x → P (x ++ [e])) (v : List α) : P v := by
  have key : ∀ u : List α, P u.reverse := fun u => by
    induction u with
    | nil => exact h0
    | cons a u ih =>
      rw [List.reverse_cons]
      exact h1 _ _ ih
  have := key v.reverse
  rwa [List.reverse_reverse] at this
theorem mem_firsts {r : κ} (rows : List κ) : r ∈ firsts rows ↔ r ∈ rows := by
  refine snoc_indA (P := fun rows => r ∈ firsts rows ↔ r ∈ rows) Iff.rfl (fun x e ih => ?_) rows
  rw [firsts_snoc, List.mem_append, List.mem_singleton]
  split
  · rename_i h
    constructor
    · exact fun z => .inl (ih.mp z)
    · rintro (z | z)
      · exact ih.mpr z
      · rw [z]; exact h
  · rw [List.mem_append, List.mem_singleton, ih]
def posIn (l : List κ) (r : κ) : Nat := l.findIdx fun x => decide (x = r)
theorem posIn_lt {l : List κ} {r : κ} (h : r ∈ l) : posIn l r < l.length := List.findIdx_lt_length_of_exists ⟨r, h, decide_eq_true rfl⟩
theorem posIn_at {l : List κ} {r : κ} (h : r ∈ l) : l[posIn l r]? = some r := by
  have hl := posIn_lt h
  rw [List.getElem?_eq_getElem hl]
  have := List.findIdx_getElem (xs := l) (p := fun x => decide (x = r)) (w := hl)
  exact congrArg some (of_decide_eq_true this)
theorem posIn_inj {l : List κ} {r s : κ} (h : r ∈ l) (h' : s ∈ l) (e : posIn l r = posIn l s) : r = s := by
  have a := posIn_at h
  have b := posIn_at h'
  rw [e] at a
  rw [a] at b
  exact Option.some.inj b
theorem posIn_app {l : List κ} {r : κ} (h : r ∈ l) (m : List κ) : posIn (l ++ m) r = posIn l r := by
  have hl := posIn_lt h
  unfold posIn at hl ⊢
  rw [List.findIdx_append, if_pos hl]
def nums (rows : List κ) : List Nat := rows.map (posIn (firsts rows))
end
end Dx

namespace Dx
open PySem PySem.Spec PyProof.Rows L2
open Evl (Ex)
variable [Tb]

section
variable {X : Cx} {pos : Pos} {ek ev k v : Expr} {tk tv : TE} {dk dv : DE}
end
end Dx

namespace Dx
open PySem PySem.Spec PyProof.Rows L2
open Evl (Ex)
variable [Tb]

/-! ### least machines: what they are -/
def Over (L v : List Nat) : Prop := ∀ c ∈ v, c ∈ L
theorem Over.app {L u v : List Nat} (h : Over L u) (h' : Over L v) : Over L (u ++ v) := fun c hc => (List.mem_append.mp hc).elim (h c) (h' c)
theorem Over.one {L : List Nat} {c : Nat} (h : c ∈ L) : Over L [c] := fun d hd => by
  rw [List.mem_singleton] at hd
  rw [hd]
  exact h
theorem Over.nil {L : List Nat} : Over L [] := fun c hc => nomatch hc
/-- the same texts behind both are taken -/
def Eqv (L : List Nat) (lang : List Nat → Bool) (u v : List Nat) : Prop := ∀ t, Over L t → lang (u ++ t) = lang (v ++ t)
theorem Eqv.refl {L : List Nat} {lang : List Nat → Bool} (u : List Nat) : Eqv L lang u u := fun _ _ => rfl
theorem Eqv.symm {L : List Nat} {lang : List Nat → Bool} {u v : List Nat} (h : Eqv L lang u v) : Eqv L lang v u := fun t ht => (h t ht).symm
theorem Eqv.trans {L : List Nat} {lang : List Nat → Bool} {u v w : List Nat} (h : Eqv L lang u v) (h' : Eqv L lang v w) : Eqv L lang u w := fun t ht => (h t ht).trans (h' t ht)
theorem Eqv.app {L : List Nat} {lang : List Nat → Bool} {u v x : List Nat} (h : Eqv L lang u v) (hx : Over L x) : Eqv L lang (u ++ x) (v ++ x) := fun t ht => by
  rw [List.append_assoc, List.append_assoc]
  exact h _ (hx.app ht)
theorem Eqv.end {L : List Nat} {lang : List Nat → Bool} {u v : List Nat} (h : Eqv L lang u v) : lang u = lang v := by
  have := h [] Over.nil
  rwa [List.append_nil, List.append_nil] at this
structure First (L : List Nat) (lang : List Nat → Bool) (ws : List (List Nat)) : Prop where
  sorted : ws.Pairwise fun a b => ltW a b = true
  over : ∀ w ∈ ws, Over L w
  apart : ∀ (i j : Nat) (u v : List Nat), ws[i]? = some u → ws[j]? = some v → Eqv L lang u v → i = j
  all : ∀ v, Over L v → ∃ w ∈ ws, Eqv L lang w v ∧ ltW v w = false
theorem First.mem {L : List Nat} {lang : List Nat → Bool} {ws : List (List Nat)} (h : First L lang ws) (w : List Nat) : w ∈ ws ↔ Over L w ∧ ∀ v, Over L v → ltW v w = true → ¬ Eqv L lang v w := by
  constructor
  · intro hw
    refine ⟨h.over w hw, fun v ov hl he => ?_⟩
    obtain ⟨u, hu, e1, e2⟩ := h.all v ov
    obtain ⟨i, hi⟩ := List.mem_iff_getElem?.mp hu
    obtain ⟨j, hj⟩ := List.mem_iff_getElem?.mp hw
    have := h.apart i j u w hi hj (e1.trans he)
    subst this
    rw [hi] at hj
    cases hj
    rw [hl] at e2
    cases e2
  · rintro ⟨ow, hm⟩
    obtain ⟨u, hu, e1, e2⟩ := h.all w ow
    cases hl : ltW u w with
    | true => exact absurd e1 (hm u (h.over u hu) hl)
    | false => rw [← ltW_tri hl e2]; exact hu
theorem sorted_uniq {l m : List (List Nat)} (hl : l.Pairwise fun a b => ltW a b = true) (hm : m.Pairwise fun a b => ltW a b = true) (h : ∀ w, w ∈ l ↔ w ∈ m) : l = m := by
  have n1 : l.Nodup := hl.imp fun {a b} z e => by rw [e, ltW_irr] at z; cases z
  have n2 : m.Nodup := hm.imp fun {a b} z e => by rw [e, ltW_irr] at z; cases z
  exact ordW_uniq (hl.imp fun {a b} z => ltW_asymm z) (hm.imp fun {a b} z => ltW_asymm z) ((List.perm_ext_iff_of_nodup n1 n2).mpr h)
theorem First.uniq {L : List Nat} {lang : List Nat → Bool} {ws us : List (List Nat)} (h : First L lang ws) (h' : First L lang us) : ws = us := sorted_uniq h.sorted h'.sorted fun w => by rw [h.mem, h'.mem]
noncomputable def eIdx (L : List Nat) (lang : List Nat → Bool) (ws : List (List Nat)) (v : List Nat) : Nat := ws.findIdx fun u => @decide (Eqv L lang u v) (Classical.propDecidable _)
theorem First.idx {L : List Nat} {lang : List Nat → Bool} {ws : List (List Nat)} (h : First L lang ws) {j : Nat} {u v : List Nat} (hj : ws[j]? = some u) (e : Eqv L lang u v) : Dx.eIdx L lang ws v = j := by
  have hl : Dx.eIdx L lang ws v < ws.length := List.findIdx_lt_length_of_exists ⟨u, List.mem_of_getElem? hj, @decide_eq_true _ (Classical.propDecidable _) e⟩
  have hp := List.findIdx_getElem (xs := ws) (p := fun u => @decide (Eqv L lang u v) (Classical.propDecidable _)) (w := hl)
  have hp := @of_decide_eq_true _ (Classical.propDecidable _) hp
  exact h.apart _ j _ u (List.getElem?_eq_getElem hl) hj (hp.trans e.symm)
noncomputable def machOf (L : List Nat) (lang : List Nat → Bool) (ws : List (List Nat)) : Mach :=
  ⟨L, 0, (List.range ws.length).filter fun i => lang (ws.getD i []), ws.map fun w => L.map fun c => eIdx L lang ws (w ++ [c])⟩
def LeastOf (L : List Nat) (lang : List Nat → Bool) (R : Mach) : Prop := ∃ ws, First L lang ws ∧ R = machOf L lang ws
theorem LeastOf.uniq {L : List Nat} {lang : List Nat → Bool} {R R' : Mach} (h : LeastOf L lang R) (h' : LeastOf L lang R') : R = R' := by
  obtain ⟨ws, f, rfl⟩ := h
  obtain ⟨us, f', rfl⟩ := h'
  rw [f.uniq f']
/-- the language matters on the letters' texts alone -/
theorem Eqv.congr {L : List Nat} {lang lang' : List Nat → Bool} (h : ∀ t, Over L t → lang t = lang' t) {u v : List Nat} (ou : Over L u) (ov : Over L v) (e : Eqv L lang u v) : Eqv L lang' u v := fun t ht => by
  rw [← h _ (ou.app ht), ← h _ (ov.app ht)]
  exact e t ht
theorem First.congr {L : List Nat} {lang lang' : List Nat → Bool} (h : ∀ t, Over L t → lang t = lang' t) {ws : List (List Nat)} (f : First L lang ws) : First L lang' ws where
  sorted := f.sorted
  over := f.over
  apart := fun i j u v hi hj e => f.apart i j u v hi hj (e.congr (fun t ht => (h t ht).symm) (f.over u (List.mem_of_getElem? hi)) (f.over v (List.mem_of_getElem? hj)))
  all := fun v ov => by
    obtain ⟨w, hw, e, l⟩ := f.all v ov
    exact ⟨w, hw, e.congr h (f.over w hw) ov, l⟩
theorem LeastOf.congr {L : List Nat} {lang lang' : List Nat → Bool} (h : ∀ t, Over L t → lang t = lang' t) {R : Mach} (l : LeastOf L lang R) : LeastOf L lang' R := by
  obtain ⟨ws, f, rfl⟩ := l
  have f' := f.congr h
  refine ⟨ws, f', ?_⟩
  unfold machOf
  congr 1
  · apply List.filter_congr
    intro i hi
    have hi := List.mem_range.mp hi
    rw [List.getD_eq_getElem?_getD, List.getElem?_eq_getElem hi]
    exact h _ (f.over _ (List.getElem_mem hi))
  · apply List.map_congr_left
    intro w hw
    apply List.map_congr_left
    intro c hc
    have ow := (f.over w hw).app (Over.one hc)
    obtain ⟨u, hu, e, _⟩ := f.all _ ow
    obtain ⟨j, hj⟩ := List.mem_iff_getElem?.mp hu
    rw [f.idx hj e, f'.idx hj (e.congr h (f.over u hu) ow)]

/-! ### what the least machine does -/
theorem posL_at {l : List Nat} (nd : l.Nodup) {m c : Nat} (h : l[m]? = some c) : posL c l = m := by
  obtain ⟨h1, h2, h3⟩ := pos_of (List.mem_of_getElem? h)
  obtain ⟨hm, em⟩ := List.getElem?_eq_some_iff.mp h
  obtain ⟨hp, ep⟩ := List.getElem?_eq_some_iff.mp h3
  have hh := List.pairwise_iff_getElem.mp nd
  by_cases z : posL c l < m
  · exact absurd (ep.trans em.symm) (hh _ _ hp hm z)
  · by_cases z2 : m < posL c l
    · exact absurd (em.trans ep.symm) (hh _ _ hm hp z2)
    · omega
section
variable {L : List Nat} {lang : List Nat → Bool} {ws : List (List Nat)}
theorem machOf_stp (nd : L.Nodup) {i : Nat} {w : List Nat} (hi : ws[i]? = some w) {c : Nat} (hc : c ∈ L) : (machOf L lang ws).stp i c = eIdx L lang ws (w ++ [c]) := by
  unfold Mach.stp
  show ((ws.map fun w => L.map fun c => eIdx L lang ws (w ++ [c])).getD i []).getD (posL c L) 0 = _
  obtain ⟨_, _, h3⟩ := pos_of hc
  have e1 : (ws.map fun w => L.map fun c => eIdx L lang ws (w ++ [c])).getD i [] = L.map fun c => eIdx L lang ws (w ++ [c]) := by
    rw [List.getD_eq_getElem?_getD, List.getElem?_map, hi]
    rfl
  rw [e1, List.getD_eq_getElem?_getD, List.getElem?_map, h3]
  rfl
theorem First.zero (f : First L lang ws) : ws[0]? = some [] := by
  obtain ⟨w, hw, _, l⟩ := f.all [] Over.nil
  have e : w = [] := by
    cases w with
    | nil => rfl
    | cons a w => rw [ltW_nil (by simp)] at l; cases l
  subst e
  obtain ⟨j, hj⟩ := List.mem_iff_getElem?.mp hw
  by_cases z : j = 0
  · rw [← z]; exact hj
  · obtain ⟨hj', ej⟩ := List.getElem?_eq_some_iff.mp hj
    have := List.pairwise_iff_getElem.mp f.sorted 0 j (by omega) hj' (by omega)
    rw [ej, ltW_not_nil] at this
    cases this
theorem First.go (f : First L lang ws) (nd : L.Nodup) : ∀ v, Over L v → (machOf L lang ws).go 0 v = eIdx L lang ws v := by
  intro v
  refine snoc_ind (P := fun v => Over L v → (machOf L lang ws).go 0 v = eIdx L lang ws v) ?_ ?_ v
  · intro _
    rw [f.idx f.zero (Eqv.refl [])]
    rfl
  · intro x e ih ho
    have ox : Over L x := fun c hc => ho c (List.mem_append_left _ hc)
    rw [Mach.go_app, ih ox]
    obtain ⟨w, hw, e1, _⟩ := f.all x ox
    obtain ⟨j, hj⟩ := List.mem_iff_getElem?.mp hw
    rw [f.idx hj e1]
    have he := ho e (by simp)
    show (machOf L lang ws).stp j e = _
    rw [machOf_stp nd hj he]
    obtain ⟨u, hu, e2, _⟩ := f.all (w ++ [e]) ((f.over w hw).app (Over.one he))
    obtain ⟨k, hk⟩ := List.mem_iff_getElem?.mp hu
    rw [f.idx hk e2, f.idx hk (e2.trans (e1.app (Over.one he)))]
theorem First.takes (f : First L lang ws) (nd : L.Nodup) {v : List Nat} (ov : Over L v) : (machOf L lang ws).takes v = lang v := by
  unfold Mach.takes
  show decide ((machOf L lang ws).go 0 v ∈ (List.range ws.length).filter fun i => lang (ws.getD i [])) = lang v
  rw [f.go nd v ov]
  obtain ⟨w, hw, e1, _⟩ := f.all v ov
  obtain ⟨j, hj⟩ := List.mem_iff_getElem?.mp hw
  obtain ⟨hj', ej⟩ := List.getElem?_eq_some_iff.mp hj
  rw [f.idx hj e1, ← e1.end]
  have hg : ws.getD j [] = w := by rw [List.getD_eq_getElem?_getD, hj]; rfl
  cases h : lang w with
  | true => exact decide_eq_true (List.mem_filter.mpr ⟨List.mem_range.mpr hj', by rw [hg, h]⟩)
  | false =>
    refine decide_eq_false fun z => ?_
    have := (List.mem_filter.mp z).2
    rw [hg, h] at this
    cases this
theorem First.ok (f : First L lang ws) (hl : IsLetters L) (ll : 0 < L.length ∧ L.length ≤ 26) (few : ws.length ≤ 10000) : (machOf L lang ws).Ok where
  letters := hl
  len := ll
  rooms := by
    have h0 := (List.getElem?_eq_some_iff.mp f.zero).1
    show 0 < (ws.map _).length ∧ (ws.map _).length ≤ 10000
    rw [List.length_map]
    exact ⟨h0, few⟩
  rows := fun r hr => by
    obtain ⟨w, hw, rfl⟩ := List.mem_map.mp hr
    refine ⟨List.length_map _, fun q hq => ?_⟩
    obtain ⟨c, hc, rfl⟩ := List.mem_map.mp hq
    obtain ⟨u, hu, e2, _⟩ := f.all (w ++ [c]) ((f.over w hw).app (Over.one hc))
    obtain ⟨k, hk⟩ := List.mem_iff_getElem?.mp hu
    show eIdx L lang ws (w ++ [c]) < (ws.map _).length
    rw [f.idx hk e2, List.length_map]
    exact (List.getElem?_eq_some_iff.mp hk).1
  begin := by
    show 0 < (ws.map _).length
    rw [List.length_map]
    exact (List.getElem?_eq_some_iff.mp f.zero).1
  ends := fun e he => by
    show e < (ws.map _).length
    rw [List.length_map]
    exact List.mem_range.mp (List.mem_filter.mp he).1
  few := Nat.le_trans (List.length_filter_le _ _) (by rw [List.length_range]; exact few)
  rise := List.Pairwise.filter _ List.pairwise_lt_range
end

/-! ### rooms parted -/
def Mach.row (M : Mach) (r : Nat) : List Nat := M.L.map (M.stp r)
theorem Mach.Ok.nd {M : Mach} (h : M.Ok) : M.L.Nodup := rise_nd h.letters.1
theorem Mach.Ok.row {M : Mach} (h : M.Ok) {r : Nat} (hr : r < M.steps.length) : M.steps[r]? = some (M.row r) := by
  rw [List.getElem?_eq_getElem hr]
  congr 1
  have hrow := (h.rows _ (List.getElem_mem hr)).1
  apply List.ext_getElem
  · rw [hrow]
    exact (List.length_map _).symm
  · intro m h1 h2
    have e0 : (M.row r)[m] = M.stp r (M.L[m]'(by rw [← hrow]; exact h1)) := List.getElem_map ..
    rw [e0]
    have hm : m < M.L.length := by rw [← hrow]; exact h1
    have hc : M.L[m]? = some M.L[m] := List.getElem?_eq_getElem hm
    obtain ⟨row, e1, e2, _⟩ := h.stp hr (List.getElem_mem hm)
    rw [posL_at h.nd hc] at e2
    rw [List.getElem?_eq_getElem hr] at e1
    cases e1
    rw [List.getElem?_eq_getElem h1] at e2
    exact Option.some.inj e2
/-- rooms from which the same texts lead to ends -/
def Mach.same (M : Mach) (i j : Nat) : Prop := ∀ t, Over M.L t → (M.go i t ∈ M.ends ↔ M.go j t ∈ M.ends)
theorem Mach.same_stp {M : Mach} {i j c : Nat} (h : M.same i j) (hc : c ∈ M.L) : M.same (M.stp i c) (M.stp j c) := fun t ht => h (c :: t) fun d hd => by
  rcases List.mem_cons.mp hd with e | hd
  · rw [e]; exact hc
  · exact ht d hd
structure Stable (M : Mach) (s : Nat → Nat) : Prop where
  ends : ∀ i j, i < M.steps.length → j < M.steps.length → s i = s j → (i ∈ M.ends ↔ j ∈ M.ends)
  step : ∀ i j c, i < M.steps.length → j < M.steps.length → c ∈ M.L → s i = s j → s (M.stp i c) = s (M.stp j c)
  sound : ∀ i j, i < M.steps.length → j < M.steps.length → M.same i j → s i = s j
theorem Stable.same {M : Mach} {s : Nat → Nat} (h : Stable M s) (ok : M.Ok) : ∀ (t : List Nat) {i j : Nat}, i < M.steps.length → j < M.steps.length → Over M.L t → s i = s j → s (M.go i t) = s (M.go j t)
  | [], i, j, _, _, _, e => e
  | c :: t, i, j, hi, hj, ho, e => by
    have hc := ho c (by simp)
    obtain ⟨_, _, _, b1⟩ := ok.stp hi hc
    obtain ⟨_, _, _, b2⟩ := ok.stp hj hc
    exact Stable.same h ok t b1 b2 (fun d hd => ho d (by simp [hd])) (h.step i j c hi hj hc e)
theorem Stable.iff {M : Mach} {s : Nat → Nat} (h : Stable M s) (ok : M.Ok) {i j : Nat} (hi : i < M.steps.length) (hj : j < M.steps.length) : s i = s j ↔ M.same i j :=
  ⟨fun e t ht => h.ends _ _ (ok.go hi ht) (ok.go hj ht) (h.same ok t hi hj ht e), h.sound i j hi hj⟩
theorem takes_iff {M : Mach} {t : List Nat} : M.takes t = true ↔ M.go M.b t ∈ M.ends := by
  unfold Mach.takes
  exact decide_eq_true_iff
theorem Stable.eqv {M : Mach} {s : Nat → Nat} (h : Stable M s) (ok : M.Ok) {u v : List Nat} (hu : Over M.L u) (hv : Over M.L v) : Eqv M.L M.takes u v ↔ s (M.go M.b u) = s (M.go M.b v) := by
  rw [h.iff ok (ok.go ok.begin hu) (ok.go ok.begin hv)]
  constructor
  · intro e t ht
    have := e t ht
    rw [← Mach.go_app, ← Mach.go_app, ← takes_iff, ← takes_iff, this]
  · intro e t ht
    have := e t ht
    rw [← Mach.go_app, ← Mach.go_app, ← takes_iff, ← takes_iff] at this
    cases h1 : M.takes (u ++ t) with
    | true => exact (this.mp h1).symm
    | false =>
      cases h2 : M.takes (v ++ t) with
      | false => rfl
      | true => rw [this.mpr h2] at h1; cases h1
/-- the classes as states -/
def Mach.cls (M : Mach) (s : Nat → Nat) : Aut Nat := ⟨s M.b, fun q c => ((List.range M.steps.length).find? fun r => decide (s r = q)).map fun r => s (M.stp r c)⟩
theorem Stable.cls_step {M : Mach} {s : Nat → Nat} (h : Stable M s) {r c : Nat} (hr : r < M.steps.length) (hc : c ∈ M.L) : (M.cls s).step (s r) c = some (s (M.stp r c)) := by
  show ((List.range M.steps.length).find? fun r' => decide (s r' = s r)).map (fun r => s (M.stp r c)) = _
  cases q : (List.range M.steps.length).find? (fun r' => decide (s r' = s r)) with
  | none => exact absurd (decide_eq_true rfl) (List.find?_eq_none.mp q r (List.mem_range.mpr hr))
  | some r' =>
    have h1 : s r' = s r := of_decide_eq_true (List.find?_some (p := fun r' => decide (s r' = s r)) q)
    have h2 := List.mem_range.mp (List.mem_of_find?_eq_some q)
    show some (s (M.stp r' c)) = some (s (M.stp r c))
    rw [h.step r' r c h2 hr hc h1]
theorem Stable.cls_run {M : Mach} {s : Nat → Nat} (h : Stable M s) (ok : M.Ok) (v : List Nat) : Over M.L v → (M.cls s).run v = some (s (M.go M.b v)) := by
  refine snoc_ind (P := fun v => Over M.L v → (M.cls s).run v = some (s (M.go M.b v))) (fun _ => rfl) (fun x e ih ho => ?_) v
  have ox : Over M.L x := fun c hc => ho c (List.mem_append_left _ hc)
  rw [Aut.run_snoc, ih ox]
  show (M.cls s).step _ e = _
  rw [h.cls_step (ok.go ok.begin ox) (ho e (by simp)), Mach.go_app]
  rfl
theorem Stable.first {M : Mach} {s : Nat → Nat} (h : Stable M s) (ok : M.Ok) {line : List (List Nat × Nat)} {at' j : Nat} (B : Bfs (M.cls s) M.L line at' j) (hd : line.length ≤ at') : First M.L M.takes (line.map (·.1)) where
  sorted := List.pairwise_map.mpr B.sorted
  over := fun w hw => by
    obtain ⟨p, hp, rfl⟩ := List.mem_map.mp hw
    exact (B.run p hp).2
  apart := fun i k u v hi hk e => by
    rw [List.getElem?_map] at hi hk
    obtain ⟨p, hp, rfl⟩ := Option.map_eq_some_iff.mp hi
    obtain ⟨q, hq, rfl⟩ := Option.map_eq_some_iff.mp hk
    have rp := B.run p (List.mem_of_getElem? hp)
    have rq := B.run q (List.mem_of_getElem? hq)
    have e2 := (h.eqv ok rp.2 rq.2).mp e
    have e3 := rp.1.symm.trans (h.cls_run ok _ rp.2)
    have e4 := rq.1.symm.trans (h.cls_run ok _ rq.2)
    have e5 : p.2 = q.2 := by
      rw [Option.some.inj e3, Option.some.inj e4]
      exact e2
    obtain ⟨h1, f1⟩ := List.getElem?_eq_some_iff.mp hp
    obtain ⟨h2, f2⟩ := List.getElem?_eq_some_iff.mp hq
    have pw := List.pairwise_iff_getElem.mp B.nd
    by_cases z : i < k
    · have := pw i k (by rw [List.length_map]; exact h1) (by rw [List.length_map]; exact h2) z
      rw [List.getElem_map, List.getElem_map, f1, f2] at this
      exact absurd e5 this
    · by_cases z2 : k < i
      · have := pw k i (by rw [List.length_map]; exact h2) (by rw [List.length_map]; exact h1) z2
        rw [List.getElem_map, List.getElem_map, f1, f2] at this
        exact absurd e5.symm this
      · omega
  all := fun v ov => by
    obtain ⟨p, hp, e1, e2⟩ := B.all hd (h.cls_run ok v ov) ov
    have rp := B.run p hp
    refine ⟨p.1, List.mem_map.mpr ⟨p, hp, rfl⟩, (h.eqv ok rp.2 ov).mpr ?_, e2⟩
    have e3 := rp.1.symm.trans (h.cls_run ok _ rp.2)
    rw [← Option.some.inj e3, e1]
/-- the machine that comes of the search -/
theorem Stable.least {M : Mach} {s : Nat → Nat} (h : Stable M s) (ok : M.Ok) {line : List (List Nat × Nat)} {at' j : Nat} (B : Bfs (M.cls s) M.L line at' j) (hd : line.length ≤ at') {rs : List Nat} (hl : rs.length = line.length)
    (hr : ∀ (i r : Nat) (p : List Nat × Nat), rs[i]? = some r → line[i]? = some p → s r = p.2 ∧ r < M.steps.length) :
    LeastOf M.L M.takes ⟨M.L, 0, (List.range rs.length).filter fun i => decide (rs.getD i 0 ∈ M.ends), rs.map fun r => M.L.map fun c => posIn (line.map (·.2)) (s (M.stp r c))⟩ := by
  have f := h.first ok B hd
  refine ⟨line.map (·.1), f, ?_⟩
  have key : ∀ (i r : Nat) (p : List Nat × Nat), rs[i]? = some r → line[i]? = some p → s r = s (M.go M.b p.1) ∧ Over M.L p.1 ∧ r < M.steps.length := fun i r p h1 h2 => by
    obtain ⟨a, b⟩ := hr i r p h1 h2
    have rp := B.run p (List.mem_of_getElem? h2)
    have e3 := rp.1.symm.trans (h.cls_run ok _ rp.2)
    exact ⟨by rw [a, Option.some.inj e3], rp.2, b⟩
  unfold machOf
  congr 1
  · rw [List.length_map, hl]
    apply List.filter_congr
    intro i hi
    have hi := List.mem_range.mp hi
    have e1 : line[i]? = some line[i] := List.getElem?_eq_getElem hi
    have e2 : rs[i]? = some rs[i] := List.getElem?_eq_getElem (by omega)
    obtain ⟨a, b, c⟩ := key i _ _ e2 e1
    rw [List.getD_eq_getElem?_getD, e2, List.getD_eq_getElem?_getD, List.getElem?_map, e1]
    show decide (rs[i] ∈ M.ends) = M.takes line[i].1
    unfold Mach.takes
    exact decide_eq_decide.mpr (h.ends _ _ c (ok.go ok.begin b) a)
  · rw [List.map_map]
    apply List.ext_getElem
    · rw [List.length_map, List.length_map, hl]
    · intro i h1 h2
      rw [List.length_map] at h1 h2
      rw [List.getElem_map, List.getElem_map]
      have e1 : line[i]? = some line[i] := List.getElem?_eq_getElem h2
      have e2 : rs[i]? = some rs[i] := List.getElem?_eq_getElem h1
      obtain ⟨a, b, c⟩ := key i _ _ e2 e1
      apply List.map_congr_left
      intro d hdL
      show _ = Dx.eIdx M.L M.takes (line.map (·.1)) (line[i].1 ++ [d])
      have ow := b.app (Over.one hdL)
      have est : s (M.stp rs[i] d) = s (M.go M.b (line[i].1 ++ [d])) := by
        rw [Mach.go_app]
        exact h.step _ _ d c (ok.go ok.begin b) hdL a
      obtain ⟨p, hp, f1, f2⟩ := B.all hd (h.cls_run ok _ ow) ow
      have hm : s (M.stp rs[i] d) ∈ line.map (·.2) := by
        rw [est, ← f1]
        exact List.mem_map.mpr ⟨p, hp, rfl⟩
      have hpos := posIn_at hm
      rw [List.getElem?_map] at hpos
      obtain ⟨q, hq, e5⟩ := Option.map_eq_some_iff.mp hpos
      have rq := B.run q (List.mem_of_getElem? hq)
      refine (f.idx (j := posIn (line.map (·.2)) (s (M.stp rs[i] d))) (u := q.1) (by rw [List.getElem?_map, hq]; rfl) ?_).symm
      refine (h.eqv ok rq.2 ow).mpr ?_
      have e6 := rq.1.symm.trans (h.cls_run ok _ rq.2)
      rw [← Option.some.inj e6, e5, est]
end Dx

namespace Dx
open PySem PySem.Spec PyProof.Rows L2
open Evl (Ex)
variable [Tb]

section
variable {prog : Program} {w : World} {A : Around} {E : Value → Shared → Prop} {s : Shared}
end
section
variable {X : Cx} {e : Expr} {ta : TE} {p pos tpos : Pos} {elts : List Expr} {kk : Nat}
end
/-! #### over data -/
def enumD (k : Nat) : List D → List D
  | [] => []
  | d :: r => .tup [.int (k : Int), d] :: enumD (k + 1) r
theorem enumD_len : ∀ (ds : List D) (k : Nat), (enumD k ds).length = ds.length
  | [], _ => rfl
  | d :: r, k => by
    show (enumD (k + 1) r).length + 1 = r.length + 1
    rw [enumD_len r]
theorem enumD_at : ∀ {ds : List D} {k i : Nat} {d : D}, (enumD k ds)[i]? = some d → ∃ d', ds[i]? = some d' ∧ d = .tup [.int ((k + i : Nat) : Int), d']
  | [], k, i, d, h => by simp [enumD] at h
  | d' :: r, k, 0, d, h => by
    have h : D.tup [.int (k : Int), d'] = d := Option.some.inj h
    exact ⟨d', rfl, h.symm⟩
  | d' :: r, k, i + 1, d, h => by
    have h : (enumD (k + 1) r)[i]? = some d := h
    obtain ⟨d2, h1, h2⟩ := enumD_at h
    refine ⟨d2, h1, ?_⟩
    rw [h2]
    congr 3
    omega
theorem itD_new {F : Hp} {F1 H1 H2 : Hp} {al1 : List Addr} {mu1 : Mu} {T : Addr} {i : Nat} {d : D} {x v : V} (e : Ex F F1) (C : Cels F1 al1 mu1 H1) (hT : H1 T = none) (rd : Rep F d x) (ev : v = .ref T) (eH : H2 = upd H1 T (.tup [.int (i : Nat), x])) :
    ∃ F2, Ext F1 al1 H1 F2 al1 H2 ∧ Cels F2 al1 mu1 H2 ∧ Rep F2 (.tup [.int (i : Int), d]) v := by
  subst ev
  subst eH
  have nF := ex_none C.ex hT
  refine ⟨upd F1 T (.tup [.int (i : Nat), x]), Ext.new hT C.ex, C.newF hT, ?_⟩
  exact rv_tup (al := al1) upd_same (.cons (by rw [Rep]) (.cons ((rd.mono e).mono (ex_upd nF)) .nil))
theorem itD_enumL {K : PySem.W.Frag} {F : Hp} {a : Addr} {ds : List D} {vs : List V} (hF : F a = some (.lst vs)) (rl : RepL F ds vs) : ItD F (Ite K a) (enumD 0 ds) := fun F1 al1 mu1 H1 e C i => by
  have hH := C.ex _ _ (e _ _ hF)
  refine ⟨fun d hd => ?_, fun hi => ⟨vs, .inl (.inl hH), by rw [enumD_len] at hi; rw [rl.len]; exact hi⟩⟩
  obtain ⟨d', h1, rfl⟩ := enumD_at hd
  obtain ⟨v, h2, h3⟩ := rl.get h1
  refine ⟨⟨vs, v, .inl (.inl hH), h2⟩, fun x H2 ⟨T, y, ev, hT, eH, hy⟩ => ?_⟩
  have hy := hy vs (.inl (.inl hH))
  rw [h2] at hy
  cases hy
  rw [Nat.zero_add]
  exact itD_new e C hT h3 ev eH
def iEnumL (te : DE) : DI := fun rho mu Q => te rho mu fun x mu1 => match x with
  | .dat (.lst ds) => Q (enumD 0 ds) mu1
  | _ => False
section
variable {X : Cx} {e : Expr} {te : DE} {p pos tpos : Pos} {elts : List Expr} {kk : Nat}
theorem ci_enumL (hm : X.mg "enumerate" = none) (he : CE X e te) (hg : Gl X "enumerate" := by rfl) (hs : starEach [e] X.env = (false, eval e X.env) :: starEach [] X.env := by rfl) : CI X (.Tuple elts kk tpos) (.Call (.Name "enumerate" p) [e] [] pos) (iEnumL te) := by
  obtain ⟨_, pe, g⟩ := he.ok
  refine ⟨_, pi_enum hg hm (pa_cons pe pa_nil hs) hs, fun F al rho mu σ H Q R S q l => g F al rho mu σ H _ _ S q fun F1 al1 x mu1 v H1 e1 C1 r1 q1 => ?_⟩
  cases x with
  | cel k => exact q1.elim
  | dat d =>
    cases d with
    | lst ds =>
      obtain ⟨a, vs, ev, hp, rl⟩ := rv_lst_out r1
      subst ev
      exact ⟨a, vs, rfl, .inl (.inl (C1.ex _ _ hp)), l F1 al1 (enumD 0 ds) mu1 _ H1 e1 C1 (itD_enumL hp rl) q1⟩
    | _ => exact q1.elim
end
end Dx

namespace Dx
open PySem PySem.Spec PyProof.Rows L2
open Evl (Ex)
variable [Tb]

/-! ### rooms parted again and again: plain -/
section
variable {κ : Type} [DecidableEq κ]
theorem nums_get {rows : List κ} {i : Nat} {r : κ} (h : rows[i]? = some r) : (nums rows)[i]? = some (posIn (firsts rows) r) := by
  unfold nums
  rw [List.getElem?_map, h]
  rfl
theorem nums_getD {rows : List κ} {i : Nat} {r : κ} (h : rows[i]? = some r) : (nums rows).getD i 0 = posIn (firsts rows) r := by
  rw [List.getD_eq_getElem?_getD, nums_get h]
  rfl
theorem nums_eq {rows : List κ} {i j : Nat} {r s : κ} (hi : rows[i]? = some r) (hj : rows[j]? = some s) : (nums rows).getD i 0 = (nums rows).getD j 0 ↔ r = s := by
  rw [nums_getD hi, nums_getD hj]
  exact ⟨posIn_inj ((mem_firsts rows).mpr (List.mem_of_getElem? hi)) ((mem_firsts rows).mpr (List.mem_of_getElem? hj)), fun e => by rw [e]⟩
end
def Mach.rowsOf (M : Mach) (sl : List Nat) : List (List Nat) := (List.range M.steps.length).map fun r => sl.getD r 0 :: (M.row r).map fun q => sl.getD q 0
structure Part (M : Mach) (sl : List Nat) : Prop where
  len : sl.length = M.steps.length
  ends : ∀ i j, i < M.steps.length → j < M.steps.length → sl.getD i 0 = sl.getD j 0 → (i ∈ M.ends ↔ j ∈ M.ends)
  sound : ∀ i j, i < M.steps.length → j < M.steps.length → M.same i j → sl.getD i 0 = sl.getD j 0
section
variable {M : Mach} {sl : List Nat}
theorem rowsOf_at {i : Nat} (h : i < M.steps.length) : (M.rowsOf sl)[i]? = some (sl.getD i 0 :: (M.row i).map fun q => sl.getD q 0) := by
  unfold Mach.rowsOf
  rw [List.getElem?_map, List.getElem?_range h]
  rfl
theorem rowsOf_eq {i j : Nat} (hi : i < M.steps.length) (hj : j < M.steps.length) : (nums (M.rowsOf sl)).getD i 0 = (nums (M.rowsOf sl)).getD j 0 ↔ sl.getD i 0 = sl.getD j 0 ∧ ∀ c ∈ M.L, sl.getD (M.stp i c) 0 = sl.getD (M.stp j c) 0 := by
  rw [nums_eq (rowsOf_at hi) (rowsOf_at hj), List.cons.injEq]
  refine and_congr Iff.rfl ?_
  unfold Mach.row
  rw [List.map_map, List.map_map, List.map_inj_left]
  rfl
theorem Part.step (h : Part M sl) (ok : M.Ok) : Part M (nums (M.rowsOf sl)) where
  len := by unfold nums Mach.rowsOf; rw [List.length_map, List.length_map, List.length_range]
  ends := fun i j hi hj e => h.ends i j hi hj ((rowsOf_eq hi hj).mp e).1
  sound := fun i j hi hj hs => (rowsOf_eq hi hj).mpr ⟨h.sound i j hi hj hs, fun c hc => by
    obtain ⟨_, _, _, b1⟩ := ok.stp hi hc
    obtain ⟨_, _, _, b2⟩ := ok.stp hj hc
    exact h.sound _ _ b1 b2 (Mach.same_stp hs hc)⟩
end
end Dx

namespace Dx
open PySem PySem.Spec PyProof.Rows L2
open Evl (Ex)
variable [Tb]
/-! ### least(machine): the program's and the law's -/
/-- [v(x) for x in xs] that changes nothing -/
theorem comp_list {α : Type} {xs : List α} {gd v : α → D} {t : DG} {te : DE} {rho : Rho} {mu : Mu} {Q : List D → Mu → Prop} (hs : xs.length ≤ 1000000)
    (step : ∀ x ∈ xs, ∀ (G : DQ), G (.dat (v x)) mu → t (gd x) rho fun rho' => te rho' mu G)
    (q : Q (xs.map v) mu) : dCompL t dYes te rho Q (xs.map gd) [] mu := by
  refine comp_filt (v := v) (p := fun _ => true) hs (fun x hx G N (g1 : true = true → G (.dat (v x)) mu) g2 => ?_) ?_
  · exact step x hx G (g1 rfl)
  · rw [List.filter_eq_self.mpr (fun _ _ => rfl)]
    exact q
end Dx

namespace Dx
open PySem PySem.Spec PyProof.Rows L2
open Evl (Ex)
variable [Tb]
/-- the search so far: the rooms that stand for the states -/
structure Reps (M : Mach) (s : Nat → Nat) (line : List (List Nat × Nat)) (rs : List Nat) : Prop where
  len : rs.length = line.length
  at' : ∀ (i r : Nat) (p : List Nat × Nat), rs[i]? = some r → line[i]? = some p → s r = p.2 ∧ r < M.steps.length
theorem Reps.few {M : Mach} {s : Nat → Nat} {line : List (List Nat × Nat)} {rs : List Nat} (h : Reps M s line rs) (nd : (line.map (·.2)).Nodup) : rs.length ≤ M.steps.length := by
  have : (rs.map s) = line.map (·.2) := by
    apply List.ext_getElem
    · rw [List.length_map, List.length_map, h.len]
    · intro i h1 h2
      rw [List.length_map] at h1 h2
      rw [List.getElem_map, List.getElem_map]
      exact (h.at' i _ _ (List.getElem?_eq_getElem h1) (List.getElem?_eq_getElem h2)).1
  have nd2 : rs.Nodup := by
    have h2 : List.Pairwise (· ≠ ·) (rs.map s) := by rw [this]; exact nd
    rw [List.pairwise_map] at h2
    exact h2.imp fun {a b} hne e => hne (by rw [e])
  have h3 := nodup_le (m := List.range M.steps.length) nd2 (fun r hr => by
    obtain ⟨i, hi⟩ := List.mem_iff_getElem?.mp hr
    have hil := (List.getElem?_eq_some_iff.mp hi).1
    exact List.mem_range.mpr (h.at' i r _ hi (List.getElem?_eq_getElem (by rw [← h.len]; exact hil))).2)
  rw [List.length_range] at h3
  exact h3
/-- the row of a room, over the states -/
def stRow (M : Mach) (s : Nat → Nat) (line : List (List Nat × Nat)) (r : Nat) : List Nat := M.L.map fun c => posIn (line.map (·.2)) (s (M.stp r c))
theorem stRow_app {M : Mach} {s : Nat → Nat} {line more : List (List Nat × Nat)} {r : Nat} (h : ∀ c ∈ M.L, s (M.stp r c) ∈ line.map (·.2)) : stRow M s (line ++ more) r = stRow M s line r := by
  unfold stRow
  apply List.map_congr_left
  intro c hc
  rw [List.map_append, posIn_app (h c hc)]
/-- the rows found so far -/
def FdOk (M : Mach) (s : Nat → Nat) (line : List (List Nat × Nat)) (rs : List Nat) (fd : List (List Nat)) : Prop := ∀ (i r : Nat), i < fd.length → rs[i]? = some r → fd[i]? = some (stRow M s line r) ∧ ∀ c ∈ M.L, s (M.stp r c) ∈ line.map (·.2)
theorem FdOk.more {M : Mach} {s : Nat → Nat} {line more : List (List Nat × Nat)} {rs more2 : List Nat} {fd : List (List Nat)} (h : FdOk M s line rs fd) (hl : fd.length ≤ rs.length) : FdOk M s (line ++ more) (rs ++ more2) fd := fun i r hi hr => by
  rw [List.getElem?_append_left (by omega)] at hr
  obtain ⟨a, b⟩ := h i r hi hr
  rw [stRow_app b]
  exact ⟨a, fun c hc => by rw [List.map_append]; exact List.mem_append_left _ (b c hc)⟩
theorem FdOk.all {M : Mach} {s : Nat → Nat} {line : List (List Nat × Nat)} {rs : List Nat} {fd : List (List Nat)} (h : FdOk M s line rs fd) (hl : fd.length = rs.length) : fd = rs.map fun r => M.L.map fun c => posIn (line.map (·.2)) (s (M.stp r c)) := by
  apply List.ext_getElem?
  intro i
  by_cases c : i < fd.length
  · have hr : rs[i]? = some (rs[i]'(by omega)) := List.getElem?_eq_getElem (by omega)
    rw [(h i _ c hr).1, List.getElem?_map, hr]
    rfl
  · rw [List.getElem?_eq_none (by omega), List.getElem?_eq_none (by rw [List.length_map]; omega)]
end Dx

namespace Dx
open PySem PySem.Spec PyProof.Rows L2
open Evl (Ex)
variable [Tb]
end Dx

namespace Dx
open PySem PySem.Spec PyProof.Rows L2
open Evl (Ex)
variable [Tb]
/-! #### the contrary of a machine -/
def Mach.other (M : Mach) : Mach := ⟨M.L, M.b, (List.range M.steps.length).filter fun r => !decide (r ∈ M.ends), M.steps⟩
theorem Mach.Ok.other {M : Mach} (h : M.Ok) : M.other.Ok where
  letters := h.letters
  len := h.len
  rooms := h.rooms
  rows := h.rows
  begin := h.begin
  ends := fun e he => List.mem_range.mp (List.mem_filter.mp he).1
  few := by
    have := List.length_filter_le (fun r => !decide (r ∈ M.ends)) (List.range M.steps.length)
    rw [List.length_range] at this
    exact Nat.le_trans this h.rooms.2
  rise := List.Pairwise.filter _ List.pairwise_lt_range
theorem LeastOf.len {L : List Nat} {lang : List Nat → Bool} {R : Mach} (l : LeastOf L lang R) : R.L = L := by
  obtain ⟨ws, f, rfl⟩ := l
  rfl
theorem LeastOf.took {L : List Nat} {lang : List Nat → Bool} {R : Mach} (l : LeastOf L lang R) (nd : L.Nodup) {t : List Nat} (ht : Over L t) : R.takes t = lang t := by
  obtain ⟨ws, f, rfl⟩ := l
  exact f.takes nd ht
theorem LeastOf.ok {L : List Nat} {lang : List Nat → Bool} {R : Mach} (l : LeastOf L lang R) (hl : IsLetters L) (ll : 0 < L.length ∧ L.length ≤ 26) (few : R.steps.length ≤ 10000) : R.Ok := by
  obtain ⟨ws, f, rfl⟩ := l
  refine f.ok hl ll ?_
  unfold machOf at few
  rwa [List.length_map] at few
end Dx

namespace Dx
open PySem PySem.Spec PyProof.Rows L2
open Evl (Ex)
variable [Tb]
def Mach.from (M : Mach) (r : Nat) : Mach := ⟨M.L, r, M.ends, M.steps⟩
theorem Mach.Ok.from {M : Mach} (h : M.Ok) {r : Nat} (hr : r < M.steps.length) : (M.from r).Ok where
  letters := h.letters
  len := h.len
  rooms := h.rooms
  rows := h.rows
  begin := hr
  ends := h.ends
  few := h.few
  rise := h.rise
def Mach.upto (M : Mach) (w : List Nat) : Mach := ⟨M.L, M.b, (List.range M.steps.length).filter fun r => decide (M.go r w ∈ M.ends), M.steps⟩
theorem Mach.Ok.upto {M : Mach} (h : M.Ok) (w : List Nat) : (M.upto w).Ok where
  letters := h.letters
  len := h.len
  rooms := h.rooms
  rows := h.rows
  begin := h.begin
  ends := fun e he => List.mem_range.mp (List.mem_filter.mp he).1
  few := by
    have := List.length_filter_le (fun r => decide (M.go r w ∈ M.ends)) (List.range M.steps.length)
    rw [List.length_range] at this
    exact Nat.le_trans this h.rooms.2
  rise := List.Pairwise.filter _ List.pairwise_lt_range
end Dx

namespace Dx
open PySem PySem.Spec PyProof.Rows L2
open Evl (Ex)
variable [Tb]
end Dx

namespace Dx
open PySem PySem.Spec PyProof.Rows L2
open Evl (Ex)
variable [Tb]
section
variable {X : Cx} {k v k' v' : Expr} {tk tv tk2 tv2 : DE} {pos : Pos}
end
/-! #### None looked for in a dict whose keys are tuples -/
section
variable {prog : Program} {w : World} {A : Around} {E : Value → Shared → Prop} {s : Shared} {d : Addr} {o : Obj} {es : Array DictEntry} {ep : Nat}
end
section
variable {X : Cx} {pins : List (Addr × Obj)} {σ : L2.St} {H : Hp} {s : Shared} {a : Addr} {A : Around} {E : Value → Shared → Prop}
end
end Dx

namespace Dx
open PySem PySem.Spec PyProof.Rows L2
open Evl (Ex)
variable [Tb]
/-! #### classes of texts -/
def ClassStep (ws : List (List Nat)) (c k : Nat) (ys : List (List Nat)) : Prop := OrdW ys ∧ ys.Nodup ∧ ∀ w, w ∈ ys ↔ w ∈ ws ∨ ∃ v, v ∈ ws ∧ v.length < k ∧ w = v ++ [c]
theorem ClassStep.uniq {ws : List (List Nat)} {c k : Nat} {ys zs : List (List Nat)} (a : ClassStep ws c k ys) (b : ClassStep ws c k zs) : ys = zs :=
  ordW_uniq a.1 b.1 ((List.perm_ext_iff_of_nodup a.2.1 b.2.1).mpr fun w => (a.2.2 w).trans (b.2.2 w).symm)
open Classical in
noncomputable def stepC (k : Nat) (ws : List (List Nat)) (c : Nat) : Option (List (List Nat)) := if h : ∃ ys, ClassStep ws c k ys then some h.choose else none
theorem stepC_of {ws : List (List Nat)} {c k : Nat} {ys : List (List Nat)} (h : ClassStep ws c k ys) : stepC k ws c = some ys := by
  have h' : ∃ ys, ClassStep ws c k ys := ⟨ys, h⟩
  unfold stepC
  rw [dif_pos h']
  exact congrArg some (ClassStep.uniq h'.choose_spec h)
theorem stepC_out {ws : List (List Nat)} {c k : Nat} {ys : List (List Nat)} (h : stepC k ws c = some ys) : ClassStep ws c k ys := by
  unfold stepC at h
  split at h
  · rename_i h'
    have e := Option.some.inj h
    rw [← e]
    exact h'.choose_spec
  · cases h
noncomputable def clsA (k : Nat) : Aut (List (List Nat)) := ⟨[[]], stepC k⟩
theorem cls_words {k : Nat} (t : List Nat) : ∀ {s : List (List Nat)}, (clsA k).run t = some s → WordsOf t k s := by
  refine snoc_ind (P := fun t => ∀ {s : List (List Nat)}, (clsA k).run t = some s → WordsOf t k s) ?_ ?_ t
  · intro s h
    have e : [[]] = s := Option.some.inj h
    subst e
    refine ⟨List.pairwise_singleton .., by simp, fun w => ?_⟩
    rw [List.mem_singleton, List.sublist_nil]
    exact ⟨fun e => ⟨e, by rw [e]; exact Nat.zero_le _⟩, fun h => h.1⟩
  · intro x e ih s h
    rw [Aut.run_snoc] at h
    cases hx : (clsA k).run x with
    | none => rw [hx] at h; cases h
    | some s' =>
      rw [hx] at h
      obtain ⟨a, b, c⟩ := stepC_out (show stepC k s' e = some s from h)
      obtain ⟨_, _, mem⟩ := ih hx
      refine ⟨a, b, fun w => ?_⟩
      rw [c w, sub_snoc]
      refine ⟨fun h => ?_, fun ⟨h1, h2⟩ => ?_⟩
      · rcases h with z | ⟨v, z1, z2, z3⟩
        · have := (mem w).mp z
          exact ⟨.inl this.1, this.2⟩
        · have := (mem v).mp z1
          exact ⟨.inr ⟨v, this.1, z3⟩, by rw [z3, List.length_append, List.length_singleton]; omega⟩
      · rcases h1 with z | ⟨v, z1, z3⟩
        · exact .inl ((mem w).mpr ⟨z, h2⟩)
        · rw [z3, List.length_append, List.length_singleton] at h2
          exact .inr ⟨v, (mem v).mpr ⟨z1, by omega⟩, by omega, z3⟩
/-! #### how many classes there are at most -/
def bools : Nat → List (List Bool)
  | 0 => [[]]
  | n + 1 => (bools n).map (true :: ·) ++ (bools n).map (false :: ·)
theorem bools_len : ∀ n, (bools n).length = 2 ^ n
  | 0 => rfl
  | n + 1 => by
    unfold bools
    rw [List.length_append, List.length_map, List.length_map, bools_len n, Nat.pow_succ]
    omega
theorem mem_bools : ∀ (bs : List Bool), bs ∈ bools bs.length
  | [] => by simp [bools]
  | b :: bs => by
    have ih := mem_bools bs
    show b :: bs ∈ (bools bs.length).map (true :: ·) ++ (bools bs.length).map (false :: ·)
    rw [List.mem_append]
    cases b
    · exact .inr (List.mem_map.mpr ⟨_, ih, rfl⟩)
    · exact .inl (List.mem_map.mpr ⟨_, ih, rfl⟩)
theorem few_classes {base : List (List Nat)} {ss : List (List (List Nat))} (nd : ss.Nodup) (hs : ∀ s ∈ ss, OrdW s ∧ s.Nodup ∧ ∀ w ∈ s, w ∈ base) : ss.length ≤ 2 ^ base.length := by
  have nd2 : (ss.map fun s => base.map fun w => decide (w ∈ s)).Nodup := by
    show List.Pairwise (· ≠ ·) _
    rw [List.pairwise_map]
    refine List.Pairwise.imp_of_mem (fun {a b} ha hb hne e => hne ?_) nd
    obtain ⟨a1, a2, a3⟩ := hs a ha
    obtain ⟨b1, b2, b3⟩ := hs b hb
    have key : ∀ w ∈ base, decide (w ∈ a) = decide (w ∈ b) := fun w hw => by
      have := List.map_inj_left.mp e
      exact this w hw
    refine ordW_uniq a1 b1 ((List.perm_ext_iff_of_nodup a2 b2).mpr fun w => ⟨fun h => ?_, fun h => ?_⟩)
    · exact of_decide_eq_true ((key w (a3 w h)).symm.trans (decide_eq_true h))
    · exact of_decide_eq_true ((key w (b3 w h)).trans (decide_eq_true h))
  have h := nd2.length_le_of_subset (l₂ := bools base.length) fun bs hb => by
    obtain ⟨s, _, rfl⟩ := List.mem_map.mp hb
    have := mem_bools (base.map fun w => decide (w ∈ s))
    rwa [List.length_map] at this
  rw [List.length_map, bools_len] at h
  exact h
theorem Bfs.few {k : Nat} {L : List Nat} {line : List (List Nat × List (List Nat))} {at' j : Nat} (B : Bfs (clsA k) L line at' j) (h : (allW L k).length ≤ 15) : line.length ≤ 32768 := by
  have h1 := few_classes (base := allW L k) B.nd (fun s hs => by
    obtain ⟨p, hp, rfl⟩ := List.mem_map.mp hs
    obtain ⟨r1, r2⟩ := B.run p hp
    obtain ⟨a, b, c⟩ := cls_words _ r1
    exact ⟨a, b, fun w hw => mem_allW.mpr ⟨((c w).mp hw).2, fun d hd => r2 d (((c w).mp hw).1.subset hd)⟩⟩)
  rw [List.length_map] at h1
  have h2 : 2 ^ (allW L k).length ≤ 2 ^ 15 := Nat.pow_le_pow_right (by omega) h
  have h3 : (2 : Nat) ^ 15 = 32768 := by decide
  omega
end Dx

namespace Dx
open PySem PySem.Spec PyProof.Rows L2
open Evl (Ex)
variable [Tb]
/-! #### the first texts of all classes -/
def fl (line : List (List Nat × List (List Nat))) : List (List (List Nat) × List Nat) := line.map fun p => (p.2, p.1)
end Dx

namespace Dx
open PySem PySem.Spec PyProof.Rows L2
open Evl (Ex)
variable [Tb]
end Dx

namespace Dx
open PySem PySem.Spec PyProof.Rows L2
open Evl (Ex)
variable [Tb]
section
variable {X : Cx} {pins : List (Addr × Obj)} {σ : L2.St} {H : Hp} {s : Shared}
end
section
variable {X : Cx} {e : Expr} {te : DE} {x : Str} {ps : List Str} {k : Nat} {pos p p2 p3 ap cp : Pos}
end

end Dx

namespace Dx
open PySem PySem.Spec PyProof.Rows L2
open Evl (Ex)
variable [Tb]
end Dx

namespace Dx
open PySem PySem.Spec PyProof.Rows L2
open Evl (Ex)
variable [Tb]
/-! #### t > u (a number, a text each), x in a list of any data -/
theorem hu65 {k : Nat} {A : Around} (r : Room k A) : A.units + 65 < cLine := by
  have := r.un
  omega
section
variable {X : Cx}
end

end Dx

namespace Dx
open PySem PySem.Spec PyProof.Rows L2
open Evl (Ex)
variable [Tb]
end Dx

namespace Dx
open PySem PySem.Spec PyProof.Rows L2
open Evl (Ex)
variable [Tb]
/-! #### arches, told exactly -/
/-- how many letters' words all lie spread: `uni`; a word of one letter more that does not: `lack` -/
structure ArchN (L t : List Nat) (n : Nat) : Prop where
  uni : ∀ w : List Nat, (∀ c ∈ w, c ∈ L) → w.length ≤ n → w.Sublist t
  lack : ∃ w : List Nat, (∀ c ∈ w, c ∈ L) ∧ w.length = n + 1 ∧ ¬ w.Sublist t
theorem ArchN.uniq {L t : List Nat} {m n : Nat} (h : ArchN L t m) (h' : ArchN L t n) : m = n := by
  have key : ∀ {m n : Nat}, ArchN L t m → ArchN L t n → ¬ m < n := fun {m n} h h' hl => by
    obtain ⟨w, w1, w2, w3⟩ := h.lack
    exact w3 (h'.uni w w1 (by omega))
  have := key h h'
  have := key h' h
  omega
theorem take_sub {t : List Nat} {a b : Nat} (h : a ≤ b) : (t.take a).Sublist (t.take b) := by
  have e : t.take a = (t.take b).take a := by rw [List.take_take, Nat.min_eq_left h]
  rw [e]
  exact List.take_sublist _ _
/-- a word and a letter behind it, in the first places of a text -/
theorem sub_take_snoc {u t : List Nat} {c b : Nat} (h : (u ++ [c]).Sublist (t.take b)) : ∃ i, i < b ∧ t[i]? = some c ∧ u.Sublist (t.take i) := by
  induction b with
  | zero =>
    rw [List.take_zero, List.sublist_nil] at h
    simp at h
  | succ b ih =>
    cases hb : t[b]? with
    | none =>
      have e : t.take (b + 1) = t.take b := by
        rw [List.take_add_one, hb]
        simp
      rw [e] at h
      obtain ⟨i, h1, h2, h3⟩ := ih h
      exact ⟨i, by omega, h2, h3⟩
    | some d =>
      have e : t.take (b + 1) = t.take b ++ [d] := by rw [List.take_add_one, hb]; rfl
      rw [e, sub_snoc] at h
      rcases h with h | ⟨v, h1, h2⟩
      · obtain ⟨i, h1, h2, h3⟩ := ih h
        exact ⟨i, by omega, h2, h3⟩
      · obtain ⟨e1, e2⟩ := snoc_inj h2
        subst e1
        subst e2
        exact ⟨b, by omega, hb, h1⟩
/-- where an arch ends -/
def EndsAt (L t : List Nat) (a e : Nat) : Prop := a < e ∧ e ≤ t.length ∧ (∀ c ∈ L, ∃ i, a ≤ i ∧ i < e ∧ t[i]? = some c) ∧ ∃ c ∈ L, ∀ i, a ≤ i → i + 1 < e → t[i]? ≠ some c
def EndsNot (L t : List Nat) (a : Nat) : Prop := ∃ c ∈ L, ∀ i, a ≤ i → t[i]? ≠ some c
/-- so many arches end at a place -/
structure ArchTo (L t : List Nat) (n a : Nat) : Prop where
  uni : ∀ w : List Nat, (∀ c ∈ w, c ∈ L) → w.length ≤ n → w.Sublist (t.take a)
  last : ∃ u : List Nat, (∀ c ∈ u, c ∈ L) ∧ u.length = n ∧ ∀ b, u.Sublist (t.take b) → a ≤ b
theorem ArchTo.start (L t : List Nat) : ArchTo L t 0 0 where
  uni := fun w _ hw => by
    rw [List.length_eq_zero_iff.mp (Nat.le_zero.mp hw)]
    exact List.nil_sublist _
  last := ⟨[], by simp, rfl, fun b _ => Nat.zero_le b⟩
theorem ArchTo.next {L t : List Nat} {n a e : Nat} (h : ArchTo L t n a) (he : EndsAt L t a e) : ArchTo L t (n + 1) e where
  uni := fun w hw hl => by
    obtain ⟨e1, e2, e3, e4⟩ := he
    rcases List.eq_nil_or_concat w with z | ⟨v, c, z⟩
    · subst z
      exact List.nil_sublist _
    · rw [List.concat_eq_append] at z
      subst z
      rw [List.length_append, List.length_singleton] at hl
      have hv := h.uni v (fun c hc => hw c (List.mem_append_left _ hc)) (by omega)
      obtain ⟨i, i1, i2, i3⟩ := e3 c (hw c (by simp))
      have h1 : (v ++ [c]).Sublist (t.take (i + 1)) := by
        rw [List.take_add_one, i3]
        exact (hv.trans (take_sub i1)).append (List.Sublist.refl _)
      exact h1.trans (take_sub (by omega))
  last := by
    obtain ⟨e1, e2, e3, c, hc, e4⟩ := he
    obtain ⟨u, u1, u2, u3⟩ := h.last
    refine ⟨u ++ [c], fun d hd => ?_, by rw [List.length_append, u2]; rfl, fun b hb => ?_⟩
    · rcases List.mem_append.mp hd with z | z
      · exact u1 d z
      · rw [List.mem_singleton] at z
        rw [z]
        exact hc
    · obtain ⟨i, h1, h2, h3⟩ := sub_take_snoc hb
      have := u3 i h3
      by_cases z : i + 1 < e
      · exact absurd h2 (e4 i this z)
      · omega
theorem ArchTo.fin {L t : List Nat} {n a : Nat} (h : ArchTo L t n a) (he : EndsNot L t a) : ArchN L t n where
  uni := fun w hw hl => (h.uni w hw hl).trans (List.take_sublist _ _)
  lack := by
    obtain ⟨c, hc, e4⟩ := he
    obtain ⟨u, u1, u2, u3⟩ := h.last
    refine ⟨u ++ [c], fun d hd => ?_, by rw [List.length_append, u2]; rfl, fun hs => ?_⟩
    · rcases List.mem_append.mp hd with z | z
      · exact u1 d z
      · rw [List.mem_singleton] at z
        rw [z]
        exact hc
    · rw [← List.take_length (l := t)] at hs
      obtain ⟨i, h1, h2, h3⟩ := sub_take_snoc hs
      exact e4 i (u3 i h3) h2
end Dx

namespace Dx
open PySem PySem.Spec PyProof.Rows L2
open Evl (Ex)
variable [Tb]
/-! #### min(i, j) -/
def dMin2 : DCall := fun xs mu Q => match xs with
  | [.dat (.int i), .dat (.int j)] => Q (.dat (.int (if j < i then j else i))) mu
  | _ => False
section
variable {X : Cx}
theorem cMin2 (hc : X.calm = true) : CallD X (.builtin "min") dMin2 := ⟨_, call_min2 hc, fun F al mu H xs vs Q R c r q l => by
  unfold dMin2 at q
  split at q
  · rename_i i j
    cases r with
    | cons r1 r =>
      cases r with
      | cons r2 r =>
        cases r
        have e1 := rv_int_out r1
        have e2 := rv_int_out r2
        subst e1
        subst e2
        exact ⟨i, j, rfl, l F al _ mu _ H Ext.refl c rv_int q⟩
  · exact q.elim⟩
end
theorem b_min : bootBuiltins "min" = some (.builtin "min") := by decide +kernel
/-! #### the first word that does not lie spread -/
/-- the first word of all, in order, that does not lie spread in a text -/
structure AbsentW (L t w : List Nat) : Prop where
  over : ∀ c ∈ w, c ∈ L
  out : ¬ w.Sublist t
  first : ∀ v : List Nat, (∀ c ∈ v, c ∈ L) → ltW v w = true → v.Sublist t
/-- a word so far: all lesser ones, gone on, lie spread; it, gone on, lies so just where the rest lies behind a place -/
structure AbsTo (L t : List Nat) (m j : Nat) (w : List Nat) (a : Nat) : Prop where
  over : ∀ c ∈ w, c ∈ L
  len : w.length = j
  less : ∀ v : List Nat, v.length = j → (∀ c ∈ v, c ∈ L) → ltW v w = true → ∀ x : List Nat, (∀ c ∈ x, c ∈ L) → j + x.length ≤ m → (v ++ x).Sublist t
  on : ∀ x : List Nat, (w ++ x).Sublist t ↔ x.Sublist (t.drop a)
  le : a ≤ t.length
  rest : ArchN L (t.drop a) (m - j - 1)
theorem AbsTo.start {L t : List Nat} {n : Nat} (h : ArchN L t n) : AbsTo L t (n + 1) 0 [] 0 where
  over := by simp
  len := rfl
  less := fun v hv _ hl => by
    rw [List.length_eq_zero_iff.mp hv, ltW_irr] at hl
    cases hl
  on := fun x => by rw [List.nil_append, List.drop_zero]
  le := Nat.zero_le _
  rest := by rw [List.drop_zero]; exact h
/-- a letter ahead of a word, behind a place -/
theorem cons_drop {t x : List Nat} {a c : Nat} : (c :: x).Sublist (t.drop a) ↔ ∃ i, a ≤ i ∧ t[i]? = some c ∧ x.Sublist (t.drop (i + 1)) := by
  generalize hn : t.length - a = n
  induction n generalizing a with
  | zero =>
    rw [List.drop_eq_nil_of_le (by omega), List.sublist_nil]
    constructor
    · intro h
      cases h
    · rintro ⟨i, h1, h2, _⟩
      have := (List.getElem?_eq_some_iff.mp h2).1
      omega
  | succ n ih =>
    have hl : a < t.length := by omega
    rw [List.drop_eq_getElem_cons hl]
    constructor
    · intro h
      cases h with
      | cons _ h =>
        obtain ⟨i, h1, h2, h3⟩ := (ih (a := a + 1) (by omega)).mp h
        exact ⟨i, by omega, h2, h3⟩
      | cons_cons _ h => exact ⟨a, Nat.le_refl _, List.getElem?_eq_getElem hl, h⟩
    · rintro ⟨i, h1, h2, h3⟩
      by_cases z : i = a
      · subst z
        rw [List.getElem?_eq_getElem hl] at h2
        cases h2
        exact h3.cons_cons _
      · exact ((ih (a := a + 1) (by omega)).mpr ⟨i, by omega, h2, h3⟩).cons _
theorem drop_sub {t : List Nat} {a b : Nat} (h : a ≤ b) : (t.drop b).Sublist (t.drop a) := by
  have e : t.drop b = (t.drop a).drop (b - a) := by
    rw [List.drop_drop]
    congr 1
    omega
  rw [e]
  exact List.drop_sublist _ _
/-- by the first such letter -/
theorem cons_first {t x : List Nat} {a c i : Nat} (h : findFrom t c a = some i) : (c :: x).Sublist (t.drop a) ↔ x.Sublist (t.drop (i + 1)) := by
  obtain ⟨f1, f2, f3, f4⟩ := find_some h
  rw [cons_drop]
  constructor
  · rintro ⟨k, h1, h2, h3⟩
    have : i ≤ k := by
      by_cases z : i ≤ k
      · exact z
      · exact absurd h2 (f4 k h1 (by omega))
    exact h3.trans (drop_sub (by omega))
  · intro h3
    exact ⟨i, f1, f3, h3⟩
theorem cons_never {t x : List Nat} {a c : Nat} (h : findFrom t c a = none) : ¬ (c :: x).Sublist (t.drop a) := fun z => by
  obtain ⟨i, h1, h2, _⟩ := cons_drop.mp z
  exact find_none h i h1 h2
/-- the next letter: the first that lacks -/
theorem AbsTo.next {L t : List Nat} {m j : Nat} {w : List Nat} {a c : Nat} (h : AbsTo L t m j w a) (hj : j < m) (hc : c ∈ L) {i n : Nat} (hf : findFrom t c a = some i) (hn : ArchN L (t.drop (i + 1)) n) (hlk : n + 1 < m - j)
    (hless : ∀ d ∈ L, d < c → ∀ x : List Nat, (∀ e ∈ x, e ∈ L) → j + 1 + x.length ≤ m → (w ++ [d] ++ x).Sublist t) : AbsTo L t m (j + 1) (w ++ [c]) (i + 1) where
  over := fun d hd => by
    rcases List.mem_append.mp hd with z | z
    · exact h.over d z
    · rw [List.mem_singleton] at z
      rw [z]
      exact hc
  len := by rw [List.length_append, h.len]; rfl
  less := fun v hv vc hl x hx hxl => by
    rcases List.eq_nil_or_concat v with z | ⟨v', d, z⟩
    · subst z
      simp at hv
    · rw [List.concat_eq_append] at z
      subst z
      have v'l : v'.length = j := by rw [List.length_append, List.length_singleton] at hv; omega
      have v'c : ∀ e ∈ v', e ∈ L := fun e he => vc e (List.mem_append_left _ he)
      have hd : d ∈ L := vc d (by simp)
      rcases ltW_snoc.mp hl with z | ⟨z1, z2⟩
      · rw [List.append_assoc]
        refine h.less v' v'l v'c z ([d] ++ x) (fun e he => ?_) (by rw [List.length_append, List.length_singleton]; omega)
        rcases List.mem_append.mp he with z | z
        · rw [List.mem_singleton] at z
          rw [z]
          exact hd
        · exact hx e z
      · subst z1
        exact hless d hd z2 x hx hxl
  on := fun x => by
    rw [List.append_assoc, h.on]
    exact cons_first hf
  le := by
    have := (find_some hf).2.1
    omega
  rest := by
    have e : n = m - (j + 1) - 1 := by
      have h1 : ¬ n < m - j - 2 := fun z => by
        obtain ⟨y, y1, y2, y3⟩ := hn.lack
        refine y3 ((cons_first hf).mp (h.rest.uni (c :: y) (fun d hd => ?_) (by rw [List.length_cons, y2]; omega)))
        rcases List.mem_cons.mp hd with z | z
        · rw [z]; exact hc
        · exact y1 d z
      omega
    rw [← e]
    exact hn
/-- the last letter: one that does not come -/
theorem AbsTo.fin {L t : List Nat} {m j : Nat} {w : List Nat} {a c : Nat} (hu : ArchN L t (m - 1)) (h : AbsTo L t m j w a) (hj : j + 1 = m) (hc : c ∈ L) (hf : findFrom t c a = none)
    (hless : ∀ d ∈ L, d < c → ∀ x : List Nat, (∀ e ∈ x, e ∈ L) → j + 1 + x.length ≤ m → (w ++ [d] ++ x).Sublist t) : AbsentW L t (w ++ [c]) where
  over := fun d hd => by
    rcases List.mem_append.mp hd with z | z
    · exact h.over d z
    · rw [List.mem_singleton] at z
      rw [z]
      exact hc
  out := fun z => cons_never hf ((h.on [c]).mp z)
  first := fun v vc hl => by
    rcases List.eq_nil_or_concat v with z | ⟨v', d, z⟩
    · subst z
      exact List.nil_sublist _
    · rw [List.concat_eq_append] at z
      subst z
      have wl : (w ++ [c]).length = m := by rw [List.length_append, h.len, List.length_singleton]; omega
      by_cases hlen : (v' ++ [d]).length < m
      · exact hu.uni _ vc (by omega)
      · have hvl : (v' ++ [d]).length = m := by
          rcases ltW_iff.mp hl with z | ⟨z, _⟩ <;> omega
        have v'l : v'.length = j := by rw [List.length_append, List.length_singleton] at hvl; omega
        rcases ltW_snoc.mp hl with z | ⟨z1, z2⟩
        · exact h.less v' v'l (fun e he => vc e (List.mem_append_left _ he)) z [d] (fun e he => vc e (List.mem_append_right _ he)) (by rw [List.length_singleton]; omega)
        · subst z1
          have := hless d (vc d (by simp)) z2 [] (by simp) (by simp; omega)
          rwa [List.append_nil] at this
end Dx

namespace Dx
open PySem PySem.Spec PyProof.Rows L2
open Evl (Ex)
variable [Tb]
end Dx

namespace Dx
open PySem PySem.Spec PyProof.Rows L2
open Evl (Ex)
variable [Tb]
section
variable {X : Cx}
end
end Dx

namespace Dx
open PySem PySem.Spec PyProof.Rows PyProof.Rows.G L2
open Evl (Ex)
variable [Tb]
/-! ### sorted(texts, key=lambda a: (len(a), a)) -/
section
variable {X : Cx} {pins : List (Addr × Obj)} {σ : L2.St} {H : Hp} {s : Shared}
end
section
variable {X : Cx} {pins : List (Addr × Obj)} {σ : L2.St}
end
section
variable {X : Cx} {e : Expr} {te : DE} {a : Str} {k n : Nat} {pos p p1 p2 p3 p4 p5 lpos kp : Pos} {params : Arguments} {scope : Scope} {c P : Addr}
end
/-! ### a def that makes lambdas: its code object is known -/
structure FunC (K : PySem.W.Frag) (x qual : Str) (st : Stmt) (f : Addr) (fd : FuncData) (c : Addr) : Prop where
  ex : ∃ (oc : Value) (od : Option Addr) (dV kV doc pm : Value) (an : Option Addr) (ct : Value) (osl : Array (Option Value)),
    fd = PySem.W.fnOf x qual (defArgs st) (defBody st) (defScope st) dV kV doc pm an (.ref c) ct ∧ K.lookup f = some ⟨oc, od, .func fd, osl⟩ ∧ PySem.W.codeIn K (.ref c) qual = true
theorem dfnC {P : Program} {w : World} {K : PySem.W.Frag} {mg : Str → Option Value} {base : Heap} {x qual : Str} {st : Stmt} {f c : Addr} {fd : FuncData} {N ps : List Str} {k : Nat} {S : FS} (F : FunC K x qual st f fd c) (sc : FnScope N ps (defScope st))
    (len : ∀ xs mu Q, S xs mu Q → xs.length = ps.length)
    (body : ∀ (A : Around) (outer : List Env) (s : Shared) (H : Hp) (E : XK), Room k (A.deeper (envOfC qual (defScope st) s.heap.objs.size f (.ref c))) →
      ∃ t, CSs (cxOf CX0 P w K mg base N qual (defScope st) f (.ref c) A outer s H E).nox (defBody st) t ∧ ∀ xs mu Q, S xs mu Q → t { nx := fun _ mu' => retQ mu.length Q (.dv (.dat .non)) mu', rt := retQ mu.length Q } (startD N xs) mu) :
    FnOk P w K mg base CX0 (k + 1) f fd ps (spOf S) := by
  obtain ⟨oc, od, dV, kV, doc, pm, an, ct, osl, rfl, lk, hcd⟩ := F.ex
  refine fn_of lk hcd sc (fun vs H Q E h => ?_) fun A outer s H vs Q E hr h => ?_
  · obtain ⟨F0, al, xs, mu, Qd, C, r, q, _⟩ := h
    rw [r.len]
    exact len _ _ _ q
  · obtain ⟨F0, al, xs, mu, Qd, C, r, q, l⟩ := h
    obtain ⟨t, hc, hq⟩ := body A outer s H E hr
    obtain ⟨ts, hp, g⟩ := hc.ok
    refine ⟨ts, hp.nox, g F0 al (startD N xs) mu (L2.start N vs) H _ _ (sim_start C r) (hq xs mu Qd q) ?_⟩
    have rt : ∀ F' al' mu' rv v H', Ext F0 al H F' al' H' → Cels F' al' mu' H' → RetV F' al' H' rv v → Fresh H rv v → retQ mu.length Qd rv mu' → Q v H' := fun F' al' mu' rv v H' E' C' rr fr q' => by
      obtain ⟨C2, E2⟩ := C'.cutTo E'
      rw [C.len] at C2
      cases rv with
      | dv x =>
        cases x with
        | dat d => exact l F' _ (.dv (.dat d)) v H' E2 C2 rr fr q'
        | cel j =>
          obtain ⟨a, ha, ev⟩ := rr
          have q2 : (match mu'[j]? with
            | some m => mu.length ≤ j ∧ isDead m = false ∧ Qd (.new m) (mu'.take mu.length)
            | none => False) := q'
          cases hm : mu'[j]? with
          | none =>
            rw [hm] at q2
            exact q2.elim
          | some m =>
            rw [hm] at q2
            obtain ⟨hj, dd, q2⟩ := q2
            have na : a ∉ al := fun z => by
              obtain ⟨i, hi, ei⟩ := List.getElem_of_mem z
              obtain ⟨t, et⟩ := E'.pf
              have e1 : al'[i]? = some a := by
                rw [← et, List.getElem?_append_left hi, List.getElem?_eq_getElem hi, ei]
              have e2 := List.getElem?_eq_some_iff.mp e1
              have e3 := List.getElem?_eq_some_iff.mp ha
              have e4 := (List.getElem_inj C'.nd).mp (e2.2.trans e3.2.symm)
              have := C.len
              omega
            refine l F' _ (.new m) v H' E2 C2 ⟨a, ev, na, dd, C'.cel j a m ha hm⟩ (fun p ep => ?_) q2
            rw [ev] at ep
            cases ep
            rcases E'.nc a (List.mem_of_getElem? ha) with z | z
            · exact absurd z na
            · exact z
      | new m =>
        obtain ⟨p, ev, na, dd, ok⟩ := rr
        exact l F' _ (.new m) v H' E2 C2 ⟨p, ev, fun z => na (E'.pf.subset z), dd, ok⟩ fr q'
    exact ⟨fun F' al' rho' mu' σ' H' E' S' q' => rt F' al' mu' (.dv (.dat .non)) .non H' E' S'.toCels (rv_non (F := F') (al := al')) trivial q', rt, fun _ _ _ _ _ _ _ _ z => z.elim, fun _ _ _ _ _ _ _ _ z => z.elim⟩
structure DfC (K : PySem.W.Frag) (mg : Str → Option Value) (x : Str) (st : Stmt) (ps : List Str) (c : Addr) : Prop where
  ok : ∃ f fd, FunC K x x st f fd c ∧ mg x = some (.ref f) ∧ Binds K fd ps [] ∧ PySem.W.keepIn K (.ref f) = true
theorem DfC.cal {P : Program} {w : World} {K : PySem.W.Frag} {mg : Str → Option Value} {base : Heap} {x : Str} {st : Stmt} {N ps : List Str} {S : FS} {t : DS} {c : Addr} (k : Nat) (D : DfC K mg x st ps c) (sc : FnScope N ps (defScope st))
    (len : ∀ xs mu Q, S xs mu Q → xs.length = ps.length) (rd : Body t N S)
    (body : ∀ (f : Addr) (A : Around) (outer : List Env) (s : Shared) (H : Hp) (E : XK), Room k (A.deeper (envOfC x (defScope st) s.heap.objs.size f (.ref c))) →
      CSs (cxOf CX0 P w K mg base N x (defScope st) f (.ref c) A outer s H E).nox (defBody st) t) : Cal P w K mg base (k + 1) x ps S := by
  obtain ⟨f, fd, F, m, b, kp⟩ := D.ok
  exact ⟨f, fd, dfnC F sc len fun A outer s H E hr => ⟨t, body f A outer s H E hr, rd⟩, m, kp, b⟩
section
variable {X : Cx} {e : Expr} {te : DE} {a x : Str} {k n : Nat} {pos p p1 p2 p3 p4 p5 lpos kp : Pos} {params : Arguments} {scope : Scope} {c P : Addr}
end
end Dx

namespace Dx
open PySem PySem.Spec PyProof.Rows L2
open Evl (Ex)
variable [Tb]
/-! ### the parts of a wish, its words -/
def sizes (ws : List Wish) : Nat := (ws.map Wish.size).sum
/-- the words of a wish, in order, each once -/
structure WordsIn (W : Wish) (ws : List (List Nat)) : Prop where
  ord : OrdW ws
  nd : ws.Nodup
  mem : ∀ w, w ∈ ws ↔ w ∈ W.words
theorem WordsIn.uniq {W : Wish} {a b : List (List Nat)} (h : WordsIn W a) (g : WordsIn W b) : a = b :=
  ordW_uniq h.ord g.ord ((List.perm_ext_iff_of_nodup h.nd g.nd).mpr fun w => (h.mem w).trans (g.mem w).symm)
theorem nodup_map {α β : Type} {f : α → β} : ∀ {l : List α}, l.Nodup → (∀ a ∈ l, ∀ b ∈ l, f a = f b → a = b) → (l.map f).Nodup
  | [], _, _ => List.nodup_nil
  | a :: l, nd, h => by
    have nd := List.nodup_cons.mp nd
    rw [List.map_cons, List.nodup_cons]
    refine ⟨fun hm => ?_, nodup_map nd.2 fun x hx y hy => h x (List.mem_cons_of_mem _ hx) y (List.mem_cons_of_mem _ hy)⟩
    obtain ⟨b, hb, e⟩ := List.mem_map.mp hm
    have := h b (List.mem_cons_of_mem _ hb) a (List.mem_cons_self ..) e
    subst this
    exact nd.1 hb
theorem sub_le {α : Type} [DecidableEq α] : ∀ {l m : List α}, l.Nodup → l.Subset m → l.length ≤ m.length
  | [], m, _, _ => Nat.zero_le _
  | a :: l, m, nd, h => by
    have nd := List.nodup_cons.mp nd
    have h1 : l.Subset (m.erase a) := fun x hx => (List.mem_erase_of_ne (fun z => nd.1 (by rw [← z]; exact hx))).mpr (h (List.mem_cons_of_mem _ hx))
    have h2 := sub_le nd.2 h1
    have h3 : a ∈ m := h (List.mem_cons_self ..)
    rw [List.length_erase_of_mem h3] at h2
    have := List.length_pos_of_mem h3
    rw [List.length_cons]
    omega
/-! ### a wish by its parts -/
theorem atI_head {α : Type} (a : α) (l : List α) : L2.atI (a :: l) 0 = some a := atI_of (Int.le_refl 0) rfl
theorem cut_tail {α : Type} (a : α) (l : List α) : cut (a :: l) (some 1) none = l := by
  have e : HT.sIx (a :: l).length 0 (some 1) = 1 := by
    rw [show (1 : Int) = ((1 : Nat) : Int) from rfl, HT.sIx_nat, List.length_cons]
    omega
  unfold cut
  rw [e, HT.sIx_none, List.drop_one, List.tail_cons, List.length_cons, List.take_of_length_le (by omega)]
end Dx

namespace Dx
open PySem PySem.Spec PyProof.Rows L2
open Evl (Ex)
variable [Tb]
/-! ### a list of lists, each changed in place -/
/-- no told address among the cells is a -/
def apart (a : Addr) : Mu → Bool
  | [] => true
  | .own b _ :: r => decide (b ≠ a) && apart a r
  | _ :: r => apart a r
section
variable {X : Cx} {e o i' : Expr} {te to ti : DE} {pos pos' p2 : Pos}
end
end Dx
namespace Dx
open PySem PySem.Spec PyProof.Rows L2
open Evl (Ex)
variable [Tb]
end Dx

namespace Dx
open PySem PySem.Spec PyProof.Rows L2
open Evl (Ex)
variable [Tb]
section
variable {X : Cx} {a : Expr} {ta : DE} {p p2 pos pos2 : Pos}
end
end Dx

namespace Dx
open PySem PySem.Spec PyProof.Rows L2
open Evl (Ex)
variable [Tb]
/-! ### a machine that is folded onto another one -/
structure Fold (M : Mach) (b : Nat) (ends : List Nat) (rows : List (List Nat)) (h : Nat → Nat) : Prop where
  len : ∀ (r : Nat) (row : List Nat), rows[r]? = some row → row.length = M.L.length
  step : ∀ (r : Nat) (row : List Nat) (j q : Nat), rows[r]? = some row → row[j]? = some q → q < rows.length ∧ ∃ row', M.steps[h r]? = some row' ∧ row'[j]? = some (h q)
  room : ∀ r, r < rows.length → h r < M.steps.length
  beg : b < rows.length ∧ h b = M.b
  lt : ∀ e ∈ ends, e < rows.length
  fin : ∀ r, r < rows.length → (r ∈ ends ↔ h r ∈ M.ends)
  nd : ends.Nodup
theorem nd_rise {l : List Nat} (h : l.Pairwise (· < ·)) : l.Nodup := h.imp fun {a b} h => by omega
theorem Fold.start {M : Mach} (ok : M.Ok) : Fold M M.b M.ends M.steps id where
  len := fun r row h => (ok.rows _ (List.mem_of_getElem? h)).1
  step := fun r row j q h1 h2 => ⟨(ok.rows _ (List.mem_of_getElem? h1)).2 q (List.mem_of_getElem? h2), row, h1, h2⟩
  room := fun r h => h
  beg := ⟨ok.begin, rfl⟩
  lt := ok.ends
  fin := fun r _ => Iff.rfl
  nd := nd_rise ok.rise
theorem Fold.grow {M : Mach} {b : Nat} {ends : List Nat} {rows : List (List Nat)} {h : Nat → Nat} (F : Fold M b ends rows h) {i : Nat} {row : List Nat} (hi : rows[i]? = some row) :
    Fold M b (if i ∈ ends then ends ++ [rows.length] else ends) (rows ++ [row]) (fun r => if r = rows.length then h i else h r) := by
  have il := (List.getElem?_eq_some_iff.mp hi).1
  have nl : rows.length ∉ ends := fun z => absurd (F.lt _ z) (Nat.lt_irrefl _)
  have key : ∀ (r : Nat) (row' : List Nat), (rows ++ [row])[r]? = some row' → rows[if r = rows.length then i else r]? = some row' := fun r row' e => by
    by_cases c : r = rows.length
    · subst c
      rw [List.getElem?_append_right (Nat.le_refl _), Nat.sub_self] at e
      cases e
      rw [if_pos rfl]
      exact hi
    · rw [if_neg c]
      have := (List.getElem?_eq_some_iff.mp e).1
      rw [List.length_append, List.length_singleton] at this
      rw [List.getElem?_append_left (by omega)] at e
      exact e
  have eh : ∀ r, (if r = rows.length then h i else h r) = h (if r = rows.length then i else r) := fun r => by split <;> rfl
  refine ⟨fun r row' e => F.len _ _ (key r row' e), fun r row' j q e1 e2 => ?_, fun r hr => ?_, ⟨by rw [List.length_append]; have := F.beg.1; omega, ?_⟩, fun e he => ?_, fun r hr => ?_, ?_⟩
  · obtain ⟨h1, row2, h2, h3⟩ := F.step _ _ j q (key r row' e1) e2
    refine ⟨by rw [List.length_append]; omega, row2, by rw [eh]; exact h2, ?_⟩
    rw [if_neg (by omega)]
    exact h3
  · show (if r = rows.length then h i else h r) < _
    rw [List.length_append, List.length_singleton] at hr
    split
    · exact F.room i il
    · exact F.room r (by omega)
  · show (if b = rows.length then h i else h b) = _
    have := F.beg
    rw [if_neg (by omega)]
    exact this.2
  · rw [List.length_append, List.length_singleton]
    split at he
    · rcases List.mem_append.mp he with z | z
      · have := F.lt e z
        omega
      · rw [List.mem_singleton] at z
        omega
    · have := F.lt e he
      omega
  · show _ ↔ (if r = rows.length then h i else h r) ∈ _
    rw [List.length_append, List.length_singleton] at hr
    by_cases c : r = rows.length
    · rw [if_pos c]
      by_cases d : i ∈ ends
      · rw [if_pos d]
        exact ⟨fun _ => (F.fin i il).mp d, fun _ => by rw [c]; simp⟩
      · rw [if_neg d]
        refine ⟨fun z => absurd (c ▸ z) nl, fun z => absurd ((F.fin i il).mpr z) d⟩
    · rw [if_neg c, ← F.fin r (by omega)]
      split
      · rw [List.mem_append, List.mem_singleton]
        exact ⟨fun z => z.resolve_right c, .inl⟩
      · exact Iff.rfl
  · split
    · rw [List.nodup_append]
      refine ⟨F.nd, by simp, fun a ha x hx e => ?_⟩
      rw [List.mem_singleton] at hx
      subst hx
      subst e
      exact nl ha
    · exact F.nd
/-- a step is led to another room that is folded onto the same one -/
theorem Fold.turn {M : Mach} {b : Nat} {ends : List Nat} {rows : List (List Nat)} {h : Nat → Nat} (F : Fold M b ends rows h) {i j q q' : Nat} {row : List Nat} (hi : rows[i]? = some row) (hj : row[j]? = some q) (hq : q' < rows.length) (e : h q' = h q) :
    Fold M b ends (rows.set i (row.set j q')) h := by
  have il := (List.getElem?_eq_some_iff.mp hi).1
  have jl := (List.getElem?_eq_some_iff.mp hj).1
  refine ⟨fun r row' e1 => ?_, fun r row' j' p e1 e2 => ?_, fun r hr => F.room r (by rwa [List.length_set] at hr), by rw [List.length_set]; exact F.beg, fun x hx => by rw [List.length_set]; exact F.lt x hx, fun r hr => F.fin r (by rwa [List.length_set] at hr), F.nd⟩
  · by_cases c : i = r
    · subst c
      rw [List.getElem?_set_self il] at e1
      cases e1
      rw [List.length_set]
      exact F.len _ _ hi
    · rw [List.getElem?_set_ne c] at e1
      exact F.len _ _ e1
  · rw [List.length_set]
    by_cases c : i = r
    · subst c
      rw [List.getElem?_set_self il] at e1
      cases e1
      by_cases d : j = j'
      · subst d
        rw [List.getElem?_set_self jl] at e2
        cases e2
        obtain ⟨h1, row2, h2, h3⟩ := F.step _ _ _ _ hi hj
        exact ⟨hq, row2, h2, by rw [e]; exact h3⟩
      · rw [List.getElem?_set_ne d] at e2
        exact F.step _ _ _ _ hi e2
    · rw [List.getElem?_set_ne c] at e1
      exact F.step _ _ _ _ e1 e2
theorem Fold.begin {M : Mach} {b b' : Nat} {ends : List Nat} {rows : List (List Nat)} {h : Nat → Nat} (F : Fold M b ends rows h) (hb : b' < rows.length) (e : h b' = h b) : Fold M b' ends rows h :=
  ⟨F.len, F.step, F.room, ⟨hb, by rw [e]; exact F.beg.2⟩, F.lt, F.fin, F.nd⟩
/-! #### numbered otherwise -/
theorem idx_at {l : List Nat} {x : Nat} (h : x ∈ l) : l[l.idxOf x]? = some x := by
  have hl := List.idxOf_lt_length_of_mem h
  rw [List.getElem?_eq_getElem hl, List.getElem_idxOf]
theorem idx_inj {l : List Nat} {x y : Nat} (hx : x ∈ l) (hy : y ∈ l) (e : l.idxOf x = l.idxOf y) : x = y := by
  have h1 := idx_at hx
  rw [e, idx_at hy] at h1
  exact (Option.some.inj h1).symm
/-- the machine by another numbering -/
def otherM (L : List Nat) (b : Nat) (rows : List (List Nat)) (ord es : List Nat) : Mach := ⟨L, ord.idxOf b, es, ord.map fun r => (rows.getD r []).map ord.idxOf⟩
section
variable {M : Mach} {b : Nat} {ends : List Nat} {rows : List (List Nat)} {h : Nat → Nat} {ord es : List Nat}
theorem other_row (pm : ord.Perm (List.range rows.length)) {i : Nat} {row' : List Nat} (e : (otherM M.L b rows ord es).steps[i]? = some row') : ∃ r row, ord[i]? = some r ∧ rows[r]? = some row ∧ row' = row.map ord.idxOf := by
  have e : (ord.map fun r => (rows.getD r []).map ord.idxOf)[i]? = some row' := e
  rw [List.getElem?_map] at e
  cases ho : ord[i]? with
  | none => rw [ho] at e; cases e
  | some r =>
    rw [ho] at e
    have hr : r < rows.length := List.mem_range.mp (pm.mem_iff.mp (List.mem_of_getElem? ho))
    refine ⟨r, rows[r], rfl, List.getElem?_eq_getElem hr, ?_⟩
    have e := (Option.some.inj e).symm
    rw [e]
    show (rows.getD r []).map ord.idxOf = _
    rw [List.getD_eq_getElem?_getD, List.getElem?_eq_getElem hr]
    rfl
theorem Fold.other (F : Fold M b ends rows h) (ok : M.Ok) (few : rows.length ≤ 1000) (pm : ord.Perm (List.range rows.length)) (pe : es.Perm (ends.map ord.idxOf)) (so : es.Pairwise (· ≤ ·)) : (otherM M.L b rows ord es).Ok := by
  have inO : ∀ {r}, r < rows.length → r ∈ ord := fun {r} hr => pm.mem_iff.mpr (List.mem_range.mpr hr)
  have lo : ord.length = rows.length := by rw [pm.length_eq, List.length_range]
  have ls : (otherM M.L b rows ord es).steps.length = rows.length := by
    show (ord.map _).length = _
    rw [List.length_map, lo]
  have lt : ∀ {r}, r < rows.length → ord.idxOf r < rows.length := fun {r} hr => by
    rw [← lo]
    exact List.idxOf_lt_length_of_mem (inO hr)
  have hb := F.beg
  refine ⟨ok.letters, ok.len, by rw [ls]; omega, fun r hr => ?_, by rw [ls]; exact lt hb.1, fun e he => ?_, ?_, ?_⟩
  · obtain ⟨i, hi⟩ := List.mem_iff_getElem?.mp hr
    obtain ⟨r0, row, h1, h2, h3⟩ := other_row pm hi
    subst h3
    refine ⟨by rw [List.length_map]; exact F.len _ _ h2, fun q hq => ?_⟩
    obtain ⟨p, hp, e⟩ := List.mem_map.mp hq
    obtain ⟨j, hj⟩ := List.mem_iff_getElem?.mp hp
    rw [ls, ← e]
    exact lt (F.step _ _ _ _ h2 hj).1
  · have := pe.mem_iff.mp he
    obtain ⟨p, hp, e⟩ := List.mem_map.mp this
    rw [ls, ← e]
    exact lt (F.lt p hp)
  · show es.length ≤ 10000
    rw [pe.length_eq, List.length_map]
    have := sub_le (m := List.range rows.length) F.nd fun x hx => List.mem_range.mpr (F.lt x hx)
    rw [List.length_range] at this
    omega
  · have nd : es.Nodup := pe.nodup_iff.mpr (nodup_map F.nd fun x hx y hy e => idx_inj (inO (F.lt x hx)) (inO (F.lt y hy)) e)
    have := so.and nd
    exact this.imp fun {a c} hh => by
      obtain ⟨h1, h2⟩ := hh
      omega
end
end Dx

namespace Dx
open PySem PySem.Spec PyProof.Rows L2
open Evl (Ex)
variable [Tb]
/-! ### cells at told addresses -/
def ownIs (a : Addr) : MC → Option (List D)
  | .own b xs => if b = a then some xs else none
  | _ => none
theorem ownIx_cons (a : Addr) (m : MC) (r : Mu) : ownIx a (m :: r) = match ownIs a m with
    | some xs => some (0, xs)
    | none => (ownIx a r).map fun p => (p.1 + 1, p.2) := by
  cases m with
  | own b xs =>
    show (if b = a then some (0, xs) else (ownIx a r).map fun p => (p.1 + 1, p.2)) = match (if b = a then some xs else none) with
      | some xs => some (0, xs)
      | none => (ownIx a r).map fun p => (p.1 + 1, p.2)
    split <;> rfl
  | dead => rfl
  | lst _ => rfl
  | dk _ _ => rfl
  | dt _ _ _ => rfl
  | ins _ _ _ => rfl
  | ownK _ _ _ => rfl
theorem ownIx_set {a : Addr} {m' : MC} (h' : ownIs a m' = none) : ∀ {mu : Mu} {j : Nat}, (∀ m, mu[j]? = some m → ownIs a m = none) → ownIx a (mu.set j m') = ownIx a mu
  | [], j, _ => rfl
  | m :: r, 0, h => by
    rw [List.set_cons_zero, ownIx_cons, ownIx_cons, h', h m rfl]
  | m :: r, j + 1, h => by
    rw [List.set_cons_succ, ownIx_cons, ownIx_cons, ownIx_set h' fun x hx => h x (by simpa using hx)]
theorem ownIx_put {a : Addr} {ys : List D} : ∀ {mu : Mu} {p : Nat} {xs : List D}, ownIx a mu = some (p, xs) → ownIx a (mu.set p (.own a ys)) = some (p, ys)
  | [], p, xs, h => by cases h
  | m :: r, p, xs, h => by
    rw [ownIx_cons] at h
    cases e : ownIs a m with
    | some zs =>
      rw [e] at h
      cases h
      rw [List.set_cons_zero, ownIx_cons]
      show (match (if a = a then some ys else none) with
        | some xs => some (0, xs)
        | none => _) = _
      rw [if_pos rfl]
    | none =>
      rw [e] at h
      cases q : ownIx a r with
      | none => rw [q] at h; cases h
      | some p' =>
        rw [q] at h
        obtain ⟨p1, p2⟩ := p'
        cases h
        rw [List.set_cons_succ, ownIx_cons, e]
        simp only [ownIx_put q]
        rfl
/-! ### the cells of _law_same_otherwise -/
structure SOm (m : MC) (as : List Addr) (rows : List (List Nat)) (k e : Nat) (ends : List Nat) (mu : Mu) : Prop where
  flow : mu[0]? = some m
  steps : mu[k]? = some (.lst (as.map D.adr))
  fin : mu[e]? = some (.lst (ends.map natD))
  row : ∀ (i : Nat) (a : Addr), as[i]? = some a → ∃ r p, rows[i]? = some r ∧ ownIx a mu = some (p, r.map natD)
  len : rows.length = as.length
  nd : as.Nodup
  pos : 0 < k ∧ 0 < e ∧ k ≠ e
section
variable {m m' : MC} {as : List Addr} {rows : List (List Nat)} {k e : Nat} {ends : List Nat} {mu : Mu}
theorem SOm.get (S : SOm m as rows k e ends mu) {i : Nat} {r : List Nat} (h : rows[i]? = some r) : ∃ a p, as[i]? = some a ∧ ownIx a mu = some (p, r.map natD) := by
  have hl := (List.getElem?_eq_some_iff.mp h).1
  have ha : as[i]? = some (as[i]'(by rw [← S.len]; exact hl)) := List.getElem?_eq_getElem _
  obtain ⟨r', p, h1, h2⟩ := S.row i _ ha
  rw [h] at h1
  cases h1
  exact ⟨_, p, ha, h2⟩
theorem SOm.put (S : SOm m as rows k e ends mu) (f : FlowOk m) {i p : Nat} {a : Addr} {r : List Nat} (ha : as[i]? = some a) (hr : rows[i]? = some r) (ho : ownIx a mu = some (p, r.map natD)) (r' : List Nat) :
    SOm m as (rows.set i r') k e ends (mu.set p (.own a (r'.map natD))) := by
  have hp := ownIx_at ho
  have p0 : p ≠ 0 := fun z => by
    rw [z, S.flow] at hp
    cases hp
    obtain ⟨_, _, _, _, _, z, _⟩ := f
    cases z
  have pk : p ≠ k := fun z => by
    rw [z, S.steps] at hp
    cases hp
  have pe : p ≠ e := fun z => by
    rw [z, S.fin] at hp
    cases hp
  refine ⟨by rw [List.getElem?_set_ne p0]; exact S.flow, by rw [List.getElem?_set_ne pk]; exact S.steps, by rw [List.getElem?_set_ne pe]; exact S.fin, fun j b h => ?_, by rw [List.length_set]; exact S.len, S.nd, S.pos⟩
  by_cases c : i = j
  · subst c
    rw [ha] at h
    cases h
    exact ⟨r', p, List.getElem?_set_self (List.getElem?_eq_some_iff.mp hr).1, ownIx_put ho⟩
  · obtain ⟨r2, p2, h1, h2⟩ := S.row j b h
    have ne : a ≠ b := fun z => by
      subst z
      obtain ⟨a1, a2⟩ := List.getElem?_eq_some_iff.mp ha
      obtain ⟨b1, b2⟩ := List.getElem?_eq_some_iff.mp h
      exact c ((List.getElem_inj S.nd).mp (a2.trans b2.symm))
    refine ⟨r2, p2, by rw [List.getElem?_set_ne c]; exact h1, ?_⟩
    rw [ownIx_set (by show (if a = b then some _ else none) = none; rw [if_neg ne]) fun x hx => by
      rw [hp] at hx
      cases hx
      show (if a = b then some _ else none) = none
      rw [if_neg ne]]
    exact h2
end
end Dx

namespace Dx
open PySem PySem.Spec PyProof.Rows L2
open Evl (Ex)
variable [Tb]
theorem run_nil {rho : Rho} {mu : Mu} {C : List DV → Mu → Prop} (h : C [] mu) : aNil rho mu C := h
end Dx

namespace Dx
open PySem PySem.Spec PyProof.Rows L2
open PySem.Builtin.SmallTypes in
/-! ### zip of two rows, each a list or a tuple -/
def ItA (tp : Bool) (h : Heap) (i l : Addr) (k : Nat) : Prop := match tp with
  | true => h.IsTupleIter i l k
  | false => h.IsListIter i l k
def SqA (tp : Bool) (h : Heap) (l : Addr) (xs : Array Value) : Prop := match tp with
  | true => h.IsTuple l xs
  | false => h.IsList l xs
section
variable {tp : Bool} {h h' : Heap} {i l b : Addr} {k : Nat} {xs : Array Value}
theorem ItA.ext (x : ItA tp h i l k) (e : Heap.ExtBut b h h') (n : i ≠ b) : ItA tp h' i l k := by
  cases tp with
  | true => exact Heap.IsTupleIter.extBut (show h.IsTupleIter i l k from x) e n
  | false => exact Heap.IsListIter.extBut (show h.IsListIter i l k from x) e n
theorem SqA.ext (x : SqA tp h l xs) (e : Heap.ExtBut b h h') (n : l ≠ b) : SqA tp h' l xs := by
  cases tp with
  | true => exact Heap.IsTuple.extBut (show h.IsTuple l xs from x) e n
  | false => exact Heap.IsList.extBut (show h.IsList l xs from x) e n
theorem ItA.at' (x : ItA tp h i l k) (e : ∀ o, h.get? i = some o → h'.get? i = some o) : ItA tp h' i l k := by
  cases tp with
  | true => exact Heap.IsTupleIter.at (show h.IsTupleIter i l k from x) e
  | false => exact Heap.IsListIter.at (show h.IsListIter i l k from x) e
theorem ItA.obj (x : ItA tp h i l k) : ∃ o, h.get? i = some o ∧ ∀ v, o.data ≠ .cell v := by
  cases tp with
  | true =>
    obtain ⟨o, e, _, d⟩ := (show h.IsTupleIter i l k from x)
    exact ⟨o, e, fun v z => by rw [d] at z; cases z⟩
  | false =>
    obtain ⟨o, e, _, d⟩ := (show h.IsListIter i l k from x)
    exact ⟨o, e, fun v z => by rw [d] at z; cases z⟩
end
section
variable {prog : Program} {w : World} {A : Around} {E : Value → Shared → Prop} {s : Shared} {tp : Bool} {i l : Addr} {k : Nat} {xs : Array Value} {x : Value} {Q : Value → Shared → Prop}
end
section
variable {prog : Program} {w : World} {A : Around} {E : Value → Shared → Prop} {s : Shared} {ta tb : Bool} {zi ti ro pa pb a b T : Addr} {ka kb : Nat} {us vs : Array Value} {u v c d f0 : Value} {f : Bool}
end
section
variable {prog : Program} {w : World} {A : Around} {E : Value → Shared → Prop} {s : Shared} {ta tb : Bool} {zi ti ro pa pb a b T : Addr} {ka kb : Nat} {us vs : Array Value} {u v c d f0 : Value} {f : Bool} {Q : Option Value → Shared → Prop}
end
/-! #### the walk -/
def SqG (tp : Bool) (K : PySem.W.Frag) (H : Hp) (a : Addr) (xs : List V) : Prop := match tp with
  | true => SqT K H a xs
  | false => SqL K H a xs
section
variable {X : Cx} {pins : List (Addr × Obj)} {σ : L2.St} {H : Hp} {s : Shared}
theorem SqG.inj {tp : Bool} {a : Addr} {xs ys : List V} (I : Inv X pins σ H s) (h : SqG tp X.K H a xs) (h' : SqG tp X.K H a ys) : xs = ys := by
  cases tp with
  | true => exact I.tuple_inj h h'
  | false => exact I.list_inj h h'
end
end Dx

namespace Dx
open PySem PySem.Spec PyProof.Rows L2
open Evl (Ex)
variable [Tb]
section
variable {X : Cx} {e e2 : Expr} {ta : TA} {p pos tpos : Pos} {elts : List Expr} {kk : Nat} {xn : Str}
end
section
variable {X : Cx} {e e2 : Expr} {ta : DA} {p pos tpos : Pos} {elts : List Expr} {kk : Nat} {xn : Str}
/-- a statement that is never reached -/
theorem cs_dead {st : Stmt} : CS X st (fun _ _ _ => False) := ⟨fun _ _ _ => False, ⟨fun _ _ _ _ _ _ h => h.elim⟩, fun _ _ _ _ _ _ _ _ _ q _ => q.elim⟩
end
end Dx

namespace Dx
open PySem PySem.Spec PyProof.Rows L2
open Evl (Ex)
variable [Tb]
section
variable {X : Cx} {e : Expr} {es : List Expr} {pos p : Pos} {x : Str} {L : List (Addr × FS)} {t : TA} {tr : DA} {i : Nat}
end
def dDead : DS := fun _ _ _ => False
end Dx

namespace Dx
open PySem PySem.Spec PyProof.Rows L2
open Evl (Ex)
variable [Tb]
section
variable {X : Cx}
end
end Dx

namespace Dx
open PySem PySem.Spec PyProof.Rows L2
open Evl (Ex)
variable [Tb]
abbrev PP := List (Nat × Nat)
def pstp (M N : Mach) (p : Nat × Nat) (c : Nat) : Nat × Nat := (M.stp p.1 c, N.stp p.2 c)
def prow (M N : Mach) (ps : PP) (p : Nat × Nat) : List Nat := M.L.map fun c => posIn ps (pstp M N p c)
structure PPs (M N : Mach) (ps : PP) : Prop where
  head : ps[0]? = some (M.b, N.b)
  inr : ∀ p ∈ ps, p.1 < M.steps.length ∧ p.2 < N.steps.length
  nd : ps.Nodup
def PRows (M N : Mach) (ps : PP) (fd : List (List Nat)) : Prop := ∀ (i : Nat) (p : Nat × Nat), i < fd.length → ps[i]? = some p → fd[i]? = some (prow M N ps p) ∧ ∀ c ∈ M.L, pstp M N p c ∈ ps
theorem pair_few {m n : Nat} {ps : PP} (nd : ps.Nodup) (h : ∀ p ∈ ps, p.1 < m ∧ p.2 < n) : ps.length ≤ m * n := by
  have h := nodup_le (m := (List.range m).flatMap fun i => (List.range n).map fun k => (i, k)) nd (fun s hs => by
    obtain ⟨h1, h2⟩ := h s hs
    rw [List.mem_flatMap]
    exact ⟨s.1, List.mem_range.mpr h1, List.mem_map.mpr ⟨s.2, List.mem_range.mpr h2, rfl⟩⟩)
  have e : ((List.range m).flatMap fun i => (List.range n).map fun k => (i, k)).length = m * n := by
    rw [List.length_flatMap]
    have : (List.map (fun i => (List.map (fun k => (i, k)) (List.range n)).length) (List.range m)) = List.replicate m n := by
      apply List.eq_replicate_iff.mpr
      refine ⟨by rw [List.length_map, List.length_range], fun b hb => ?_⟩
      obtain ⟨i, _, rfl⟩ := List.mem_map.mp hb
      rw [List.length_map, List.length_range]
    rw [this, List.sum_replicate_nat]
  rw [e] at h
  exact h
section
variable {M N : Mach} {ps : PP} {fd : List (List Nat)}
theorem PPs.few (h : PPs M N ps) : ps.length ≤ M.steps.length * N.steps.length := pair_few h.nd h.inr
theorem PPs.start (hM : M.Ok) (hN : N.Ok) : PPs M N [(M.b, N.b)] where
  head := rfl
  inr := fun p hp => by
    rw [List.mem_singleton] at hp
    subst hp
    exact ⟨hM.begin, hN.begin⟩
  nd := by simp
theorem PPs.new (h : PPs M N ps) {p : Nat × Nat} (h1 : p.1 < M.steps.length) (h2 : p.2 < N.steps.length) (hn : p ∉ ps) : PPs M N (ps ++ [p]) where
  head := by
    have := (List.getElem?_eq_some_iff.mp h.head).1
    rw [List.getElem?_append_left this]
    exact h.head
  inr := fun q hq => by
    rcases List.mem_append.mp hq with hq | hq
    · exact h.inr q hq
    · rw [List.mem_singleton] at hq
      subst hq
      exact ⟨h1, h2⟩
  nd := by
    rw [List.nodup_append]
    refine ⟨h.nd, by simp, fun a ha b hb e => ?_⟩
    rw [List.mem_singleton] at hb
    subst hb
    subst e
    exact hn ha
theorem prow_app {p : Nat × Nat} (h : ∀ c ∈ M.L, pstp M N p c ∈ ps) (m : PP) : prow M N (ps ++ m) p = prow M N ps p := by
  unfold prow
  apply List.map_congr_left
  intro c hc
  rw [posIn_app (h c hc)]
theorem PRows.more (h : PRows M N ps fd) (hl : fd.length ≤ ps.length) (m : PP) : PRows M N (ps ++ m) fd := fun i p hi hp => by
  rw [List.getElem?_append_left (by omega)] at hp
  obtain ⟨a, b⟩ := h i p hi hp
  rw [prow_app b]
  exact ⟨a, fun c hc => List.mem_append_left _ (b c hc)⟩
end
structure Prod2 (M N : Mach) (ps : PP) (rows : List (List Nat)) : Prop extends PPs M N ps where
  len : rows.length = ps.length
  rws : PRows M N ps rows
def prodM (M N : Mach) (ps : PP) (rows : List (List Nat)) (op : Bool → Bool → Bool) : Mach :=
  ⟨M.L, 0, (List.range ps.length).filter fun i => op (decide ((ps.getD i (0, 0)).1 ∈ M.ends)) (decide ((ps.getD i (0, 0)).2 ∈ N.ends)), rows⟩
section
variable {M N : Mach} {ps : PP} {rows : List (List Nat)} {op : Bool → Bool → Bool}
theorem rise_filter_range (n : Nat) (p : Nat → Bool) : ((List.range n).filter p).Pairwise (· < ·) := List.Pairwise.sublist List.filter_sublist List.pairwise_lt_range
theorem Prod2.pos (P : Prod2 M N ps rows) : 0 < ps.length := (List.getElem?_eq_some_iff.mp P.head).1
theorem Prod2.ok (P : Prod2 M N ps rows) (hM : M.Ok) (few : M.steps.length * N.steps.length ≤ 10000) : (prodM M N ps rows op).Ok where
  letters := hM.letters
  len := hM.len
  rooms := by
    show 0 < rows.length ∧ rows.length ≤ 10000
    rw [P.len]
    exact ⟨P.pos, Nat.le_trans P.toPPs.few few⟩
  rows := fun r hr => by
    obtain ⟨i, hi⟩ := List.mem_iff_getElem?.mp hr
    have hi' : rows[i]? = some r := hi
    have hil := (List.getElem?_eq_some_iff.mp hi').1
    have hp : ps[i]? = some (ps[i]'(by rw [← P.len]; exact hil)) := List.getElem?_eq_getElem _
    obtain ⟨a, b⟩ := P.rws i _ hil hp
    rw [hi'] at a
    cases a
    refine ⟨List.length_map _, fun q hq => ?_⟩
    obtain ⟨c, hc, rfl⟩ := List.mem_map.mp hq
    exact Nat.lt_of_lt_of_eq (posIn_lt (b c hc)) P.len.symm
  begin := by
    show 0 < rows.length
    rw [P.len]
    exact P.pos
  ends := fun e he => by
    have := List.mem_range.mp (List.mem_filter.mp he).1
    show e < rows.length
    rw [P.len]
    exact this
  few := by
    refine Nat.le_trans (List.length_filter_le _ _) ?_
    rw [List.length_range]
    exact Nat.le_trans P.toPPs.few few
  rise := rise_filter_range _ _
theorem Prod2.stp (P : Prod2 M N ps rows) {i : Nat} {p : Nat × Nat} (hp : ps[i]? = some p) {c : Nat} (hc : c ∈ M.L) : ps[(prodM M N ps rows op).stp i c]? = some (pstp M N p c) := by
  have hil : i < rows.length := by rw [P.len]; exact (List.getElem?_eq_some_iff.mp hp).1
  obtain ⟨a, b⟩ := P.rws i p hil hp
  have e : (prodM M N ps rows op).stp i c = posIn ps (pstp M N p c) := by
    show (rows.getD i []).getD (posL c M.L) 0 = _
    rw [List.getD_eq_getElem?_getD, List.getD_eq_getElem?_getD, a]
    show ((prow M N ps p)[posL c M.L]?).getD 0 = _
    unfold prow
    rw [List.getElem?_map, (pos_of hc).2.2]
    rfl
  rw [e]
  exact posIn_at (b c hc)
theorem Prod2.go (P : Prod2 M N ps rows) : ∀ (t : List Nat) {i : Nat} {p : Nat × Nat}, Over M.L t → ps[i]? = some p → ps[(prodM M N ps rows op).go i t]? = some (M.go p.1 t, N.go p.2 t)
  | [], i, p, _, hp => hp
  | c :: t, i, p, ho, hp => P.go t (fun d hd => ho d (List.mem_cons_of_mem _ hd)) (P.stp hp (ho c (List.mem_cons_self ..)))
theorem Prod2.takes (P : Prod2 M N ps rows) (t : List Nat) (ht : Over M.L t) : (prodM M N ps rows op).takes t = op (M.takes t) (N.takes t) := by
  have h := P.go (op := op) t ht P.head
  have hl := (List.getElem?_eq_some_iff.mp h).1
  unfold Mach.takes
  have e : (prodM M N ps rows op).b = 0 := rfl
  rw [e]
  generalize (prodM M N ps rows op).go 0 t = g at h hl
  have eg : ps.getD g (0, 0) = (M.go M.b t, N.go N.b t) := by rw [List.getD_eq_getElem?_getD, h]; rfl
  cases z : op (decide (M.go M.b t ∈ M.ends)) (decide (N.go N.b t ∈ N.ends)) with
  | true => exact decide_eq_true (List.mem_filter.mpr ⟨List.mem_range.mpr hl, by rw [eg]; exact z⟩)
  | false =>
    refine decide_eq_false fun hm => ?_
    have := (List.mem_filter.mp hm).2
    rw [eg, z] at this
    cases this
end
end Dx

namespace Dx
open PySem PySem.Spec PyProof.Rows L2
open Evl (Ex)
variable [Tb]
end Dx

namespace Dx
open PySem PySem.Spec PyProof.Rows L2
open Evl (Ex)
variable [Tb]
def PartM (M N : Mach) (w : List Nat) : Prop := M.takes w ≠ N.takes w ∧ Over M.L w ∧ ∀ v, Over M.L v → ltW v w = true → M.takes v = N.takes v
def TextM (M N : Mach) (d : D) : Prop := (∃ w, PartM M N w ∧ w.length ≤ M.steps.length * N.steps.length ∧ d = .str w) ∨ ((∀ w, Over M.L w → M.takes w = N.takes w) ∧ d = .non)
abbrev LineM := List (List Nat × (Nat × Nat))
section
variable {M N : Mach} {line : LineM} {at' j : Nat}
end
end Dx

namespace Dx
open PySem PySem.Spec PyProof.Rows L2
open Evl (Ex)
variable [Tb]
/-- the least machine of some texts, with what follows -/
structure Told1 (L : List Nat) (lang : List Nat → Bool) (R : Mach) : Prop where
  lo : LeastOf L lang R
  ok : R.Ok
  len : R.L = L
  took : ∀ t, Over L t → R.takes t = lang t
theorem Told1.of {M : Mach} (h : M.Ok) {lang : List Nat → Bool} {R : Mach} (l : LeastOf M.L lang R) (few : R.steps.length ≤ 10000) : Told1 M.L lang R :=
  ⟨l, l.ok h.letters h.len few, l.len, fun t ht => l.took h.nd ht⟩
theorem Told1.same {L : List Nat} {f g : List Nat → Bool} {R S : Mach} (h : LeastOf L f R) (h' : LeastOf L g S) (e : ∀ t, Over L t → f t = g t) : R = S := (h.congr e).uniq h'
end Dx

namespace Dx
open PySem PySem.Spec PyProof.Rows L2
open Evl (Ex)
variable [Tb]
/-! ### states numbered as they are met: the machine of them -/
section
variable {S : Type} [DecidableEq S]
structure NumS (init : S) (good : S → Prop) (ss : List S) : Prop where
  head : ss[0]? = some init
  good : ∀ s ∈ ss, good s
  nd : ss.Nodup
def nrow (L : List Nat) (step : S → Nat → S) (ss : List S) (s : S) : List Nat := L.map fun c => posIn ss (step s c)
def NRows (L : List Nat) (step : S → Nat → S) (ss : List S) (fd : List (List Nat)) : Prop := ∀ (i : Nat) (s : S), i < fd.length → ss[i]? = some s → fd[i]? = some (nrow L step ss s) ∧ ∀ c ∈ L, step s c ∈ ss
variable {L : List Nat} {init : S} {good : S → Prop} {step : S → Nat → S} {ss : List S} {fd rows : List (List Nat)}
theorem NumS.start (h : good init) : NumS init good [init] where
  head := rfl
  good := fun p hp => by
    rw [List.mem_singleton] at hp
    subst hp
    exact h
  nd := by simp
theorem NumS.new (h : NumS init good ss) {s : S} (hg : good s) (hn : s ∉ ss) : NumS init good (ss ++ [s]) where
  head := by
    have := (List.getElem?_eq_some_iff.mp h.head).1
    rw [List.getElem?_append_left this]
    exact h.head
  good := fun q hq => by
    rcases List.mem_append.mp hq with hq | hq
    · exact h.good q hq
    · rw [List.mem_singleton] at hq
      subst hq
      exact hg
  nd := by
    rw [List.nodup_append]
    refine ⟨h.nd, by simp, fun a ha b hb e => ?_⟩
    rw [List.mem_singleton] at hb
    subst hb
    subst e
    exact hn ha
theorem nrow_app {s : S} (h : ∀ c ∈ L, step s c ∈ ss) (m : List S) : nrow L step (ss ++ m) s = nrow L step ss s := by
  unfold nrow
  apply List.map_congr_left
  intro c hc
  rw [posIn_app (h c hc)]
theorem NRows.more (h : NRows L step ss fd) (hl : fd.length ≤ ss.length) (m : List S) : NRows L step (ss ++ m) fd := fun i p hi hp => by
  rw [List.getElem?_append_left (by omega)] at hp
  obtain ⟨a, b⟩ := h i p hi hp
  rw [nrow_app b]
  exact ⟨a, fun c hc => List.mem_append_left _ (b c hc)⟩
structure Numd (L : List Nat) (init : S) (good : S → Prop) (step : S → Nat → S) (ss : List S) (rows : List (List Nat)) : Prop extends NumS init good ss where
  len : rows.length = ss.length
  rws : NRows L step ss rows
def numEnd (fin : S → Bool) (ss : List S) (i : Nat) : Bool := match ss[i]? with
  | some s => fin s
  | none => false
def numM (L : List Nat) (ss : List S) (rows : List (List Nat)) (fin : S → Bool) : Mach := ⟨L, 0, (List.range ss.length).filter (numEnd fin ss), rows⟩
theorem Numd.pos (P : Numd L init good step ss rows) : 0 < ss.length := (List.getElem?_eq_some_iff.mp P.head).1
theorem Numd.ok (P : Numd L init good step ss rows) {fin : S → Bool} (hl : IsLetters L) (ll : 0 < L.length ∧ L.length ≤ 26) (few : ss.length ≤ 10000) : (numM L ss rows fin).Ok where
  letters := hl
  len := ll
  rooms := by
    show 0 < rows.length ∧ rows.length ≤ 10000
    rw [P.len]
    exact ⟨P.pos, few⟩
  rows := fun r hr => by
    obtain ⟨i, hi⟩ := List.mem_iff_getElem?.mp hr
    have hi' : rows[i]? = some r := hi
    have hil := (List.getElem?_eq_some_iff.mp hi').1
    have hp : ss[i]? = some (ss[i]'(by rw [← P.len]; exact hil)) := List.getElem?_eq_getElem _
    obtain ⟨a, b⟩ := P.rws i _ hil hp
    rw [hi'] at a
    cases a
    refine ⟨List.length_map _, fun q hq => ?_⟩
    obtain ⟨c, hc, rfl⟩ := List.mem_map.mp hq
    exact Nat.lt_of_lt_of_eq (posIn_lt (b c hc)) P.len.symm
  begin := by
    show 0 < rows.length
    rw [P.len]
    exact P.pos
  ends := fun e he => by
    have := List.mem_range.mp (List.mem_filter.mp he).1
    show e < rows.length
    rw [P.len]
    exact this
  few := by
    refine Nat.le_trans (List.length_filter_le _ _) ?_
    rw [List.length_range]
    exact few
  rise := rise_filter_range _ _
theorem Numd.stp (P : Numd L init good step ss rows) {fin : S → Bool} {i : Nat} {p : S} (hp : ss[i]? = some p) {c : Nat} (hc : c ∈ L) : ss[(numM L ss rows fin).stp i c]? = some (step p c) := by
  have hil : i < rows.length := by rw [P.len]; exact (List.getElem?_eq_some_iff.mp hp).1
  obtain ⟨a, b⟩ := P.rws i p hil hp
  have e : (numM L ss rows fin).stp i c = posIn ss (step p c) := by
    show (rows.getD i []).getD (posL c L) 0 = _
    rw [List.getD_eq_getElem?_getD, List.getD_eq_getElem?_getD, a]
    show ((nrow L step ss p)[posL c L]?).getD 0 = _
    unfold nrow
    rw [List.getElem?_map, (pos_of hc).2.2]
    rfl
  rw [e]
  exact posIn_at (b c hc)
theorem Numd.go (P : Numd L init good step ss rows) {fin : S → Bool} : ∀ (t : List Nat) {i : Nat} {p : S}, Over L t → ss[i]? = some p → ss[(numM L ss rows fin).go i t]? = some (t.foldl step p)
  | [], i, p, _, hp => hp
  | c :: t, i, p, ho, hp => P.go t (fun d hd => ho d (List.mem_cons_of_mem _ hd)) (P.stp hp (ho c (List.mem_cons_self ..)))
theorem Numd.takes (P : Numd L init good step ss rows) {fin : S → Bool} (t : List Nat) (ht : Over L t) : (numM L ss rows fin).takes t = fin (t.foldl step init) := by
  have h := P.go (fin := fin) t ht P.head
  have hl := (List.getElem?_eq_some_iff.mp h).1
  unfold Mach.takes
  have e : (numM L ss rows fin).b = 0 := rfl
  rw [e]
  generalize (numM L ss rows fin).go 0 t = g at h hl
  have eg : numEnd fin ss g = fin (t.foldl step init) := by
    unfold numEnd
    rw [h]
  cases z : fin (t.foldl step init) with
  | true => exact decide_eq_true (List.mem_filter.mpr ⟨List.mem_range.mpr hl, by rw [eg]; exact z⟩)
  | false =>
    refine decide_eq_false fun hm => ?_
    have := (List.mem_filter.mp hm).2
    rw [eg, z] at this
    cases this
end
/-! ### how far one is in words -/
def adv (w : List Nat) (p c : Nat) : Nat := if w[p]? = some c then p + 1 else p
def lead (w t : List Nat) : Nat := t.foldl (adv w) 0
def vol : List (List Nat) → Nat
  | [] => 1
  | w :: ws => (w.length + 1) * vol ws
theorem two_pow_ge (n : Nat) : n + 1 ≤ 2 ^ n := Nat.lt_two_pow_self
theorem vol_le : ∀ ws : List (List Nat), vol ws ≤ 2 ^ (ws.map List.length).sum
  | [] => Nat.le_refl _
  | w :: ws => by
    show (w.length + 1) * vol ws ≤ 2 ^ (w.length + (ws.map List.length).sum)
    rw [Nat.pow_add]
    exact Nat.mul_le_mul (two_pow_ge _) (vol_le ws)
/-- whether a wish is so where just some words lie -/
def Wish.so : Wish → (List Nat → Bool) → Bool
  | .always, _ => true
  | .never, _ => false
  | .has w, l => l w
  | .neg a, l => !a.so l
  | .con a b, l => a.so l && b.so l
  | .dis a b, l => a.so l || b.so l
end Dx

namespace Dx
open PySem PySem.Spec PyProof.Rows L2
open Evl (Ex)
variable [Tb]
def S_machine_of : FS := fun xs mu Q => ∃ (L : List Nat) (W : Wish), xs = [.dat (.str L), .dat W.toD] ∧ mu = [] ∧ IsLetters L ∧ (0 < L.length ∧ L.length ≤ 26) ∧ W.deep ≤ 6 ∧ W.size ≤ 1000 ∧ (∀ w ∈ W.words, w.length ≤ 1000) ∧ (∀ w ∈ W.words, ∀ c ∈ w, c < 1114112) ∧ (∀ ws, WordsIn W ws → vol ws ≤ 1000) ∧
  ∀ ws R, WordsIn W ws → LeastOf L W.holds R → R.steps.length ≤ vol ws → Q (.dv (.dat R.toD)) []
end Dx

namespace Dx
open PySem PySem.Spec PyProof.Rows L2
open Evl (Ex)
variable [Tb]
section
variable {X : Cx}
end
end Dx

namespace Dx
open PySem PySem.Spec PyProof.Rows L2
open Evl (Ex)
variable [Tb]
end Dx

namespace Dx
open PySem PySem.Spec PyProof.Rows L2
open Evl (Ex)
variable [Tb]
/-! ### wishes of few letters -/
def shortW (w : List Nat) : List Nat := w.take (w.length - 1)
def Wish.short : Wish → Wish
  | .always => .always
  | .never => .never
  | .has w => .has (shortW w)
  | .neg a => .neg a.short
  | .con a b => .con a.short b.short
  | .dis a b => .dis a.short b.short
def FewL (W : Wish) : Prop := ∀ ws, WordsIn W ws → (ws.map List.length).sum ≤ 6
end Dx

namespace Dx
open PySem PySem.Spec PyProof.Rows L2
open Evl (Ex)
variable [Tb]
/-! ### the first text that parts two machines, two wishes; the law's way -/
def TextL (L : List Nat) (f g : List Nat → Bool) (d : D) : Prop := (∃ w, (f w ≠ g w ∧ Over L w ∧ ∀ v, Over L v → ltW v w = true → f v = g v) ∧ d = .str w) ∨ ((∀ w, Over L w → f w = g w) ∧ d = .non)
theorem TextL.uniq {L : List Nat} {f g : List Nat → Bool} {d d' : D} (h : TextL L f g d) (h' : TextL L f g d') : d = d' := by
  rcases h with ⟨w, ⟨h1, o1, m1⟩, rfl⟩ | ⟨h1, rfl⟩
  · rcases h' with ⟨w', ⟨h2, o2, m2⟩, rfl⟩ | ⟨h2, rfl⟩
    · cases z : ltW w w' with
      | true => exact absurd (m2 w o1 z) h1
      | false =>
        cases z2 : ltW w' w with
        | true => exact absurd (m1 w' o2 z2) h2
        | false => rw [ltW_tri z z2]
    · exact absurd (h2 w o1) h1
  · rcases h' with ⟨w', ⟨h2, o2, m2⟩, rfl⟩ | ⟨h2, rfl⟩
    · exact absurd (h1 w' o2) h2
    · rfl
theorem TextL.symm {L : List Nat} {f g : List Nat → Bool} {d : D} (h : TextL L f g d) : TextL L g f d := by
  rcases h with ⟨w, ⟨h1, o1, m1⟩, rfl⟩ | ⟨h1, rfl⟩
  · exact .inl ⟨w, ⟨fun e => h1 e.symm, o1, fun v hv hl => (m1 v hv hl).symm⟩, rfl⟩
  · exact .inr ⟨fun w hw => (h1 w hw).symm, rfl⟩
theorem TextM.lang {M N : Mach} {f g : List Nat → Bool} {d : D} (h : TextM M N d) (hf : ∀ t, Over M.L t → M.takes t = f t) (hg : ∀ t, Over M.L t → N.takes t = g t) : TextL M.L f g d := by
  rcases h with ⟨w, ⟨h1, o1, m1⟩, _, rfl⟩ | ⟨h1, rfl⟩
  · exact .inl ⟨w, ⟨by rw [← hf w o1, ← hg w o1]; exact h1, o1, fun v hv hl => by rw [← hf v hv, ← hg v hv]; exact m1 v hv hl⟩, rfl⟩
  · exact .inr ⟨fun w hw => by rw [← hf w hw, ← hg w hw]; exact h1 w hw, rfl⟩
theorem TextL.okD {L : List Nat} {f g : List Nat → Bool} {d : D} (h : TextL L f g d) (hl : IsLetters L) : Dx.okD 60 d = true := by
  rcases h with ⟨w, ⟨_, o1, _⟩, rfl⟩ | ⟨_, rfl⟩
  · exact okD_str _ fun c hc => by
      have := abc_small (hl.2 c (o1 c hc))
      omega
  · rfl
structure WishSm (L : List Nat) (W : Wish) : Prop where
  deep : W.deep ≤ 6
  size : W.size ≤ 1000
  len : ∀ w ∈ W.words, w.length ≤ 1000
  low : ∀ w ∈ W.words, ∀ c ∈ w, c < 1114112
  few : ∀ ws, WordsIn W ws → vol ws ≤ 64
theorem WishSm.told {L : List Nat} {W : Wish} (h : WishSm L W) (hl : IsLetters L) (ll : 0 < L.length ∧ L.length ≤ 26) {Q : RV → Mu → Prop} (q : ∀ R, LeastOf L W.holds R → R.Ok → R.L = L → (∀ t, Over L t → R.takes t = W.holds t) → R.steps.length ≤ 64 → Q (.dv (.dat R.toD)) []) : S_machine_of [.dat (.str L), .dat W.toD] [] Q :=
  ⟨L, W, rfl, rfl, hl, ll, h.deep, h.size, h.len, h.low, fun ws hw => by have := h.few ws hw; omega, fun ws R hw hR hn => by
    have h64 := h.few ws hw
    have ok := hR.ok hl ll (by omega)
    exact q R hR ok hR.len (fun t ht => hR.took (rise_nd hl.1) ht) (by omega)⟩
end Dx

namespace Dx
open PySem PySem.Spec PyProof.Rows L2
open Evl (Ex)
variable [Tb]
end Dx

namespace Dx
open PySem PySem.Spec PyProof.Rows L2
open Evl (Ex)
variable [Tb]
/-! ### defs made by a running def, handed to another def -/
/-- the captured cells lie in the base -/
structure CloB (base : Heap) (cl : List (Str × Addr)) (fr : List Str) (ws : List (Option V)) : Prop where
  len : ws.length = fr.length
  all : ∀ y c, cl.lookup y = some c → ∃ v, base.IsCell c v
  inj : ∀ x y c, cl.lookup x = some c → cl.lookup y = some c → x = y
  has : ∀ (i : Nat) (y : Str), fr[i]? = some y → ∃ c, cl.lookup y = some c ∧ ∀ v, ws[i]? = some (some v) → ∃ u, RelV v u ∧ base.IsCell c (some u)
section
variable {X : Cx} {pins : List (Addr × Obj)} {σ : L2.St} {H : Hp} {s : Shared} {cl : List (Str × Addr)} {fr : List Str} {ws : List (Option V)}
theorem CloB.cells (B : CloB X.base cl fr ws) (I : Inv X pins σ H s) : NdefX.CellsAt cl fr ws s.heap H where
  len := B.len
  all := fun y c e => by
    obtain ⟨v, o, ho, hd⟩ := B.all y c e
    exact ⟨(I.bs c o ho).2, v, o, (I.bs c o ho).1, hd⟩
  inj := B.inj
  has := fun i y e => by
    obtain ⟨c, e1, hv⟩ := B.has i y e
    refine ⟨c, e1, fun v ev => ?_⟩
    obtain ⟨u, r, o, ho, hd⟩ := hv v ev
    exact ⟨u, r, o, (I.bs c o ho).1, hd⟩
end
/-! ### over data -/
theorem RepVs.app {F : Hp} {al : List Addr} : ∀ {xs ys : List DV} {vs us : List V}, RepVs F al xs vs → RepVs F al ys us → RepVs F al (xs ++ ys) (vs ++ us)
  | _, _, _, _, .nil, r => r
  | _, _, _, _, .cons a b, r => .cons a (b.app r)
section
variable {X : Cx} {e : Expr} {es : List Expr} {pos p : Pos} {x : Str} {ps : List Str} {k i : Nat} {S : FS} {tr : DA} {t : TA} {cl : List (Str × Addr)} {fr : List Str} {ws : List (Option V)}
end
end Dx

namespace Dx
open PySem PySem.Spec PyProof.Rows L2
open Evl (Ex)
/-! ### def g(..): ..; return h(x, g) -/
variable [Tb]
section
variable {X : Cx} {st : Stmt} {h g xw y : Str} {p pw pg pos rp dpos : Pos} {ps : List Str} {i j i0 k : Nat} {c P : Addr}
end
end Dx

namespace Dx
open PySem PySem.Spec PyProof.Rows L2
open Evl (Ex)
variable [Tb]
/-! ### wishes behind a letter, ahead of one, turned -/
def TxtOk (w : List Nat) : Prop := w.length ≤ 1000 ∧ ∀ c ∈ w, c < 1114112
theorem TxtOk.ok {w : List Nat} (h : TxtOk w) (n : Nat) : okD n (.str w) = true := okD_str n h.2
def Wish.map (g : List Nat → List Nat) : Wish → Wish
  | .always => .always
  | .never => .never
  | .has w => .has (g w)
  | .neg a => .neg (a.map g)
  | .con a b => .con (a.map g) (b.map g)
  | .dis a b => .dis (a.map g) (b.map g)
theorem Wish.map_deep (g : List Nat → List Nat) : ∀ W : Wish, (W.map g).deep = W.deep
  | .always => rfl
  | .never => rfl
  | .has _ => rfl
  | .neg a => by simp only [Wish.map, Wish.deep, a.map_deep]
  | .con a b => by simp only [Wish.map, Wish.deep, a.map_deep, b.map_deep]
  | .dis a b => by simp only [Wish.map, Wish.deep, a.map_deep, b.map_deep]
theorem Wish.map_size (g : List Nat → List Nat) : ∀ W : Wish, (W.map g).size = W.size
  | .always => rfl
  | .never => rfl
  | .has _ => rfl
  | .neg a => by simp only [Wish.map, Wish.size, a.map_size]
  | .con a b => by simp only [Wish.map, Wish.size, a.map_size, b.map_size]
  | .dis a b => by simp only [Wish.map, Wish.size, a.map_size, b.map_size]
theorem Wish.map_words (g : List Nat → List Nat) : ∀ W : Wish, (W.map g).words = W.words.map g
  | .always => rfl
  | .never => rfl
  | .has _ => rfl
  | .neg a => by simp only [Wish.map, Wish.words, a.map_words]
  | .con a b => by simp only [Wish.map, Wish.words, a.map_words, b.map_words, List.map_append]
  | .dis a b => by simp only [Wish.map, Wish.words, a.map_words, b.map_words, List.map_append]
theorem Wish.map_map (g h : List Nat → List Nat) : ∀ W : Wish, (W.map g).map h = W.map fun w => h (g w)
  | .always => rfl
  | .never => rfl
  | .has _ => rfl
  | .neg a => by simp only [Wish.map, a.map_map]
  | .con a b => by simp only [Wish.map, a.map_map, b.map_map]
  | .dis a b => by simp only [Wish.map, a.map_map, b.map_map]
theorem Wish.map_id : ∀ W : Wish, W.map (fun w => w) = W
  | .always => rfl
  | .never => rfl
  | .has _ => rfl
  | .neg a => by simp only [Wish.map, a.map_id]
  | .con a b => by simp only [Wish.map, a.map_id, b.map_id]
  | .dis a b => by simp only [Wish.map, a.map_id, b.map_id]
end Dx

namespace Dx
open PySem PySem.Spec PyProof.Rows L2 RT
open Evl (Ex)
def IsRv (h : Heap) (a : Addr) (sv : Value) (i : Int) : Prop := ∃ o, h.get? a = some o ∧ o.cls = .type "reversed" ∧ o.data = .fields #[sv, rawInt i]
theorem IsRv.at {h h' : Heap} {a : Addr} {sv : Value} {i : Int} (x : IsRv h a sv i) (e : ∀ o, h.get? a = some o → h'.get? a = some o) : IsRv h' a sv i := let ⟨o, ho, r⟩ := x; ⟨o, e _ ho, r⟩
section
variable {prog : Program} {w : World} {A : Around} {E : Value → Shared → Prop} {s : Shared} {x : Str} {t : Tok}
end
/-! ### over data -/
variable [Tb]
section
variable {X : Cx}
end
end Dx

namespace Dx
open PySem PySem.Spec PyProof.Rows L2
open Evl (Ex)
variable [Tb]
end Dx

namespace Dx
open PySem PySem.Spec PyProof.Rows L2
open Evl (Ex)
variable [Tb]
/-! ### a list taken apart -/
section
variable {X : Cx} {pos : Pos}
end
end Dx

namespace Dx
open PySem PySem.Spec PyProof.Rows L2
open Evl (Ex)
variable [Tb]
theorem Told1.go {M : Mach} (h : M.Ok) {lang : List Nat → Bool} {R : Mach} {n : Nat} (l : LeastOf M.L lang R) (few : R.steps.length ≤ n) (hn : n ≤ 10000) : Told1 M.L lang R := Told1.of h l (Nat.le_trans few hn)
/-- at most two words, of at most three letters -/
structure Wish2 (L : List Nat) (W : Wish) : Prop where
  deep : W.deep ≤ 6
  size : W.size ≤ 1000
  two : W.words.length ≤ 2
  len : ∀ w ∈ W.words, w.length ≤ 3 ∧ ∀ c ∈ w, c ∈ L
theorem vol_two {ws : List (List Nat)} (h2 : ws.length ≤ 2) (h3 : ∀ w ∈ ws, w.length ≤ 3) : vol ws ≤ 16 := by
  match ws, h2, h3 with
  | [], _, _ => show 1 ≤ 16; omega
  | [a], _, h3 =>
    have := h3 a (by simp)
    show (a.length + 1) * 1 ≤ 16
    omega
  | [a, b], _, h3 =>
    have h1 := h3 a (by simp)
    have h2 := h3 b (by simp)
    show (a.length + 1) * ((b.length + 1) * 1) ≤ 16
    rw [Nat.mul_one]
    exact Nat.mul_le_mul (show a.length + 1 ≤ 4 by omega) (show b.length + 1 ≤ 4 by omega)
theorem Wish2.vol16 {L : List Nat} {W : Wish} (h : Wish2 L W) : ∀ ws, WordsIn W ws → vol ws ≤ 16 := fun ws hw => by
  refine vol_two ?_ fun w hm => (h.len w ((hw.mem w).mp hm)).1
  have := sub_le (m := W.words) hw.nd fun w hm => (hw.mem w).mp hm
  exact Nat.le_trans this h.two
theorem Wish2.sm {L : List Nat} {W : Wish} (h : Wish2 L W) (hl : ∀ c ∈ L, c ∈ abc) : WishSm L W where
  deep := h.deep
  size := h.size
  len := fun w hw => by have := (h.len w hw).1; omega
  low := fun w hw c hc => by have := abc_small (hl c ((h.len w hw).2 c hc)); omega
  few := fun ws hw => by have := h.vol16 ws hw; omega
theorem Wish2.map {L : List Nat} {W : Wish} (h : Wish2 L W) {g : List Nat → List Nat} (hg : ∀ w, (g w).length ≤ w.length ∧ ∀ c ∈ g w, c ∈ w) : Wish2 L (W.map g) where
  deep := by rw [Wish.map_deep]; exact h.deep
  size := by rw [Wish.map_size]; exact h.size
  two := by rw [Wish.map_words, List.length_map]; exact h.two
  len := fun w hw => by
    rw [Wish.map_words] at hw
    obtain ⟨u, hu, rfl⟩ := List.mem_map.mp hw
    have h1 := h.len u hu
    have h2 := hg u
    exact ⟨by omega, fun c hc => h1.2 c (h2.2 c hc)⟩
/-- what a least machine of a wish is, told with its size -/
theorem Wish2.told {L : List Nat} {W : Wish} (h : Wish2 L W) (hl : IsLetters L) (ll : 0 < L.length ∧ L.length ≤ 26) {Q : RV → Mu → Prop} (q : ∀ R, LeastOf L W.holds R → Told1 L W.holds R → R.steps.length ≤ 16 → Q (.dv (.dat R.toD)) []) : S_machine_of [.dat (.str L), .dat W.toD] [] Q :=
  ⟨L, W, rfl, rfl, hl, ll, h.deep, h.size, (h.sm hl.2).len, (h.sm hl.2).low, fun ws hw => by have := h.vol16 ws hw; omega, fun ws R hw hR hn => by
    have h64 := h.vol16 ws hw
    have ok := hR.ok hl ll (by omega)
    exact q R hR ⟨hR, ok, hR.len, fun t ht => hR.took (rise_nd hl.1) ht⟩ (by omega)⟩
end Dx

namespace Dx
open PySem PySem.Spec PyProof.Rows L2
open Evl (Ex)
variable [Tb]
/-- two wishes whose words are few, and those of both -/
structure Pair2 (L : List Nat) (A B : Wish) : Prop where
  a : Wish2 L A
  b : Wish2 L B
  da : A.deep ≤ 5
  db : B.deep ≤ 5
  sa : A.size ≤ 400
  sb : B.size ≤ 400
  few : FewL (.con A B)
theorem Pair2.swap {L : List Nat} {A B : Wish} (h : Pair2 L A B) : Pair2 L B A := ⟨h.b, h.a, h.db, h.da, h.sb, h.sa, fun ws hw => h.few ws ⟨hw.ord, hw.nd, fun w => by rw [hw.mem w]; show w ∈ B.words ++ A.words ↔ w ∈ A.words ++ B.words; rw [List.mem_append, List.mem_append]; exact Or.comm⟩⟩
end Dx

namespace Dx
open PySem PySem.Spec PyProof.Rows L2
open Evl (Ex)
variable [Tb]
/-! ### a def that bears another name -/
structure DfA (K : PySem.W.Frag) (mg : Str → Option Value) (x y : Str) (st : Stmt) (ps : List Str) : Prop where
  ok : ∃ f fd, Fun K y y st f fd ∧ mg x = some (.ref f) ∧ Binds K fd ps []
theorem DfA.cal {P : Program} {w : World} {K : PySem.W.Frag} {mg : Str → Option Value} {base : Heap} {x y : Str} {st : Stmt} {N ps : List Str} {S : FS} {t : DS} (k : Nat) (D : DfA K mg x y st ps) (sc : FnScope N ps (defScope st))
    (len : ∀ xs mu Q, S xs mu Q → xs.length = ps.length) (rd : Body t N S)
    (body : ∀ (f : Addr) (cdv : Value) (A : Around) (outer : List Env) (s : Shared) (H : Hp) (E : XK), Room k (A.deeper (envOfC y (defScope st) s.heap.objs.size f cdv)) →
      CSs (cxOf CX0 P w K mg base N y (defScope st) f cdv A outer s H E).nox (defBody st) t) : Cal P w K mg base (k + 1) x ps S := by
  obtain ⟨f, fd, F, m, b⟩ := D.ok
  exact ⟨f, fd, dfn F sc len fun cdv A outer s H E hr => ⟨t, body f cdv A outer s H E hr, rd⟩, m, F.kp, b⟩
end Dx

namespace Dx
open PySem PySem.Spec PyProof.Rows L2
open Evl (Ex)
variable [Tb]
theorem Wish.alike {t u : List Nat} {k : Nat} (h : AlikeTo t u k) : ∀ {W : Wish}, (∀ w ∈ W.words, w.length ≤ k) → W.holds t = W.holds u
  | .always, _ => rfl
  | .never, _ => rfl
  | .has w, hw => h w (hw w (by simp [Wish.words]))
  | .neg a, hw => by simp only [Wish.holds, Wish.alike h (W := a) hw]
  | .con a b, hw => by simp only [Wish.holds, Wish.alike h (W := a) fun w m => hw w (by simp [Wish.words, m]), Wish.alike h (W := b) fun w m => hw w (by simp [Wish.words, m])]
  | .dis a b, hw => by simp only [Wish.holds, Wish.alike h (W := a) fun w m => hw w (by simp [Wish.words, m]), Wish.alike h (W := b) fun w m => hw w (by simp [Wish.words, m])]
theorem First.at {L : List Nat} {lang : List Nat → Bool} {ws : List (List Nat)} (f : First L lang ws) {v : List Nat} (hv : Over L v) : ∃ w, ws[eIdx L lang ws v]? = some w ∧ Eqv L lang w v := by
  obtain ⟨w, hw, e, _⟩ := f.all v hv
  obtain ⟨j, hj, ej⟩ := List.getElem_of_mem hw
  have h1 : ws[j]? = some w := by rw [List.getElem?_eq_getElem hj, ej]
  rw [f.idx h1 e]
  exact ⟨w, h1, e⟩
theorem LeastOf.b0 {L : List Nat} {lang : List Nat → Bool} {R : Mach} (l : LeastOf L lang R) : R.b = 0 := by
  obtain ⟨ws, f, rfl⟩ := l
  rfl
end Dx

namespace Dx
open PySem PySem.Spec PyProof.Rows L2
open Evl (Ex)
variable [Tb]
section
variable {X : Cx} {pins : List (Addr × Obj)} {σ : L2.St} {H : Hp} {s : Shared} {a : Addr} {ep : Nat} {xs : List (NestedKey × V × V)}
end
section
variable {P : Program} {w : World} {K : PySem.W.Frag} {tg : Expr} {ep : Nat} {xs : List (NestedKey × V × V)}
end
section
variable {X : Cx} {tg e : Expr} {td : TE} {apos cpos : Pos}
end
section
variable {F : Hp} {w : World} {a : Addr} {ep : Nat} {ks ds : List D} {us vs : List V}
end
section
variable {X : Cx} {tg e : Expr} {te : DE} {ap cp tpos : Pos} {elts : List Expr} {kk : Nat}
end
end Dx

namespace Dx
open PySem PySem.Spec PyProof.Rows L2 PySem.Froz
open Evl (Ex)
variable [Tb]
/-! ### sorted(set(list of texts)) -/
theorem strsAre_at : ∀ {us : List Value} {xs : List Str}, StrsAre us xs → ∀ (i : Nat) (v : Value), us[i]? = some v → ∃ y t, xs[i]? = some y ∧ v = .str y t
  | _, _, .nil, i, v, h => by simp at h
  | _, _, .cons n t hr, 0, v, h => by
    simp only [List.getElem?_cons_zero, Option.some.injEq] at h
    exact ⟨n, t, rfl, h.symm⟩
  | _, _, .cons n t hr, i + 1, v, h => by
    simp only [List.getElem?_cons_succ] at h ⊢
    exact strsAre_at hr i v h
def TxtAt (xs : List Str) (i : Nat) (v : Value) : Prop := ∃ y t, xs[i]? = some y ∧ v = .str y t
section
variable {P : Program} {w : World} {A : Around} {a : Addr} {R : Result → Shared → Prop}
theorem txs_update {xs : List Str} {I : Addr} {fp wr : List Addr} {n : Nat} {St : Nat → Heap → Prop} (W : Walks P w A.in1 I fp wr n (TxtAt xs) St) (hn : n = xs.length) (haf : a ∉ fp) (hb : n + 1 < scanBound) :
    ∀ (m i : Nat) (s : Shared) (D : SD) (l : List Str), n - i = m → i ≤ n → St i s.heap → s.heap.get? a = some (sObj "set" D) → TxR P w D l → (∀ y, y ∈ l ↔ y ∈ xs.take i) → l.length ≤ i →
      (∀ h' tk (D' : SD) (l' : List Str), h'.get? a = some (sObj "set" D') → TxR P w D' l' → (∀ y, y ∈ l' ↔ y ∈ xs) → l'.length ≤ n → (∀ b o, b ∉ wr → b ≠ a → s.heap.get? b = some o → h'.get? b = some o) → R (.ok (.ret .none)) { s with heap := h', toks := tk }) →
      codeAny (model P w) A (.builtin "set.update.loop" ⟨[.ref a, .ref I], []⟩) R s := by
  have haw : a ∉ wr := fun z => haf (W.sub _ z)
  intro m
  induction m with
  | zero =>
    intro i s D l hm hi hst ho hR hS hl q
    have hin : i = n := by omega
    subst hin
    refine codeAny_builtin F.entry_set_update_loop ?_
    rw [Around.under_plainId F.plain_set_update_loop _]
    show wpAny _ A.in1 (pyNext (.ref I) >>= _) _ _ s
    refine wpAny_bind (W.done s _ _ hst fun h' tk hk => ?_)
    show wpAny _ A.in1 (ret Value.none) _ _ _
    exact wpAny_pure (q h' tk D l (hk a _ haw ho) hR (fun y => by rw [hS y, List.take_of_length_le (by omega)]) hl fun b o b1 _ e => hk b o b1 e)
  | succ m ih =>
    intro i s D l hm hi hst ho hR hS hl q
    have hlt : i < n := by omega
    refine codeAny_builtin F.entry_set_update_loop ?_
    rw [Around.under_plainId F.plain_set_update_loop _]
    show wpAny _ A.in1 (pyNext (.ref I) >>= _) _ _ s
    refine wpAny_bind (W.item i s _ _ hlt hst fun v h1 tk hP hst1 hk => ?_)
    obtain ⟨x, t, hx, rfl⟩ := hP
    show wpAny _ A.in1 (holding [Value.str x t] (setAdd a (.str x t)) >>= _) _ _ _
    refine wpAny_bind (wpAny_holding ?_)
    refine sign_in (s := { s with heap := h1, toks := tk }) (hk a _ haw ho) hR (by omega) fun b D' l' h2 ho2 hR2 hm2 hl2 sb => ?_
    have hst2 : St (i + 1) h2 := W.frame _ _ _ hst1 fun b hb o e => by
      rw [sb.2 b (fun z => haf (z ▸ hb))]
      exact e
    refine wpAny_pure ⟨plainId_quiet F.plain_set_update_loop _, ih (i + 1) _ D' l' (by omega) hlt hst2 ho2 hR2 (fun y => ?_) (by omega) fun h3 tk3 D3 l3 o3 r3 s3 n3 k3 => q h3 tk3 D3 l3 o3 r3 s3 n3 fun b o b1 b2 e => k3 b o b1 b2 ?_⟩
    · rw [hm2, hS y, List.take_add_one, hx, List.mem_append]
      simp
    · show h2.get? b = some o
      rw [sb.2 b b2]
      exact hk b o b1 e
end
section
variable {P : Program} {w : World} {A : Around} {E : Value → Shared → Prop} {s : Shared}
set_option maxHeartbeats 8000000 in
/-- set(list of texts) -/
theorem call_set_txs {l : Addr} {items : Array Value} {xs : List Str} {Q : Value → Shared → Prop} (hh : A.handled = none) (hl : s.heap.IsList l items) (hi : StrsAre items.toList xs) (hb : xs.length + 1 < scanBound)
    (q : ∀ (h' : Heap) (tk : Nat) (D : SD) (l : List Str), h'.get? s.heap.objs.size = some (sObj "set" D) → TxR P w D l → (∀ y, y ∈ l ↔ y ∈ xs) → l.length ≤ xs.length → (∀ b o, s.heap.get? b = some o → h'.get? b = some o) → Q (.ref s.heap.objs.size) { s with heap := h', toks := tk }) :
    wpAny (model P w) A (call (.type "set") [.ref l]) Q E s := by
  obtain ⟨c, tl, hmro⟩ := F.called_set.mro
  have hmade := F.called_set.made
  have hsub := F.called_set.sub
  refine wpAny_call (codeAny_of_tree ?_)
  show wpAny _ _ (callAny (.type "set") _) _ _ _
  refine wpAny_pure ⟨Code.quiet_builtin _ (by decide +kernel), codeAny_builtin F.entry_type_call ?_⟩
  rw [Around.under_plain (weight_type_call_type "set" [.ref l] []) rfl]
  have h1 := F.called_set.notType
  have h2 := F.called_set.canCreate
  have hct := F.typeCall_set_1 (.ref l)
  repeat (any_goals (first | assumption | wp_step))
  refine codeAny_mono (code_set_led1 (.ref l) (E := E) (Q₁ := fun obj s₁ => obj = .ref s.heap.objs.size ∧ s₁ = { s with heap := s.heap.push (sObj "set" (newS w)) }) ⟨rfl, rfl⟩) fun r s₁ hr => ?_
  cases r with
  | error e => exact hr
  | ok fl =>
    cases fl with
    | ret obj =>
      obtain ⟨rfl, rfl⟩ := hr
      have hS : (s.heap.push (sObj "set" (newS w))).get? s.heap.objs.size = some (sObj "set" (newS w)) := Heap.get?_push_size _ rfl
      have hT : Shared.TypeIs { s with heap := s.heap.push (sObj "set" (newS w)) } (.ref s.heap.objs.size) "set" := ⟨_, hS, rfl⟩
      have hli := F.called_set.init.lookup
      have hbi := F.called_set.init.bind (.ref s.heap.objs.size)
      repeat (any_goals (first | assumption | wp_step))
      have hz : (s.heap.push (sObj "set" (newS w))).objs.size = s.heap.objs.size + 1 := Heap.size_push ..
      refine codeAny_mono (codeAny_call_builtin (R := wants (fun r s₂ => r = .none ∧ ∃ h' tk D l, s₂ = { s with heap := h', toks := tk } ∧ h'.get? s.heap.objs.size = some (sObj "set" D) ∧ TxR P w D l ∧ (∀ y, y ∈ l ↔ y ∈ xs) ∧ l.length ≤ xs.length ∧
          ∀ b o, s.heap.get? b = some o → h'.get? b = some o) E) F.called_set.init.plain F.entry_set_init (check_set_init_1 hT ?_)) fun r₂ s₂ hr₂ => ?_
      · obtain ⟨ol, hol, hcl, nl, hdl⟩ := hl
        obtain ⟨ocls, odict, odata, oslots⟩ := ol
        simp only at hcl hdl
        subst hcl; subst hdl
        have hol' : (s.heap.push (sObj "set" (newS w))).get? l = some { cls := .type "list", dict := odict, data := .seq items nl, slots := oslots } := Heap.get?_push_of_some _ hol
        have hsls := F.sub_list_set
        have hslf := F.sub_list_frozenset
        have hne : (Value.type "list" == Value.type "dict") = false := by decide
        have hl1 : (s.heap.push (sObj "set" (newS w))).IsList l items := ⟨_, hol', rfl, nl, rfl⟩
        unfold Builtin.«set.__init__» noKeywords Builtin.Frozenset.updateFrom
        generalize hPI : pyIter = PI
        wp_walk
        subst hPI
        refine wpAny_pyIter_list hl1 ?_
        refine wpAny_bind (wpAny_runValue ?_)
        have hlS : l < s.heap.objs.size := Heap.lt_size hol
        have hh3 : A.in1.in1.in1.handled = none := by simp [hh]
        have hneI : l ≠ (s.heap.push (sObj "set" (newS w))).objs.size := by
          rw [hz]; exact Nat.ne_of_lt (Nat.lt_succ_of_lt hlS)
        have n1 : s.heap.objs.size ∉ [(s.heap.push (sObj "set" (newS w))).objs.size, l] := by
          rw [hz]; simp only [List.mem_cons, List.mem_singleton, List.not_mem_nil, or_false, not_or]
          exact ⟨Nat.ne_of_lt (Nat.lt_succ_self _), Nat.ne_of_gt hlS⟩
        have none_of : ∀ b, s.heap.objs.size ≤ b → s.heap.get? b = none := fun b hb => by
          cases z : s.heap.get? b with
          | none => rfl
          | some o => exact absurd (Nat.lt_of_lt_of_le (Heap.lt_size z) hb) (Nat.lt_irrefl _)
        have hsz : items.size = xs.length := by rw [← StrsAre.len_eq hi, Array.length_toList]
        have W := (Walks.list (prog := P) (w := w) hh3 (s.heap.push (sObj "set" (newS w))).objs.size l hneI items).mono_item (P' := TxtAt xs) fun i v hlt hv => strsAre_at hi i v (by rw [Array.getElem?_toList]; exact hv)
        refine txs_update (a := s.heap.objs.size) (xs := xs) W hsz n1 (by omega) _ 0 _ (newS w) [] rfl (Nat.zero_le _) ⟨⟨_, Heap.get?_push_size _ rfl, rfl, rfl⟩, (hl1.push _)⟩ (Heap.get?_push_of_some _ hS) (newS_ok P w) (fun y => by simp) (Nat.le_refl _) fun h' tk D l o1 r1 s1 l1 k1 => ?_
        show wpAny _ _ _ _ _ _
        refine wpAny_pure ?_
        show wpAny _ _ (ret Value.none) _ _ _
        refine wpAny_pure ⟨rfl, h', tk, D, l, rfl, o1, r1, s1, by omega, fun b o e => k1 b o (fun z => ?_) (fun z => ?_) (Heap.get?_push_of_some _ (Heap.get?_push_of_some _ e))⟩
        · rw [List.mem_singleton, hz] at z
          rw [z, none_of _ (by omega)] at e
          cases e
        · rw [z, none_of _ (Nat.le_refl _)] at e
          cases e
      · cases r₂ with
        | error e => exact hr₂
        | ok fl₂ =>
          cases fl₂ with
          | ret r =>
            obtain ⟨rfl, h', tk, D, l, rfl, o1, r1, s1, n1, k1⟩ := hr₂
            repeat (any_goals (first | assumption | wp_step))
            exact q h' tk D l o1 r1 s1 n1 k1
          | _ => exact hr₂.elim
    | _ => exact hr.elim
end
def rSetTs (P : Program) (w : World) (K : PySem.W.Frag) : List V → Hp → VK → Prop := fun vs H Q => ∃ (p : Addr) (xs : List Str), vs = [.ref p] ∧ SqL K H p (xs.map V.str) ∧ xs.length ≤ 4000 ∧ ∀ a l, H a = none → l.Nodup → (∀ y, y ∈ l ↔ y ∈ xs) → l.length ≤ xs.length → Q (.ref a) (upd H a (SetTx P w a l))
theorem cr_setTs {X : Cx} (hc : X.calm = true) : CallR X (.type "set") (rSetTs X.prog X.w X.K) := by
  intro pins s σ H vs us Q I r h
  obtain ⟨p, xs, rfl, hq, hb, q⟩ := h
  have eu := Vals.ref1 r
  subst eu
  obtain ⟨its, rv, pl, hz⟩ := I.list hq
  have hn : H s.heap.objs.size = none := I.hok.fresh (Nat.le_refl _)
  refine call_set_txs (I.ok.hd hc) pl.isList (by simpa using rv.strs) (by unfold scanBound; omega) fun h' tk D l o1 r1 s1 l1 k1 => ?_
  refine ⟨.ref s.heap.objs.size, upd H s.heap.objs.size (SetTx X.prog X.w s.heap.objs.size l), I.laid (t' := tk) k1 (Nat.le_refl _) ?_, rfl, q _ l hn r1.nd s1 l1⟩
  exact ⟨⟨D, o1, r1⟩, ⟨_, o1⟩, fun h1 h2 ⟨D', o, r⟩ k => ⟨D', k _ o, r⟩⟩
section
variable {X : Cx} {e : Expr} {te : DE} {p p2 pos pos2 : Pos}
end
end Dx

namespace Dx
open PySem PySem.Spec PyProof.Rows L2
open Evl (Ex)
variable [Tb]
theorem nat_few {n : Nat} {l : List Nat} (nd : l.Nodup) (h : ∀ x ∈ l, x < n) : l.length ≤ n := by
  have := nodup_le (m := List.range n) nd fun x hx => List.mem_range.mpr (h x hx)
  rwa [List.length_range] at this
end Dx

namespace Dx
open PySem PySem.Spec PyProof.Rows L2
open Evl (Ex)
variable [Tb]
/-- from a room to an unlike one and back -/
structure IsRing (M : Mach) (r : Nat) (u v : List Nat) : Prop where
  lt : r < M.steps.length
  ou : Over M.L u
  ov : Over M.L v
  lu : u.length ≤ M.steps.length
  lv : v.length ≤ M.steps.length
  ne : M.go r u ≠ r
  back : M.go (M.go r u) v = r
def NoRing (M : Mach) : Prop := ∀ r, r < M.steps.length → ∀ u v, Over M.L u → Over M.L v → M.go (M.go r u) v = r → M.go r u = r
end Dx

namespace Dx
open PySem PySem.Spec PyProof.Rows L2
open Evl (Ex)
variable [Tb]
/-! ### ranks -/
/-- so many steps, each to an unlike room, lead to a room -/
inductive Way (M : Mach) : Nat → Nat → Prop
  | zero {v : Nat} (h : v < M.steps.length) : Way M 0 v
  | step {n u c : Nat} (w : Way M n u) (hc : c ∈ M.L) (ne : M.stp u c ≠ u) : Way M (n + 1) (M.stp u c)
theorem Way.lt {M : Mach} (ok : M.Ok) {n v : Nat} (w : Way M n v) : v < M.steps.length := by
  induction w with
  | zero h => exact h
  | step w hc ne ih =>
    obtain ⟨_, _, _, h⟩ := ok.stp ih hc
    exact h
theorem Way.trail {M : Mach} (ok : M.Ok) (nr : NoRing M) {n v : Nat} (w : Way M n v) : ∃ vs : List Nat, vs.Nodup ∧ vs.length = n + 1 ∧ ∀ x ∈ vs, x < M.steps.length ∧ ∃ t, Over M.L t ∧ M.go x t = v := by
  induction w with
  | @zero v h => exact ⟨[v], by simp, rfl, fun x hx => by
      rw [List.mem_singleton] at hx
      subst hx
      exact ⟨h, [], Over.nil, rfl⟩⟩
  | @step n u c w hc ne ih =>
    obtain ⟨vs, nd, hl, hv⟩ := ih
    have ul := w.lt ok
    obtain ⟨_, _, _, sl⟩ := ok.stp ul hc
    refine ⟨M.stp u c :: vs, List.nodup_cons.mpr ⟨fun hm => ?_, nd⟩, by rw [List.length_cons, hl], fun x hx => ?_⟩
    · obtain ⟨_, t, ot, ht⟩ := hv _ hm
      exact ne (nr u ul [c] t (Over.one hc) ot ht)
    · rcases List.mem_cons.mp hx with e | hx
      · subst e
        exact ⟨sl, [], Over.nil, rfl⟩
      · obtain ⟨xl, t, ot, ht⟩ := hv x hx
        refine ⟨xl, t ++ [c], ot.app (Over.one hc), ?_⟩
        rw [M.go_app, ht]
        rfl
theorem Way.few {M : Mach} (ok : M.Ok) (nr : NoRing M) {n v : Nat} (w : Way M n v) : n < M.steps.length := by
  obtain ⟨vs, nd, hl, hv⟩ := w.trail ok nr
  have := nat_few nd fun x hx => (hv x hx).1
  omega
structure RanksOf (M : Mach) (fs : List Nat) : Prop where
  len : fs.length = M.steps.length
  way : ∀ v, v < M.steps.length → Way M (fs.getD v 0) v
  most : ∀ n v, Way M n v → n ≤ fs.getD v 0
theorem getD_set {f : List Nat} {i v x : Nat} (h : i < f.length) : (f.set i x).getD v 0 = if v = i then x else f.getD v 0 := by
  rw [List.getD_eq_getElem?_getD, List.getD_eq_getElem?_getD, List.getElem?_set]
  by_cases e : i = v
  · subst e
    rw [if_pos rfl, if_pos rfl, if_pos h]
    rfl
  · rw [if_neg e, if_neg (fun z => e z.symm)]
/-- one turn over all rooms, so far -/
structure Sweep (M : Mach) (f0 f : List Nat) (r j : Nat) : Prop where
  len : f.length = M.steps.length
  way : ∀ v, v < M.steps.length → Way M (f.getD v 0) v
  mon : ∀ v, f0.getD v 0 ≤ f.getD v 0
  done : ∀ u k c, M.L[k]? = some c → (u < r ∨ (u = r ∧ k < j)) → u < M.steps.length → M.stp u c ≠ u → f0.getD u 0 + 1 ≤ f.getD (M.stp u c) 0
section
variable {M : Mach} {f0 f : List Nat} {r j : Nat}
theorem Sweep.old (S : Sweep M f0 f r j) {c : Nat} (hc : M.L[j]? = some c) (e : M.stp r c = r) : Sweep M f0 f r (j + 1) :=
  ⟨S.len, S.way, S.mon, fun u k c' h1 h2 h3 h4 => by
    by_cases z : u < r ∨ (u = r ∧ k < j)
    · exact S.done u k c' h1 z h3 h4
    · have e1 : u = r := by omega
      have e2 : k = j := by omega
      subst e1
      subst e2
      rw [hc] at h1
      cases h1
      exact absurd e h4⟩
theorem Sweep.put (ok : M.Ok) (S : Sweep M f0 f r j) (hr : r < M.steps.length) {c : Nat} (hc : M.L[j]? = some c) (e : M.stp r c ≠ r) : Sweep M f0 (f.set (M.stp r c) (max (f.getD (M.stp r c) 0) (f.getD r 0 + 1))) r (j + 1) := by
  have hcm := List.mem_of_getElem? hc
  obtain ⟨_, _, _, sl⟩ := ok.stp hr hcm
  have hs : M.stp r c < f.length := by rw [S.len]; exact sl
  refine ⟨by rw [List.length_set]; exact S.len, fun v hv => ?_, fun v => ?_, fun u k c' h1 h2 h3 h4 => ?_⟩
  · rw [getD_set hs]
    split
    · rename_i ev
      subst ev
      by_cases z : f.getD (M.stp r c) 0 ≤ f.getD r 0 + 1
      · rw [Nat.max_eq_right z]
        exact .step (S.way r hr) hcm e
      · rw [Nat.max_eq_left (by omega)]
        exact S.way _ sl
    · exact S.way v hv
  · rw [getD_set hs]
    split
    · rename_i ev
      subst ev
      exact Nat.le_trans (S.mon _) (Nat.le_max_left _ _)
    · exact S.mon v
  · rw [getD_set hs]
    by_cases z : u < r ∨ (u = r ∧ k < j)
    · have := S.done u k c' h1 z h3 h4
      split
      · rename_i ev
        rw [ev] at this
        exact Nat.le_trans this (Nat.le_max_left _ _)
      · exact this
    · have e1 : u = r := by omega
      have e2 : k = j := by omega
      subst e1
      subst e2
      rw [hc] at h1
      cases h1
      rw [if_pos rfl]
      have := S.mon u
      omega
theorem Sweep.row (S : Sweep M f0 f r j) (hj : M.L.length ≤ j) : Sweep M f0 f (r + 1) 0 :=
  ⟨S.len, S.way, S.mon, fun u k c h1 h2 h3 h4 => by
    have := (List.getElem?_eq_some_iff.mp h1).1
    exact S.done u k c h1 (by omega) h3 h4⟩
/-- whatever comes in so few steps -/
def Upto (M : Mach) (t : Nat) (f : List Nat) : Prop := ∀ n v, n ≤ t → Way M n v → n ≤ f.getD v 0
theorem Sweep.turn (ok : M.Ok) {t : Nat} (S : Sweep M f0 f r j) (hr : M.steps.length ≤ r) (U : Upto M t f0) : Upto M (t + 1) f := fun n v hn w => by
  cases w with
  | zero h => exact Nat.zero_le _
  | @step n u c w hc ne =>
    obtain ⟨k, hk⟩ := List.mem_iff_getElem?.mp hc
    have ul := w.lt ok
    have h1 := S.done u k c hk (.inl (by omega)) ul ne
    have h2 := U n u (by omega) w
    omega
end
end Dx

namespace Dx
open PySem PySem.Spec PyProof.Rows L2
open Evl (Ex)
variable [Tb]
section
variable {M : Mach} {a b : Nat} {l : List Nat} {line : LineM} {at' j : Nat}
end
end Dx

namespace Dx
open PySem PySem.Spec PyProof.Rows L2
open Evl (Ex)
variable [Tb]
end Dx

namespace Dx
open PySem PySem.Spec PyProof.Rows L2
open Evl (Ex)
variable [Tb]
end Dx

namespace Dx
open PySem PySem.Spec PyProof.Rows L2
open Evl (Ex)
variable [Tb]
end Dx

namespace Dx
open PySem PySem.Spec PyProof.Rows L2
open Evl (Ex)
variable [Tb]
end Dx

namespace Dx
open PySem PySem.Spec PyProof.Rows L2
open Evl (Ex)
variable [Tb]
/-! ### the law's longest way -/
theorem LeastOf.reach {L : List Nat} {lang : List Nat → Bool} {R : Mach} (l : LeastOf L lang R) (nd : L.Nodup) : ∀ v, v < R.steps.length → ∃ w, Over R.L w ∧ R.go 0 w = v := by
  obtain ⟨ws, f, rfl⟩ := l
  intro v hv
  have hv' : v < ws.length := by
    have : (machOf L lang ws).steps.length = ws.length := by
      unfold machOf
      rw [List.length_map]
    omega
  have hw : ws[v]? = some ws[v] := List.getElem?_eq_getElem hv'
  have ow : Over L ws[v] := ((f.mem _).mp (List.mem_of_getElem? hw)).1
  exact ⟨ws[v], ow, by rw [f.go nd _ ow, f.idx hw (Eqv.refl _)]⟩
/-- so many steps, each to an unlike room, from the begin -/
inductive FWay (M : Mach) : Nat → Nat → Prop
  | zero : FWay M 0 0
  | step {n u c : Nat} (w : FWay M n u) (hc : c ∈ M.L) (ne : M.stp u c ≠ u) : FWay M (n + 1) (M.stp u c)
theorem FWay.way {M : Mach} (h0 : 0 < M.steps.length) {n v : Nat} (w : FWay M n v) : Way M n v := by
  induction w with
  | zero => exact .zero h0
  | step w hc ne ih => exact .step ih hc ne
/-- the most of all ways -/
def Longest (M : Mach) (m : Nat) : Prop := (∃ v, Way M m v) ∧ ∀ n v, Way M n v → n ≤ m
theorem Longest.uniq {M : Mach} {a b : Nat} (h : Longest M a) (g : Longest M b) : a = b := by
  obtain ⟨v, hv⟩ := h.1
  obtain ⟨u, hu⟩ := g.1
  have := h.2 _ _ hu
  have := g.2 _ _ hv
  omega
def LongL (M : Mach) (d : D) : Prop := (∃ m, NoRing M ∧ Longest M m ∧ d = natD m) ∨ (¬ NoRing M ∧ d = .non)
theorem LongL.uniq {M : Mach} {d e : D} (h : LongL M d) (g : LongL M e) : d = e := by
  rcases h with ⟨m, nr, l, rfl⟩ | ⟨r, rfl⟩
  · rcases g with ⟨m', _, l', rfl⟩ | ⟨r', rfl⟩
    · rw [l.uniq l']
    · exact absurd nr r'
  · rcases g with ⟨m', nr', _, rfl⟩ | ⟨r', rfl⟩
    · exact absurd nr' r
    · rfl
theorem IsRing.not {M : Mach} {r : Nat} {u v : List Nat} (h : IsRing M r u v) : ¬ NoRing M := fun n => h.ne (n r h.lt u v h.ou h.ov h.back)
/-- what is found for a room: none yet, or a way's length -/
def Fnd (M : Mach) (f : List Int) : Prop := f.length = M.steps.length ∧ ∀ v, v < M.steps.length → f.getD v 0 = -1 ∨ ∃ n : Nat, f.getD v 0 = (n : Int) ∧ FWay M n v
theorem getD_setI {f : List Int} {i v : Nat} {x : Int} (h : i < f.length) : (f.set i x).getD v 0 = if v = i then x else f.getD v 0 := by
  rw [List.getD_eq_getElem?_getD, List.getD_eq_getElem?_getD, List.getElem?_set]
  by_cases e : i = v
  · subst e
    rw [if_pos rfl, if_pos rfl, if_pos h]
    rfl
  · rw [if_neg e, if_neg (fun z => e z.symm)]
def UptoF (M : Mach) (t : Nat) (f : List Int) : Prop := ∀ n v, n ≤ t → FWay M n v → (n : Int) ≤ f.getD v 0
structure SwF (M : Mach) (f0 f : List Int) (r j : Nat) : Prop where
  fnd : Fnd M f
  mon : ∀ v, f0.getD v 0 ≤ f.getD v 0
  done : ∀ u k c, M.L[k]? = some c → (u < r ∨ (u = r ∧ k < j)) → u < M.steps.length → M.stp u c ≠ u → 0 ≤ f0.getD u 0 → f0.getD u 0 + 1 ≤ f.getD (M.stp u c) 0
section
variable {M : Mach} {f0 f : List Int} {r j : Nat}
theorem SwF.old (S : SwF M f0 f r j) {c : Nat} (hc : M.L[j]? = some c) (e : M.stp r c = r ∨ ¬ 0 ≤ f0.getD r 0) : SwF M f0 f r (j + 1) :=
  ⟨S.fnd, S.mon, fun u k c' h1 h2 h3 h4 h5 => by
    by_cases z : u < r ∨ (u = r ∧ k < j)
    · exact S.done u k c' h1 z h3 h4 h5
    · have e1 : u = r := by omega
      have e2 : k = j := by omega
      subst e1
      subst e2
      rw [hc] at h1
      cases h1
      rcases e with e | e
      · exact absurd e h4
      · exact absurd h5 e⟩
theorem SwF.put (ok : M.Ok) (F0 : Fnd M f0) (S : SwF M f0 f r j) (hr : r < M.steps.length) {c : Nat} (hc : M.L[j]? = some c) (e : M.stp r c ≠ r) (h0 : 0 ≤ f0.getD r 0) :
    SwF M f0 (f.set (M.stp r c) (if f0.getD r 0 + 1 > f.getD (M.stp r c) 0 then f0.getD r 0 + 1 else f.getD (M.stp r c) 0)) r (j + 1) := by
  have hcm := List.mem_of_getElem? hc
  obtain ⟨_, _, _, sl⟩ := ok.stp hr hcm
  have hs : M.stp r c < f.length := by rw [S.fnd.1]; exact sl
  refine ⟨⟨by rw [List.length_set]; exact S.fnd.1, fun v hv => ?_⟩, fun v => ?_, fun u k c' h1 h2 h3 h4 h5 => ?_⟩
  · rw [getD_setI hs]
    by_cases ev : v = M.stp r c
    · subst ev
      rw [if_pos rfl]
      by_cases z : f0.getD r 0 + 1 > f.getD (M.stp r c) 0
      · rw [if_pos z]
        rcases F0.2 r hr with q | ⟨n, q, w⟩
        · omega
        · exact .inr ⟨n + 1, by rw [q]; rfl, .step w hcm e⟩
      · rw [if_neg z]
        exact S.fnd.2 _ sl
    · rw [if_neg ev]
      exact S.fnd.2 v hv
  · rw [getD_setI hs]
    have := S.mon v
    by_cases ev : v = M.stp r c
    · subst ev
      rw [if_pos rfl]
      split <;> omega
    · rw [if_neg ev]
      exact this
  · rw [getD_setI hs]
    by_cases z : u < r ∨ (u = r ∧ k < j)
    · have := S.done u k c' h1 z h3 h4 h5
      by_cases ev : M.stp u c' = M.stp r c
      · rw [if_pos ev]
        rw [ev] at this
        split <;> omega
      · rw [if_neg ev]
        exact this
    · have e1 : u = r := by omega
      have e2 : k = j := by omega
      subst e1
      subst e2
      rw [hc] at h1
      cases h1
      rw [if_pos rfl]
      split <;> omega
theorem SwF.row (S : SwF M f0 f r j) (hj : M.L.length ≤ j) : SwF M f0 f (r + 1) 0 :=
  ⟨S.fnd, S.mon, fun u k c h1 h2 h3 h4 h5 => by
    have := (List.getElem?_eq_some_iff.mp h1).1
    exact S.done u k c h1 (by omega) h3 h4 h5⟩
theorem FWay.lt (ok : M.Ok) {n v : Nat} (w : FWay M n v) : v < M.steps.length := (w.way ok.rooms.1).lt ok
theorem SwF.turn (ok : M.Ok) {t : Nat} (S : SwF M f0 f r j) (hr : M.steps.length ≤ r) (U : UptoF M t f0) : UptoF M (t + 1) f := fun n v hn w => by
  cases w with
  | zero =>
    have h1 := U 0 0 (by omega) .zero
    have h2 := S.mon 0
    omega
  | @step n u c w hc ne =>
    obtain ⟨k, hk⟩ := List.mem_iff_getElem?.mp hc
    have ul := w.lt ok
    have h2 := U n u (by omega) w
    have h1 := S.done u k c hk (.inl (by omega)) ul ne (by omega)
    show ((n : Int) + 1) ≤ _
    omega
/-- nothing more: no rings, and these are the longest -/
structure Still (M : Mach) (f : List Int) : Prop where
  pos : ∀ v, v < M.steps.length → 0 ≤ f.getD v 0
  up : ∀ u c, u < M.steps.length → c ∈ M.L → M.stp u c ≠ u → f.getD u 0 + 1 ≤ f.getD (M.stp u c) 0
theorem Still.text (ok : M.Ok) (S : Still M f0) : ∀ (w : List Nat) (u : Nat), u < M.steps.length → Over M.L w → f0.getD u 0 ≤ f0.getD (M.go u w) 0 ∧ (M.go u w ≠ u → f0.getD u 0 < f0.getD (M.go u w) 0)
  | [], u, _, _ => ⟨Int.le_refl _, fun h => absurd rfl h⟩
  | c :: w, u, hu, ow => by
    have hc := ow c (by simp)
    obtain ⟨_, _, _, sl⟩ := ok.stp hu hc
    obtain ⟨h1, h2⟩ := S.text ok w (M.stp u c) sl fun d hd => ow d (by simp [hd])
    show f0.getD u 0 ≤ f0.getD (M.go (M.stp u c) w) 0 ∧ (M.go (M.stp u c) w ≠ u → f0.getD u 0 < f0.getD (M.go (M.stp u c) w) 0)
    by_cases ne : M.stp u c = u
    · rw [ne] at h1 h2 ⊢
      exact ⟨h1, h2⟩
    · have := S.up u c hu hc ne
      exact ⟨by omega, fun _ => by omega⟩
theorem Still.most (ok : M.Ok) (S : Still M f0) {n v : Nat} (w : Way M n v) : (n : Int) ≤ f0.getD v 0 := by
  induction w with
  | zero h => exact S.pos _ h
  | @step n u c w hc ne ih =>
    have := S.up u c (w.lt ok) hc ne
    show ((n : Int) + 1) ≤ _
    omega
end
/-- a list of whole numbers, as a cell or as data -/
def Lf (rf : DV) (m0 : MC) (f : List Int) : Prop := (rf = .cel 0 ∧ m0 = .lst (f.map D.int)) ∨ rf = .dat (.lst (f.map D.int))
section
variable {rf : DV} {m0 : MC} {f : List Int} {ms : Mu}
theorem Lf.seq (h : Lf rf m0 f) : seqL (m0 :: ms) rf = some (f.map D.int) := by
  rcases h with ⟨rfl, rfl⟩ | rfl <;> rfl
theorem Lf.rd (h : Lf rf m0 f) : rdD (m0 :: ms) rf = some (.lst (f.map D.int)) := by
  rcases h with ⟨rfl, rfl⟩ | rfl <;> rfl
end
end Dx

namespace Dx
open PySem PySem.Spec PyProof.Rows L2
open Evl (Ex)
variable [Tb]
def Meets (M : Mach) (l : List Nat) (a b : Nat) : Prop := ∃ w, Over l w ∧ M.go a w = M.go b w
structure Met (M : Mach) (l : List Nat) (a b : Nat) (met : List (Nat × Nat)) : Prop where
  nd : met.Nodup
  run : ∀ p ∈ met, p.1 < M.steps.length ∧ p.2 < M.steps.length ∧ ∃ w, Over l w ∧ p = (M.go a w, M.go b w)
  ini : (a, b) ∈ met
def Done (M : Mach) (l : List Nat) (met : List (Nat × Nat)) (p : Nat × Nat) : Prop := p.1 ≠ p.2 ∧ ∀ c ∈ l, pstp M M p c ∈ met
section
variable {M : Mach} {l : List Nat} {a b : Nat} {met : List (Nat × Nat)}
theorem Met.few (h : Met M l a b met) : met.length ≤ M.steps.length * M.steps.length := pair_few h.nd fun s hs => ⟨(h.run s hs).1, (h.run s hs).2.1⟩
theorem Met.add (ok : M.Ok) (hl : ∀ c ∈ l, c ∈ M.L) (h : Met M l a b met) {p : Nat × Nat} (hp : p ∈ met) {c : Nat} (hc : c ∈ l) (hn : pstp M M p c ∉ met) : Met M l a b (met ++ [pstp M M p c]) where
  nd := by
    rw [List.nodup_append]
    exact ⟨h.nd, by simp, fun x hx y hy e => by
      rw [List.mem_singleton] at hy
      rw [e, hy] at hx
      exact hn hx⟩
  run := fun q hq => by
    rcases List.mem_append.mp hq with hq | hq
    · exact h.run q hq
    · rw [List.mem_singleton] at hq
      subst hq
      obtain ⟨h1, h2, w, ow, e⟩ := h.run p hp
      obtain ⟨_, _, _, s1⟩ := ok.stp h1 (hl c hc)
      obtain ⟨_, _, _, s2⟩ := ok.stp h2 (hl c hc)
      refine ⟨s1, s2, w ++ [c], ow.app (Over.one hc), ?_⟩
      rw [M.go_app, M.go_app, e]
      rfl
  ini := List.mem_append_left _ h.ini
theorem Met.never (h : Met M l a b met) (d : ∀ p ∈ met, Done M l met p) : ¬ Meets M l a b := by
  rintro ⟨w, ow, e⟩
  have key : ∀ w, Over l w → (M.go a w, M.go b w) ∈ met := by
    intro w
    refine snoc_ind (P := fun w => Over l w → (M.go a w, M.go b w) ∈ met) (fun _ => h.ini) (fun x c ih ow => ?_) w
    have ox : Over l x := fun d hd => ow d (List.mem_append_left _ hd)
    have := (d _ (ih ox)).2 c (ow c (by simp))
    rw [M.go_app, M.go_app]
    exact this
  exact (d _ (key w ow)).1 e
end
end Dx

namespace Dx
open PySem PySem.Spec PyProof.Rows L2
open Evl (Ex)
variable [Tb]
theorem RanksOf.up {M : Mach} {fs : List Nat} (R : RanksOf M fs) {r c : Nat} (hr : r < M.steps.length) (hc : c ∈ M.L) (ne : M.stp r c ≠ r) : fs.getD r 0 < fs.getD (M.stp r c) 0 := R.most _ _ (.step (R.way r hr) hc ne)
end Dx

namespace Dx
open PySem PySem.Spec PyProof.Rows L2
open Evl (Ex)
variable [Tb]
theorem all_blT {α : Type} {l : List α} {mu : Mu} {Q : DV → Mu → Prop} (q : Q (.dat (.bl true)) mu) : dAll [.dat (.lst (l.map fun _ => D.bl true))] mu Q := by
  have e : (l.map fun _ => D.bl true) = (l.map fun _ => true).map D.bl := by rw [List.map_map]; rfl
  rw [e]
  refine all_bl (l := l) (f := fun _ => true) ?_
  have e2 : (l.all fun _ => true) = true := List.all_eq_true.mpr fun _ _ => rfl
  rw [e2]
  exact q
end Dx

namespace Dx
open PySem PySem.Spec PyProof.Rows L2
open Evl (Ex)
variable [Tb]
end Dx

namespace Dx
open PySem PySem.Spec PyProof.Rows L2
open Evl (Ex)
variable [Tb]
theorem itNeI {i j : Int} {A B : Prop} (h1 : i ≠ j → A) (h2 : i = j → B) : if (!eqD (.int i) (.int j)) = true then A else B := by
  rw [eqD_int]
  by_cases h : i = j
  · rw [decide_eq_true h]
    exact h2 h
  · rw [decide_eq_false h]
    exact h1 h
end Dx

namespace Dx
open PySem PySem.Spec PyProof.Rows L2
open Evl (Ex)
variable [Tb]
/-! ### how many classes there are: all that go down with their words -/
def dels1 : List Nat → List (List Nat)
  | [] => []
  | c :: w => w :: (dels1 w).map (c :: ·)
theorem dels1_sub : ∀ {w v : List Nat}, v ∈ dels1 w → v.Sublist w
  | [], _, h => nomatch h
  | c :: w, v, h => by
    unfold dels1 at h
    rcases List.mem_cons.mp h with e | h
    · subst e
      exact List.sublist_cons_self c v
    · obtain ⟨u, hu, rfl⟩ := List.mem_map.mp h
      exact (dels1_sub hu).cons_cons c
def downsStep (acc : List (List (List Nat))) (w : List Nat) : List (List (List Nat)) := acc.flatMap fun S => if (dels1 w).all (fun v => S.contains v) then [S ++ [w], S] else [S]
def downs (base : List (List Nat)) : List (List (List Nat)) := base.foldl downsStep [[]]
def okDown (pre : List (List Nat)) : List (List Nat) → Bool
  | [] => true
  | w :: r => (dels1 w).all (fun v => pre.contains v) && okDown (pre ++ [w]) r
theorem mem_downs {p : List Nat → Bool} (hp : ∀ w v, p w = true → v ∈ dels1 w → p v = true) : ∀ (rest pre : List (List Nat)) (acc : List (List (List Nat))), okDown pre rest = true → pre.filter p ∈ acc → (pre ++ rest).filter p ∈ rest.foldl downsStep acc
  | [], pre, acc, _, h => by
    rw [List.append_nil]
    exact h
  | w :: r, pre, acc, hk, h => by
    unfold okDown at hk
    obtain ⟨h1, h2⟩ := Bool.and_eq_true_iff.mp hk
    have e : pre ++ w :: r = (pre ++ [w]) ++ r := by simp
    rw [e]
    refine mem_downs hp r (pre ++ [w]) (downsStep acc w) h2 ?_
    unfold downsStep
    rw [List.mem_flatMap]
    refine ⟨pre.filter p, h, ?_⟩
    rw [List.filter_append]
    by_cases z : p w = true
    · have hall : ((dels1 w).all fun v => (pre.filter p).contains v) = true := List.all_eq_true.mpr fun v hv => by
        have hv2 := List.all_eq_true.mp h1 v hv
        rw [List.contains_iff_mem] at hv2 ⊢
        exact List.mem_filter.mpr ⟨hv2, hp w v z hv⟩
      rw [if_pos hall]
      simp [z]
    · have e2 : [w].filter p = [] := by simp [z]
      rw [e2, List.append_nil]
      split <;> simp
/-- letters and lengths by which classes are asked -/
structure KOk (L : List Nat) (k : Nat) : Prop where
  lo : 1 ≤ L.length
  hi : L.length ≤ 3
  k3 : k ≤ 3
  k2 : L.length = 3 → k ≤ 2
theorem downs_few {n k : Nat} (h1 : 1 ≤ n) (h3 : n ≤ 3) (hk : k ≤ 3) (h2 : n = 3 → k ≤ 2) : okDown [] (allW (List.range n) k) = true ∧ (downs (allW (List.range n) k)).length ≤ 600 := by
  have hn : n = 1 ∨ n = 2 ∨ n = 3 := by omega
  have hk : k = 0 ∨ k = 1 ∨ k = 2 ∨ k = 3 := by omega
  rcases hn with rfl | rfl | rfl <;> rcases hk with rfl | rfl | rfl | rfl <;> first | omega | exact ⟨by decide +kernel, by decide +kernel⟩
theorem KOk.k6 {L : List Nat} {k : Nat} (h : KOk L k) : k ≤ 6 := by have := h.k3; omega
/-- each class, as the words of places that lie in it -/
def IsCls (L : List Nat) (k : Nat) (s : List (List Nat)) : Prop := ∃ t, Over L t ∧ (clsA k).run t = some s
def placeW (L : List Nat) (w : List Nat) : List Nat := w.map fun i => L.getD i 0
def clsP (L : List Nat) (k : Nat) (s : List (List Nat)) : List (List Nat) := (allW (List.range L.length) k).filter fun w => decide (placeW L w ∈ s)
theorem place_all {L : List Nat} {w : List Nat} (h : Over L w) : ∃ u, u.length = w.length ∧ (∀ i ∈ u, i < L.length) ∧ placeW L u = w := by
  refine ⟨w.map fun c => posL c L, List.length_map _, fun i hi => ?_, ?_⟩
  · obtain ⟨c, hc, rfl⟩ := List.mem_map.mp hi
    exact (pos_of (h c hc)).2.1
  · unfold placeW
    rw [List.map_map]
    refine (List.map_congr_left fun c hc => ?_).trans (List.map_id _)
    obtain ⟨_, _, h3⟩ := pos_of (h c hc)
    show L.getD (posL c L) 0 = c
    rw [List.getD_eq_getElem?_getD, h3]
    rfl
theorem IsCls.mem {L : List Nat} {k : Nat} {s : List (List Nat)} (h : IsCls L k s) {w : List Nat} (hw : w ∈ s) : Over L w ∧ w.length ≤ k ∧ ∀ v : List Nat, v.Sublist w → v ∈ s := by
  obtain ⟨t, ot, hr⟩ := h
  obtain ⟨_, _, mem⟩ := cls_words t hr
  obtain ⟨h1, h2⟩ := (mem w).mp hw
  exact ⟨fun c hc => ot c (h1.subset hc), h2, fun v hv => (mem v).mpr ⟨hv.trans h1, by have := hv.length_le; omega⟩⟩
theorem clsP_inj {L : List Nat} {k : Nat} {a b : List (List Nat)} (ha : IsCls L k a) (hb : IsCls L k b) (e : clsP L k a = clsP L k b) : a = b := by
  have key : ∀ w, Over L w → w.length ≤ k → (w ∈ a ↔ w ∈ b) := fun w ow lw => by
    obtain ⟨u, lu, hu, eu⟩ := place_all ow
    have hm : u ∈ allW (List.range L.length) k := mem_allW.mpr ⟨by omega, fun i hi => List.mem_range.mpr (hu i hi)⟩
    have : u ∈ clsP L k a ↔ u ∈ clsP L k b := by rw [e]
    unfold clsP at this
    rw [List.mem_filter, List.mem_filter, eu, decide_eq_true_iff, decide_eq_true_iff] at this
    exact ⟨fun h => (this.mp ⟨hm, h⟩).2, fun h => (this.mpr ⟨hm, h⟩).2⟩
  obtain ⟨t, ot, hr⟩ := ha
  obtain ⟨u, ou, hs⟩ := hb
  obtain ⟨a1, a2, a3⟩ := cls_words t hr
  obtain ⟨b1, b2, b3⟩ := cls_words u hs
  refine ordW_uniq a1 b1 ((List.perm_ext_iff_of_nodup a2 b2).mpr fun w => ⟨fun h => ?_, fun h => ?_⟩)
  · obtain ⟨o, l, _⟩ := IsCls.mem ⟨t, ot, hr⟩ h
    exact (key w o l).mp h
  · obtain ⟨o, l, _⟩ := IsCls.mem ⟨u, ou, hs⟩ h
    exact (key w o l).mpr h
theorem clsP_mem {L : List Nat} {k : Nat} (K : KOk L k) {s : List (List Nat)} (h : IsCls L k s) : clsP L k s ∈ downs (allW (List.range L.length) k) := by
  refine mem_downs (p := fun w => decide (placeW L w ∈ s)) (fun w v hw hv => ?_) (allW (List.range L.length) k) [] [[]] (downs_few K.lo K.hi K.k3 K.k2).1 (by simp)
  have hw := of_decide_eq_true hw
  exact decide_eq_true ((h.mem hw).2.2 _ ((dels1_sub hv).map _))
theorem cls_count {α : Type} {L : List Nat} {k : Nat} (K : KOk L k) {X : List α} {ps : List (List (List Nat) × α)} (nd : ps.Nodup) (h : ∀ p ∈ ps, IsCls L k p.1 ∧ p.2 ∈ X) : ps.length ≤ 600 * X.length := by
  have nd2 : (ps.map fun p => (clsP L k p.1, p.2)).Nodup := by
    show List.Pairwise (· ≠ ·) _
    rw [List.pairwise_map]
    refine List.Pairwise.imp_of_mem (fun {a b} ha hb hne e => hne ?_) nd
    injection e with e1 e2
    exact Prod.ext (clsP_inj (h a ha).1 (h b hb).1 e1) e2
  have hl := nd2.length_le_of_subset (l₂ := (downs (allW (List.range L.length) k)).flatMap fun s => X.map fun x => (s, x)) fun q hq => by
    obtain ⟨p, hp, rfl⟩ := List.mem_map.mp hq
    exact List.mem_flatMap.mpr ⟨_, clsP_mem K (h p hp).1, List.mem_map.mpr ⟨_, (h p hp).2, rfl⟩⟩
  rw [List.length_map, List.length_flatMap] at hl
  have e : ((downs (allW (List.range L.length) k)).map fun s => (X.map fun x => (s, x)).length) = (downs (allW (List.range L.length) k)).map fun _ => X.length := List.map_congr_left fun w _ => List.length_map _
  rw [e, List.map_const', List.sum_replicate_nat] at hl
  have := Nat.mul_le_mul_right X.length (downs_few K.lo K.hi K.k3 K.k2).2
  omega
/-! ### each text has a class -/
theorem ord_ex (l : List (List Nat)) : ∃ ys : List (List Nat), OrdW ys ∧ ys.Nodup ∧ ∀ w, w ∈ ys ↔ w ∈ l := by
  have h1 : ∃ ys : List (List Nat), ys.Nodup ∧ ∀ w, w ∈ ys ↔ w ∈ l := by
    induction l with
    | nil => exact ⟨[], by simp, fun w => Iff.rfl⟩
    | cons a l ih =>
      obtain ⟨ys, nd, mem⟩ := ih
      by_cases z : a ∈ ys
      · refine ⟨ys, nd, fun w => ?_⟩
        rw [mem, List.mem_cons]
        refine ⟨.inr, fun h => h.elim (fun e => ?_) id⟩
        rw [e]
        exact (mem a).mp z
      · exact ⟨a :: ys, List.nodup_cons.mpr ⟨z, nd⟩, fun w => by rw [List.mem_cons, List.mem_cons, mem]⟩
  obtain ⟨ys, nd, mem⟩ := h1
  have pm := List.mergeSort_perm ys fun a b => !ltW b a
  have so := List.pairwise_mergeSort (le := fun a b : List Nat => !ltW b a) (fun a b c h1 h2 => by
    simp only [Bool.not_eq_true'] at h1 h2 ⊢
    cases z : ltW c a with
    | false => rfl
    | true => rw [ltW_le_trans h2 z] at h1; cases h1) (fun a b => by
    cases z : ltW b a with
    | false => rfl
    | true => rw [ltW_asymm z]; rfl) ys
  refine ⟨ys.mergeSort fun a b => !ltW b a, so.imp fun {a b} h => by simpa using h, pm.nodup_iff.mpr nd, fun w => pm.mem_iff.trans (mem w)⟩
theorem step_ex (ws : List (List Nat)) (c k : Nat) : ∃ ys, ClassStep ws c k ys := by
  obtain ⟨ys, h1, h2, h3⟩ := ord_ex (ws ++ (ws.filter fun v => decide (v.length < k)).map (· ++ [c]))
  refine ⟨ys, h1, h2, fun w => ?_⟩
  rw [h3, List.mem_append, List.mem_map]
  constructor
  · rintro (h | ⟨v, hv, rfl⟩)
    · exact .inl h
    · obtain ⟨a, b⟩ := List.mem_filter.mp hv
      exact .inr ⟨v, a, of_decide_eq_true b, rfl⟩
  · rintro (h | ⟨v, a, b, rfl⟩)
    · exact .inl h
    · exact .inr ⟨v, List.mem_filter.mpr ⟨a, decide_eq_true b⟩, rfl⟩
/-! ### classes and rooms at once -/
abbrev CR := List (List Nat) × Nat
abbrev LineC := List (List Nat × CR)
section
variable {k : Nat} {M : Mach} {r : Nat} {line : LineC} {at' j : Nat}
end
/-! ### a line as a dict -/
section
variable {S : Type} [DecidableEq S]
end
end Dx

namespace Dx
open PySem PySem.Spec PyProof.Rows L2 PySem.Froz
open Evl (Ex)
variable [Tb]
section
variable {P : Program} {w : World} {A : Around} {a : Addr} {R : Result → Shared → Prop}
end
section
variable {P : Program} {w : World} {A : Around} {E : Value → Shared → Prop} {s : Shared}
set_option maxHeartbeats 8000000 in
end
end Dx

namespace Dx
open PySem PySem.Spec PyProof.Rows L2
open Evl (Ex)
variable [Tb]
/-- the steps between classes that are known -/
structure KnOk (L : List Nat) (k : Nat) (kn : List (CR × List (List Nat))) : Prop where
  nd : (kn.map (·.1)).Nodup
  cls : ∀ p ∈ kn, IsCls L k p.1.1 ∧ p.1.2 ∈ L ∧ stepC k p.1.1 p.1.2 = some p.2
theorem KnOk.few {L : List Nat} {k : Nat} {kn : List (CR × List (List Nat))} (K : KOk L k) (h : KnOk L k kn) : kn.length ≤ 1800 := by
  have h1 := cls_count K (X := L) h.nd fun q hq => by
    obtain ⟨p, hp, rfl⟩ := List.mem_map.mp hq
    exact ⟨(h.cls p hp).1, (h.cls p hp).2.1⟩
  rw [List.length_map] at h1
  have h2 := Nat.mul_le_mul_left 600 K.hi
  omega
theorem KnOk.new {L : List Nat} {k : Nat} {kn : List (CR × List (List Nat))} (h : KnOk L k kn) {s ys : List (List Nat)} {c : Nat} (hs : IsCls L k s) (hc : c ∈ L) (hy : stepC k s c = some ys) (hn : alook kn (s, c) = none) : KnOk L k (aput kn (s, c) ys) ∧ alook (aput kn (s, c) ys) (s, c) = some ys := by
  have hn2 := alook_none.mp hn
  refine ⟨?_, by rw [alook_put, if_pos rfl]⟩
  rw [aput_new _ hn2]
  refine ⟨?_, fun p hp => ?_⟩
  · rw [List.map_append]
    refine List.nodup_append.mpr ⟨h.nd, by simp, fun a ha b hb e => ?_⟩
    rw [List.map_cons, List.map_nil, List.mem_singleton] at hb
    rw [e, hb] at ha
    exact hn2 ha
  · rcases List.mem_append.mp hp with z | z
    · exact h.cls p z
    · rw [List.mem_singleton] at z
      subst z
      exact ⟨hs, hc, hy⟩
/-! ### texts alike to k that are parted -/
def PartL (M : Mach) (k : Nat) : Prop := ∃ t u, Over M.L t ∧ Over M.L u ∧ AlikeTo t u k ∧ M.takes t ≠ M.takes u
end Dx

namespace Dx
open PySem PySem.Spec PyProof.Rows L2
open Evl (Ex)
variable [Tb]
/-! ### classes numbered; rooms by numbers -/
noncomputable def stepT (k : Nat) (s : List (List Nat)) (c : Nat) : List (List Nat) := (stepC k s c).getD []
theorem stepT_of {k : Nat} {s y : List (List Nat)} {c : Nat} (h : stepC k s c = some y) : stepT k s c = y := by
  unfold stepT
  rw [h]
  rfl
theorem stepC_T (k : Nat) (s : List (List Nat)) (c : Nat) : stepC k s c = some (stepT k s c) := by
  obtain ⟨ys, hy⟩ := step_ex s c k
  rw [stepT_of (stepC_of hy)]
  exact stepC_of hy
theorem IsCls.next {L : List Nat} {k : Nat} {s : List (List Nat)} (h : IsCls L k s) {c : Nat} (hc : c ∈ L) : IsCls L k (stepT k s c) := by
  obtain ⟨t, ot, hr⟩ := h
  refine ⟨t ++ [c], ot.app (Over.one hc), ?_⟩
  rw [Aut.run_snoc, hr]
  exact stepC_T k s c
end Dx

namespace Dx
open PySem PySem.Spec PyProof.Rows L2
open Evl (Ex)
variable [Tb]
section
variable {M N : Mach} {a b : Nat} {line : LineM} {at' j : Nat}
end
theorem KOk.le {L : List Nat} {k n : Nat} (h : KOk L n) (hk : k ≤ n) : KOk L k := ⟨h.lo, h.hi, by have := h.k3; omega, fun e => by have := h.k2 e; omega⟩

end Dx

namespace Dx
open PySem PySem.Spec PyProof.Rows L2
open Evl (Ex)
variable [Tb]
/-! ### the least length -/
def topK (L : List Nat) : Nat := if 2 < L.length then 2 else 3
theorem alike_le {t u : List Nat} {k j : Nat} (h : AlikeTo t u k) (hj : j ≤ k) : AlikeTo t u j := fun w hw => h w (by omega)
theorem PartL.le {M : Mach} {k j : Nat} (h : PartL M k) (hj : j ≤ k) : PartL M j := by
  obtain ⟨t, u, a, b, al, c⟩ := h
  exact ⟨t, u, a, b, alike_le al hj, c⟩
/-- the least length up to n, None where there is none -/
def LeastLen (M : Mach) (n : Nat) (d : D) : Prop := (∃ k, k ≤ n ∧ ¬ PartL M k ∧ (∀ j, j < k → PartL M j) ∧ d = natD k) ∨ ((∀ k, k ≤ n → PartL M k) ∧ d = .non)
theorem LeastLen.uniq {M : Mach} {n : Nat} {d e : D} (h : LeastLen M n d) (h' : LeastLen M n e) : d = e := by
  rcases h with ⟨k, k1, k2, k3, rfl⟩ | ⟨a, rfl⟩ <;> rcases h' with ⟨j, j1, j2, j3, rfl⟩ | ⟨b, rfl⟩
  · have : k = j := by
      rcases Nat.lt_trichotomy k j with z | z | z
      · exact absurd (j3 k z) k2
      · exact z
      · exact absurd (k3 j z) j2
    rw [this]
  · exact absurd (b k k1) k2
  · exact absurd (a j j1) j2
  · rfl
theorem LeastLen.plain {M : Mach} {n : Nat} {d : D} (h : LeastLen M n d) : plainD 5 d = true := by
  rcases h with ⟨k, _, _, _, rfl⟩ | ⟨_, rfl⟩ <;> rfl
end Dx

namespace Dx
open PySem PySem.Spec PyProof.Rows L2
open Evl (Ex)
variable [Tb]
/-! ### d.get(k, x) -/
section
variable {X : Cx} {pins : List (Addr × Obj)} {σ : L2.St} {H : Hp} {s : Shared} {a : Addr} {y d : V} {u r : Value} {o : Option V} {A : Around} {E : Value → Shared → Prop}
end
section
variable {X : Cx} {o e f : Expr} {td ty tx : TE} {to ti tz : DE} {pos apos cpos : Pos}
end
section
variable {κ α : Type} [DecidableEq κ] {w : World} {mu : Mu} {l : List (κ × α)}
end
end Dx

namespace Dx
open PySem PySem.Spec PyProof.Rows L2
open Evl (Ex)
variable [Tb]
end Dx

namespace Dx
open PySem PySem.Spec PyProof.Rows L2
open Evl (Ex)
variable [Tb]
/-- a table of how often words were met -/
structure TabN (l : List (List Nat × Nat)) (base : List (List Nat)) (f : List Nat → Nat) : Prop where
  nd : (l.map (·.1)).Nodup
  base : ∀ w, (alook l w).isSome = true → w ∈ base
  val : ∀ w, (alook l w).getD 0 = f w
  pos : ∀ w n, alook l w = some n → 0 < n
theorem TabN.len {l : List (List Nat × Nat)} {base : List (List Nat)} {f : List Nat → Nat} (h : TabN l base f) : l.length ≤ base.length := by
  have := nodup_le h.nd fun w hw => h.base w (alook_some.mpr hw)
  rwa [List.length_map] at this
theorem TabN.put {l : List (List Nat × Nat)} {base : List (List Nat)} {f : List Nat → Nat} (h : TabN l base f) {w : List Nat} (hw : w ∈ base) {n : Nat} (hn : 0 < n) : TabN (aput l w n) base fun v => if v = w then n else f v where
  nd := by
    rw [aput_keys]
    split
    · exact h.nd
    · rename_i hi
      refine List.nodup_append.mpr ⟨h.nd, by simp, fun a ha b hb e => ?_⟩
      rw [List.mem_singleton] at hb
      rw [e, hb] at ha
      exact hi ha
  base := fun v hv => by
    rw [alook_put] at hv
    by_cases e : v = w
    · rw [e]; exact hw
    · rw [if_neg e] at hv
      exact h.base v hv
  val := fun v => by
    rw [alook_put]
    by_cases e : v = w
    · rw [if_pos e, if_pos e]; rfl
    · rw [if_neg e, if_neg e]; exact h.val v
  pos := fun v m hm => by
    rw [alook_put] at hm
    by_cases e : v = w
    · rw [if_pos e] at hm
      cases hm
      exact hn
    · rw [if_neg e] at hm
      exact h.pos v m hm
theorem TabN.congr {l : List (List Nat × Nat)} {base : List (List Nat)} {f g : List Nat → Nat} (h : TabN l base f) (e : ∀ w, f w = g w) : TabN l base g := ⟨h.nd, h.base, fun w => (h.val w).trans (e w), h.pos⟩
end Dx

namespace Dx
open PySem PySem.Spec PyProof.Rows L2
open Evl (Ex)
variable [Tb]
end Dx

namespace Dx
open PySem PySem.Spec PyProof.Rows L2
open Evl (Ex)
variable [Tb]
end Dx

namespace Dx
open PySem PySem.Spec PyProof.Rows L2
open Evl (Ex)
variable [Tb]
def leads (ws : List (List Nat)) (t : List Nat) : List Nat := ws.map fun w => lead w t
end Dx

namespace Dx
open PySem PySem.Spec PyProof.Rows L2
open Evl (Ex)
variable [Tb]
/-! ### list(d) of a dict with any keys -/
section
variable {X : Cx}
end
end Dx

namespace Dx
open PySem PySem.Spec PyProof.Rows L2
open Evl (Ex)
variable [Tb]
/-! ### two machines told apart -/
/-- for each class of which a machine takes some the first such text -/
structure TakenOf (M : Mach) (k : Nat) (l : List (List (List Nat) × List Nat)) : Prop where
  nd : (l.map (·.1)).Nodup
  run : ∀ p ∈ l, (clsA k).run p.2 = some p.1 ∧ Over M.L p.2 ∧ M.takes p.2 = true ∧ p.2.length ≤ 16 * M.steps.length
  all : ∀ t, Over M.L t → M.takes t = true → ∃ p ∈ l, (clsA k).run t = some p.1
theorem TakenOf.few {M : Mach} {k : Nat} {l : List (List (List Nat) × List Nat)} (K : KOk M.L k) (h : TakenOf M k l) : l.length ≤ 600 := by
  have h1 := cls_count K (X := [()]) (ps := l.map fun p => (p.1, ())) (by
    have nd := h.nd
    have nd : List.Pairwise (· ≠ ·) (l.map (·.1)) := nd
    rw [List.pairwise_map] at nd
    show List.Pairwise (· ≠ ·) _
    rw [List.pairwise_map]
    exact nd.imp fun {a b} z e => z (Prod.mk.inj e).1) fun q hq => by
    obtain ⟨p, hp, rfl⟩ := List.mem_map.mp hq
    exact ⟨⟨p.2, (h.run p hp).2.1, (h.run p hp).1⟩, by simp⟩
  rwa [List.length_map] at h1
/-- no text of the one is alike to k to one of the other -/
def ApartK (M N : Mach) (k : Nat) : Prop := ∀ t u, Over M.L t → Over M.L u → M.takes t = true → N.takes u = true → ¬ AlikeTo t u k
end Dx

namespace Dx
open PySem PySem.Spec PyProof.Rows L2
open Evl (Ex)
variable [Tb]
/-! ### whether a wish parts two machines, looked at -/
abbrev ST3 := (Nat × Nat) × List Nat
def standAt (M N : Mach) (ws : List (List Nat)) (t : List Nat) : ST3 := ((M.go M.b t, N.go N.b t), leads ws t)
end Dx

namespace Dx
open PySem PySem.Spec PyProof.Rows L2
open Evl (Ex)
variable [Tb]
end Dx

namespace Dx
open PySem PySem.Spec PyProof.Rows L2
open Evl (Ex)
variable [Tb]
section
variable {L : List Nat} {n : Nat} {ends : List Nat} {f : Nat → Nat → Nat}
end
end Dx

namespace Dx
open PySem PySem.Spec PyProof.Rows L2
open Evl (Ex)
variable [Tb]
end Dx

namespace Dx
open PySem PySem.Spec PyProof.Rows L2
open Evl (Ex)
variable [Tb]
end Dx

namespace Dx
open PySem PySem.Spec PyProof.Rows L2
open Evl (Ex)
variable [Tb]
end Dx

namespace Dx
open PySem PySem.Spec PyProof.Rows L2
open Evl (Ex)
variable [Tb]
end Dx

namespace Dx
open PySem PySem.Spec PyProof.Rows L2
open Evl (Ex)
variable [Tb]
end Dx

namespace Dx
open PySem PySem.Spec PyProof.Rows L2
open Evl (Ex)
variable [Tb]
theorem ApartK.le {M N : Mach} {j k : Nat} (h : ApartK M N j) (hj : j ≤ k) : ApartK M N k := fun t u ot ou mt nu al => h t u ot ou mt nu (alike_le al hj)
end Dx

namespace Dx
open PySem PySem.Spec PyProof.Rows L2
open Evl (Ex)
variable [Tb]
end Dx

/-! ### a pair turned about: t[::-1] -/
namespace HT
open PySem PyProof.Rows
open PySem.SeqAt
open PySem.AutoSeq1 (wpAny_loadPart')
open PySem.MeetsSeq PySem.MeetsSeq2 PySem.MeetsSeq3
section
variable {prog : Program} {w : World} {A : Around} {E : Value → Shared → Prop} {s : Shared}
end
end HT
namespace Dx
open PySem PySem.Spec PyProof.Rows L2
open Evl (Ex)
variable [Tb]
section
variable {X : Cx} {e : Expr} {te : DE} {k : Nat} {p1 p2 p3 pos : Pos}
end
end Dx

namespace Dx
open PySem PySem.Spec PyProof.Rows L2
open Evl (Ex)
variable [Tb]
end Dx

namespace Dx
open PySem PySem.Spec PyProof.Rows L2
open Evl (Ex)
variable [Tb]
end Dx

namespace Dx
open PySem PySem.Spec PyProof.Rows L2
open Evl (Ex)
variable [Tb]
/-- a wish of few words that aren't heavy -/
structure LightW (l : List Nat) (W : Wish) : Prop where
  deep : W.deep ≤ 5
  size : W.size ≤ 10
  words : ∀ w ∈ W.words, Over l w ∧ w.length ≤ 3
  vol : ∀ ws, WordsIn W ws → vol ws ≤ 64
theorem LightW.of {l : List Nat} {W : Wish} (hd : W.deep ≤ 5) (hs : W.size ≤ 10) (ww : ∀ w ∈ W.words, Over l w ∧ w.length ≤ 3) {ws : List (List Nat)} (hws : WordsIn W ws) (h : (((ws.map List.length).sum : Nat) : Int) < 7) : LightW l W := by
  refine ⟨hd, hs, ww, fun us hus => ?_⟩
  rw [hus.uniq hws]
  have h1 := vol_le ws
  have h2 : 2 ^ (ws.map List.length).sum ≤ 2 ^ 6 := Nat.pow_le_pow_right (by omega) (by omega)
  omega
end Dx

namespace Dx
open PySem PySem.Spec PyProof.Rows L2
open Evl (Ex)
variable [Tb]
/-! ### defs that may raise: readings that are told what is made of an exception -/
/-- what is wished of an exception: by its class and the cells -/
abbrev XC := Value → Rho → Mu → Prop
abbrev XF := Value → Mu → Prop
def LX (F : Hp) (al : List Addr) (H : Hp) (xc : XC) (W : WX) : Prop := ∀ F' al' rho' mu' σ' H' cls, Ext F al H F' al' H' → Sim F' al' rho' mu' σ' H' → xc cls rho' mu' → W cls none σ' H'
theorem LX.trans {F F1 : Hp} {al al1 : List Addr} {H H1 : Hp} {xc : XC} {W : WX} (l : LX F al H xc W) (E : Ext F al H F1 al1 H1) : LX F1 al1 H1 xc W := fun F' al' rho' mu' σ' H' cls e => l F' al' rho' mu' σ' H' cls (E.trans e)
abbrev DSX := XC → DS
def GSX (W : WX) (ts : TS) (t : DSX) : Prop := ∀ F al rho mu σ H D E xc, Sim F al rho mu σ H → t xc D rho mu → LS F al H D E → LX F al H xc W → ts E σ H
structure CSX (X : Cx) (W : WX) (st : Stmt) (t : DSX) : Prop where
  ok : ∃ ts, PS X st ts ∧ GSX W ts t
structure CSsX (X : Cx) (W : WX) (st : List Stmt) (t : DSX) : Prop where
  ok : ∃ ts, PSs X st ts ∧ GSX W ts t
section
variable {X : Cx} {W : WX} {st : Stmt} {rest : List Stmt} {e : Expr} {pos pos' : Pos}
theorem CS.x {t : DS} (h : CS X st t) : CSX X W st (fun _ => t) := let ⟨ts, p, g⟩ := h.ok; ⟨ts, p, fun F al rho mu σ H D E xc S q l _ => g F al rho mu σ H D E S q l⟩
theorem CSs.x {t : DS} (h : CSs X rest t) : CSsX X W rest (fun _ => t) := let ⟨ts, p, g⟩ := h.ok; ⟨ts, p, fun F al rho mu σ H D E xc S q l _ => g F al rho mu σ H D E S q l⟩
end
/-! ### defs -/
abbrev FSX := List DV → Mu → (RV → Mu → Prop) → XF → Prop
section
variable {X : Cx} {W : WX} {k : Nat} {f : Addr} {fd : FuncData} {ps : List Str} {x : Str} {p pos : Pos} {e : Expr} {es : List Expr} {S : FSX} {tr : DA}
end
end Dx

namespace Dx
open PySem PySem.Spec PyProof.Rows L2
open Evl (Ex)
variable [Tb]
section
variable {X : Cx} {W : WX} {k : Nat} {ps : List Str} {x : Str} {p pos : Pos} {e : Expr} {es : List Expr} {S : FSX} {tr : DA}
end
section
variable {X : Cx} {a C : Addr} {oe : Obj} {pn : List (Addr × Obj)} {i : Nat} {n nA nB : Str} {p1 p2 p3 p4 p5 p6 p7 p8 p9 : Pos}
end
section
variable {X : Cx} {i : Nat} {x n : Str} {c : Value} {body : List Stmt} {b₀ : Stmt} {np pos pos' : Pos} {t : DSX} {C : Value} {b : Bool}
end
end Dx

namespace Dx
open PySem PySem.Spec PyProof.Rows L2
open Evl (Ex)
variable [Tb]
section
variable {X : Cx} {W : WX} {xe xs : Str} {cE cS : Addr}
end
end Dx

namespace Dx
open PySem PySem.Spec PyProof.Rows L2
open Evl (Ex)
variable [Tb]
end Dx

namespace Dx
open PySem PySem.Spec PyProof.Rows L2
open Evl (Ex)
variable [Tb]
end Dx

namespace Dx
open PySem PySem.Spec PyProof.Rows L2
open Evl (Ex)
variable [Tb]
end Dx

namespace Dx
open PySem PySem.Spec PyProof.Rows L2
open Evl (Ex)
variable [Tb]
end Dx

namespace Dx
open PySem PySem.Spec PyProof.Rows L2
open Evl (Ex)
variable [Tb]
/-- the least length, or one more than the most -/
def LenOf (M : Mach) (n : Nat) : Prop := n ≤ topK M.L + 1 ∧ (∀ j, j < n → PartL M j) ∧ (n ≤ topK M.L → ¬ PartL M n)
theorem LenOf.uniq {M : Mach} {n m : Nat} (h : LenOf M n) (g : LenOf M m) : n = m := by
  obtain ⟨h1, h2, h3⟩ := h
  obtain ⟨g1, g2, g3⟩ := g
  rcases Nat.lt_trichotomy n m with z | z | z
  · exact absurd (g2 n z) (h3 (by omega))
  · exact z
  · exact absurd (h2 m z) (g3 (by omega))
end Dx

namespace Dx
open PySem PySem.Spec PyProof.Rows L2
open Evl (Ex)
variable [Tb]
end Dx

namespace Dx
open PySem PySem.Spec PyProof.Rows L2
open Evl (Ex)
variable [Tb]
end Dx

namespace Dx
open PySem PySem.Spec PyProof.Rows L2
open Evl (Ex)
variable [Tb]
end Dx

namespace Dx
open PySem PySem.Spec PyProof.Rows L2
open Evl (Ex)
variable [Tb]
end Dx

namespace Dx
open PySem PySem.Spec PyProof.Rows L2
open Evl (Ex)
variable [Tb]
end Dx

namespace Dx
open PySem PySem.Spec PyProof.Rows L2
open Evl (Ex)
variable [Tb]
end Dx

namespace Dx
open PySem PySem.Spec PyProof.Rows L2
open Evl (Ex)
variable [Tb]
end Dx

namespace Dx
open PySem PySem.Spec PyProof.Rows L2
open Evl (Ex)
variable [Tb]
end Dx

namespace Dx
open PySem PySem.Spec PyProof.Rows L2
open Evl (Ex)
variable [Tb]
/-! ### drawn machines: small, or what they take hangs on the class -/
end Dx

namespace Dx
open PySem PySem.Spec PyProof.Rows L2
open Evl (Ex)
variable [Tb]
section
variable {X : Cx} {pins : List (Addr × Obj)} {σ : L2.St} {H : Hp} {s : Shared}
end
end Dx

namespace Dx
open PySem PySem.Spec PyProof.Rows L2
open Evl (Ex)
variable [Tb]
/-- a row: a room, two letters, a word -/
abbrev PRow := Int × Nat × Nat × List Nat
def rowG (q : PRow) : D := .tup [.int q.1, .str [q.2.1], .str [q.2.2.1], .str q.2.2.2]
structure RowFit (q : PRow) : Prop where
  x : q.2.1 < 0x110000
  y : q.2.2.1 < 0x110000
  w : ∀ c ∈ q.2.2.2, c < 0x110000
  len : q.2.2.2.length ≤ 100000
/-- any paper -/
inductive Pap where
  | spread (fs : List Int) (rows : List PRow)
  | ring (r : Int) (u v : List Nat)
  | apart (r : Int) (x y : Nat) (w : List Nat)
def Pap.toD : Pap → D
  | .spread fs rows => .tup [.str (lit "spread"), .tup (fs.map D.int), .tup (rows.map rowG)]
  | .ring r u v => .tup [.str (lit "ring"), .int r, .str u, .str v]
  | .apart r x y w => .tup [.str (lit "apart"), .int r, .str [x], .str [y], .str w]
def Pap.Fit : Pap → Prop
  | .spread _ rows => rows.length ≤ 100000 ∧ ∀ q ∈ rows, RowFit q
  | .ring _ u v => (u.length ≤ 400000 ∧ ∀ c ∈ u, c < 0x110000) ∧ v.length ≤ 400000 ∧ ∀ c ∈ v, c < 0x110000
  | .apart r x y w => RowFit (r, x, y, w)
end Dx

namespace Dx
open PySem PySem.Spec PyProof.Rows L2
open Evl (Ex)
variable [Tb]
end Dx

namespace Dx
open PySem PySem.Spec PyProof.Rows L2
open Evl (Ex)
variable [Tb]
end Dx

namespace Dx
open PySem PySem.Spec PyProof.Rows L2
open Evl (Ex)
variable [Tb]
section
variable {X : Cx} {a : Expr} {ta : DE} {p p2 pos pos2 : Pos}
end
section
variable {X : Cx} {pins : List (Addr × Obj)} {σ : L2.St} {H : Hp} {s : Shared}
end
end Dx

namespace Dx
open PySem PySem.Spec PyProof.Rows L2
open Evl (Ex)
variable [Tb]
/-! ### known machines: the longest way by the rooms' numbers, languages -/
end Dx

namespace Dx
open PySem PySem.Spec PyProof.Rows L2
open Evl (Ex)
variable [Tb]
/-! ### the law's known machines -/
def rowF (leads : List (Nat × Nat)) (h c : Nat) : Nat := (alook ((leads.map fun p => ([p.1], p.2)).foldl (fun a p => aput a p.1 p.2) ([] : List (List Nat × Nat))) [c]).getD h
def f0 (x : Nat) (_ : Nat) : Nat → Nat := rowF [(x, 1)] 0
def f1 (x r : Nat) : Nat → Nat := if r = 0 then rowF [(x, 1)] 0 else rowF [(x, 0)] 1
def f2 (x y r : Nat) : Nat → Nat := if r = 0 then rowF [(x, 1)] 0 else if r = 1 then rowF [(x, 1), (y, 2)] 0 else rowF [] 2
def f3 (x r : Nat) : Nat → Nat := if r = 0 then rowF [(x, 1)] 2 else if r = 1 then rowF [] 1 else rowF [] 2
section
variable {l : List Nat} (hl : IsLetters l) (l0 : 0 < l.length) (l3 : l.length ≤ 3)
include hl l0 l3
end

end Dx

namespace Dx
open PySem PySem.Spec PyProof.Rows L2
open Evl (Ex)
variable [Tb]
end Dx

namespace Dx
open PySem PySem.Spec PyProof.Rows L2
open Evl (Ex)
variable [Tb]
section
variable {ord : List Nat} {n : Nat}
end
end Dx

namespace Dx
open PySem PySem.Spec PyProof.Rows L2
open Evl (Ex)
variable [Tb]
end Dx

namespace Dx
open PySem PySem.Spec PyProof.Rows L2
open Evl (Ex)
variable [Tb]
section
variable {X : Cx} {e : Expr} {ta : DE} {pos : Pos}
end
end Dx

namespace Dx
open PySem PySem.Spec PyProof.Rows L2
open Evl (Ex)
variable [Tb]
/-! ### papers drawn and bent -/
def TxtSm (n : Nat) (u : List Nat) : Prop := u.length ≤ n ∧ ∀ c ∈ u, c < 0x110000
structure RowSm (n : Nat) (q : PRow) : Prop where
  x : q.2.1 < 0x110000
  y : q.2.2.1 < 0x110000
  w : TxtSm n q.2.2.2
theorem RowSm.fit {n : Nat} {q : PRow} (h : RowSm n q) (hn : n ≤ 1000) : RowFit q := ⟨h.x, h.y, h.w.2, by have := h.w.1; omega⟩
theorem TxtSm.up {n m : Nat} {u : List Nat} (h : TxtSm n u) (l : n ≤ m) : TxtSm m u := ⟨Nat.le_trans h.1 l, h.2⟩
theorem RowSm.up {n m : Nat} {q : PRow} (h : RowSm n q) (l : n ≤ m) : RowSm m q := ⟨h.x, h.y, h.w.up l⟩
def PapSm (n : Nat) : Pap → Prop
  | .spread fs rows => fs.length ≤ 64 + n ∧ rows.length ≤ 50 + n ∧ ∀ q ∈ rows, RowSm n q
  | .ring _ u v => TxtSm n u ∧ TxtSm n v
  | .apart r x y w => RowSm n (r, x, y, w)
theorem PapSm.fit {n : Nat} {p : Pap} (h : PapSm n p) (hn : n ≤ 1000) : p.Fit := by
  cases p with
  | spread fs rows =>
    obtain ⟨h1, h2, h3⟩ := h
    exact ⟨by omega, fun q hq => (h3 q hq).fit hn⟩
  | ring r u v =>
    obtain ⟨⟨a, b⟩, c, d⟩ := h
    exact ⟨⟨by omega, b⟩, by omega, d⟩
  | apart r x y w => exact RowSm.fit h hn
end Dx

namespace Dx
open PySem PySem.Spec PyProof.Rows L2
open Evl (Ex)
variable [Tb]
theorem TxtSm.bent {n k j : Nat} {w more : List Nat} (h : TxtSm n w) (hm : more.length ≤ 1) (hj : k + 1 ≤ j + more.length) (hc : ∀ c ∈ more, c < 0x110000) : TxtSm (n + 1) (w.take k ++ more ++ w.drop j) := by
  obtain ⟨a, b⟩ := h
  refine ⟨?_, fun c hc' => ?_⟩
  · rw [List.length_append, List.length_append, List.length_take, List.length_drop]
    omega
  · rcases List.mem_append.mp hc' with z | z
    · rcases List.mem_append.mp z with z | z
      · exact b c (List.mem_of_mem_take z)
      · exact hc c z
    · exact b c (List.mem_of_mem_drop z)
end Dx

namespace Dx
open PySem PySem.Spec PyProof.Rows L2
open Evl (Ex)
variable [Tb]
end Dx

namespace Dx
open PySem PySem.Spec PyProof.Rows L2
open Evl (Ex)
variable [Tb]
end Dx

namespace Dx
open PySem PySem.Spec PyProof.Rows L2
open Evl (Ex)
variable [Tb]
end Dx

namespace Dx
open PySem PySem.Spec PyProof.Rows L2
open Evl (Ex)
variable [Tb]
end Dx

namespace Dx
open PySem PySem.Spec PyProof.Rows L2
open Evl (Ex)
variable [Tb]
end Dx

namespace Dx
open PySem PySem.Spec PyProof.Rows L2
open Evl (Ex)
variable [Tb]
end Dx

namespace Dx
open PySem PySem.Spec PyProof.Rows L2
open Evl (Ex)
variable [Tb]
end Dx

namespace Dx
open PySem PySem.Spec PyProof.Rows L2
open Evl (Ex)
variable [Tb]
end Dx

namespace Dx
open PySem PySem.Spec PyProof.Rows L2
open Evl (Ex)
variable [Tb]
end Dx

namespace Dx
open PySem PySem.Spec PyProof.Rows L2
open Evl (Ex)
section
variable {prog : Program} {w : World} {A : Around} {E : Value → Shared → Prop} {s : Shared} {a : Int} {t : Tok}
end
section
variable {X : Cx}
end
section
variable [Tb] {X : Cx}
end
end Dx

namespace Dx
open PySem PySem.Spec PyProof.Rows L2
open Evl (Ex)
variable [Tb]
end Dx

namespace Dx
open PySem PySem.Spec PyProof.Rows L2
open Evl (Ex)
variable [Tb]
end Dx

namespace Dx
open PySem PySem.Spec PyProof.Rows L2
open Evl (Ex)
variable [Tb]
end Dx

namespace Dx
open PySem PySem.Spec PyProof.Rows L2
open Evl (Ex)
variable [Tb]
end Dx

namespace Dx
open PySem PySem.Spec PyProof.Rows L2
open Evl (Ex)
variable [Tb]
end Dx

namespace Dx
open PySem PySem.Spec PyProof.Rows L2
open Evl (Ex)
variable [Tb]
/-! ### split, str of a number, int of a text -/
def splitC (c : Nat) (a : List Nat) : List (List Nat) := TL.spl [c] 0 [] a
def joinC (c : Nat) (ps : List (List Nat)) : List Nat := TL.joinL [c] ps
theorem splitC_join {c : Nat} {ps : List (List Nat)} (hne : ps ≠ []) (h : ∀ p ∈ ps, c ∉ p) : splitC c (joinC c ps) = ps := TL.spl_join hne h
theorem joinC_one (c : Nat) (p : List Nat) : joinC c [p] = p := rfl
theorem joinC_cons (c : Nat) (p q : List Nat) (r : List (List Nat)) : joinC c (p :: q :: r) = p ++ (c :: joinC c (q :: r)) := by
  show p ++ ([c] ++ TL.joinL [c] (q :: r)) = _
  rfl
section
variable {X : Cx} {o e : Expr} {to : DE} {tr : DA} {apos cpos : Pos}
def fSplit (c : Nat) (to : DE) (ta : DA) : DF := fun rho mu Q => to rho mu fun x mu1 => tyD "str" mu1 x ∧ ta rho mu1 fun xs mu2 => onS x fun a => on1 xs fun y => onS y fun b => (b = [c] ∧ c < 256 ∧ a.length ≤ 1000000) ∧ Q (.lst ((splitC c a).map D.str)) mu2
theorem cf_split (c : Nat) (ho : CE X o to) (ha : CA X [e] tr)
    (hbase : attributeBase o "split" X.env (eval o X.env) = eval o X.env := by rfl)
    (hfew : ((backTo cpos (starEach [e] X.env)).all (fun x => !x.1) && (backToKw cpos (keywordEach [] X.env)).all (fun x => x.1.isSome)
      && decide ([e].length + ([] : List Keyword).length + (if ([] : List Keyword).isEmpty then 0 else 1) < 30)) = true := by rfl)
    (hline : (apos.endLine == cpos.line) = true := by rfl) (hs : starEach [e] X.env = (false, eval e X.env) :: starEach [] X.env := by rfl) (hplain : (backTo cpos (starEach [] X.env)).any (·.1) = false := by rfl) :
    CF X (.Call (.Attribute o "split" apos) [e] [] cpos) (fSplit c to tr) := by
  obtain ⟨_, po, go⟩ := ho.ok
  obtain ⟨_, pr, gr⟩ := ha.ok
  refine ⟨_, pe_bm PySem.F.plainAttrs_str PySem.F.slot_str_split PySem.F.type_str_split mt_split po pr hbase hfew hline hs hplain, fun F al rho mu σ H Q R S q l => go F al rho mu σ H _ _ S q fun F1 al1 x mu1 v H1 E1 C1 r1 q1 => ?_⟩
  refine ⟨tyD_out C1 r1 q1.1, gr F1 al1 rho mu1 σ H1 _ _ (S.of C1 E1.ex E1.pf) q1.2 fun F2 al2 xs mu2 vs H2 E2 C2 r2 q2 => ?_⟩
  obtain ⟨a, ex, es, q2⟩ := onS_out q2 (r1.mono E2.ex E2.pf)
  obtain ⟨y, u, ev, ry, q2⟩ := on1_out q2 r2
  obtain ⟨b, ey, eb, q2⟩ := onS_out q2 ry
  obtain ⟨⟨eb', h1, h2⟩, q2⟩ := q2
  subst es
  subst eb
  subst eb'
  refine ⟨mkS a, mkS [c], rfl, ev, rfl, ?_, fun p hp => ?_⟩
  · rw [mkS_len, sizeLine_eq]
    omega
  · have e1 : Txt.split (mkS a) (mkS [c]) = (splitC c a).map mkS := SX.split_S (List.cons_ne_nil _ _) (by rw [List.all_cons, decide_eq_true h1]; rfl)
    rw [e1]
    exact l F2 al2 (.lst ((splitC c a).map D.str)) mu2 p _ ((E1.trans E2).trans (Ext.loose hp)) (C2.loose hp) (C2.not_al hp) (none_back ((E1.trans E2).dm p) hp) rfl ⟨ex_none C2.ex hp, _, upd_same, RepL.toStrs _⟩ q2
end
/-- str(n) -/
def numS (n : Nat) : List Nat := TL.numL n
def dStrI : DCall := fun xs mu Q => on1 xs fun x => onI x fun i => (0 ≤ i ∧ i < 1000000) ∧ Q (.dat (.str (numS i.toNat))) mu
theorem cStrI {X : Cx} : CallD X (.type "str") dStrI := ⟨_, call_str_int, fun F al mu H xs vs Q R c r q l => by
  obtain ⟨x, v, ev, rx, q⟩ := on1_out q r
  obtain ⟨i, ex, ei, ⟨h0, h1⟩, q⟩ := onI_out q rx
  subst ei
  obtain ⟨n, hn⟩ := Int.eq_ofNat_of_zero_le h0
  subst hn
  refine ⟨_, ev, ?_, ?_⟩
  · have hl : n.log2 < 20 := by
      by_cases z : n = 0
      · subst z
        decide
      · rw [Nat.log2_lt z]
        omega
    show n.log2 < 1920
    omega
  · have e1 : (toString ((n : Nat) : Int) : Str) = mkS (numS n) := SX.num_S n
    rw [e1]
    exact l F al _ mu _ H Ext.refl c rv_str q⟩
/-- int(text) of figures -/
def isFig (c : Nat) : Bool := decide (48 ≤ c) && decide (c ≤ 57)
def valS (a : List Nat) : Nat := NumText.digitsVal a
def dIntS : DCall := fun xs mu Q => on1 xs fun x => onS x fun a => (a.all isFig = true ∧ a ≠ [] ∧ a.length ≤ 600) ∧ Q (.dat (.int (valS a : Nat))) mu
theorem cIntS {X : Cx} : CallD X (.type "int") dIntS := ⟨_, call_int_str, fun F al mu H xs vs Q R c r q l => by
  obtain ⟨x, v, ev, rx, q⟩ := on1_out q r
  obtain ⟨a, ex, ea, ⟨h0, h1, h2⟩, q⟩ := onS_out q rx
  subst ea
  exact ⟨mkS a, ((valS a : Nat) : Int), ev, SX.int_S h0 h1 (by omega), by rw [mkS_len]; omega, l F al _ mu _ H Ext.refl c rv_int q⟩⟩
theorem numS_fig (n : Nat) : (numS n).all isFig = true := List.all_eq_true.mpr fun c hc => by
  have h := TL.numL_digits n c hc
  unfold isFig
  rw [decide_eq_true h.1, decide_eq_true h.2]
  rfl
theorem numS_ne (n : Nat) : numS n ≠ [] := TL.numL_ne n
theorem numS_val (n : Nat) : valS (numS n) = n := TL.numL_val n
theorem numS_len {n k : Nat} (hk : 0 < k) (h : n < 10 ^ k) : (numS n).length ≤ k := TL.numL_len hk h
theorem numS_free {n s : Nat} (h : s < 48 ∨ 57 < s) : s ∉ numS n := TL.numL_free h
end Dx

namespace Dx
open PySem PySem.Spec PyProof.Rows L2
open Evl (Ex)
variable [Tb]
/-! ### instances of own classes: a cell whose fields are data -/
def fldAt (f : Str) : List Str → List D → Option D
  | n :: ns, d :: ds => if n = f then some d else fldAt f ns ds
  | _, _ => none
theorem fld_zip {F : Hp} {f : Str} : ∀ {ns : List Str} {ds : List D} {vs : List V} {d : D}, RepL F ds vs → fldAt f ns ds = some d → ∃ v, (ns.zip vs).lookup f = some v ∧ Rep F d v
  | [], ds, vs, d, r, h => by cases ds <;> cases h
  | n :: ns, [], vs, d, r, h => by cases h
  | n :: ns, d0 :: ds, vs, d, r, h => by
    obtain ⟨v, w, e, a, b⟩ := r.uncons
    subst e
    have h : (if n = f then some d0 else fldAt f ns ds) = some d := h
    by_cases c : n = f
    · rw [if_pos c] at h
      cases h
      refine ⟨v, ?_, a⟩
      subst c
      simp [List.lookup]
    · rw [if_neg c] at h
      obtain ⟨u, h1, h2⟩ := fld_zip b h
      refine ⟨u, ?_, h2⟩
      have e : (f == n) = false := by simpa using fun z => c z.symm
      rw [List.zip_cons_cons]
      simp only [List.lookup, e]
      exact h1
/-- fields behind a store -/
def putNs (f : Str) : List Str → List Str
  | [] => [f]
  | n :: ns => if n = f then n :: ns else n :: putNs f ns
def putDs (f : Str) (d : D) : List Str → List D → List D
  | n :: ns, x :: ds => if n = f then d :: ds else x :: putDs f d ns ds
  | _, _ => [d]
def putVs (f : Str) (d : V) : List Str → List V → List V
  | n :: ns, x :: ds => if n = f then d :: ds else x :: putVs f d ns ds
  | _, _ => [d]
theorem putF_zip {f : Str} {v : V} : ∀ {ns : List Str} {vs : List V}, ns.length = vs.length → putF f v (ns.zip vs) = (putNs f ns).zip (putVs f v ns vs)
  | [], [], _ => rfl
  | [], _ :: _, h => by simp at h
  | _ :: _, [], h => by simp at h
  | n :: ns, x :: vs, h => by
    show (if n = f then (n, v) :: ns.zip vs else (n, x) :: putF f v (ns.zip vs)) = (if n = f then n :: ns else n :: putNs f ns).zip (if n = f then v :: vs else x :: putVs f v ns vs)
    by_cases c : n = f
    · rw [if_pos c, if_pos c, if_pos c]
      rfl
    · rw [if_neg c, if_neg c, if_neg c, putF_zip (by simpa using h)]
      rfl
theorem put_rep {F : Hp} {f : Str} {d : D} {v : V} (hv : Rep F d v) : ∀ {ns : List Str} {ds : List D} {vs : List V}, ns.length = ds.length → RepL F ds vs → RepL F (putDs f d ns ds) (putVs f v ns vs)
  | [], [], vs, _, r => by
    rw [r.unnil]
    exact RepL.cons hv RepL.nil
  | [], _ :: _, vs, h, r => by simp at h
  | _ :: _, [], vs, h, r => by simp at h
  | n :: ns, x :: ds, vs, h, r => by
    obtain ⟨w, r', e, a, b⟩ := r.uncons
    subst e
    show RepL F (if n = f then d :: ds else x :: putDs f d ns ds) (if n = f then v :: r' else w :: putVs f v ns r')
    by_cases c : n = f
    · rw [if_pos c, if_pos c]
      exact RepL.cons hv b
    · rw [if_neg c, if_neg c]
      exact RepL.cons a (put_rep hv (by simpa using h) b)
theorem putN_len {f : Str} {d : D} : ∀ {ns : List Str} {ds : List D}, ns.length = ds.length → (putNs f ns).length = (putDs f d ns ds).length
  | [], [], _ => rfl
  | [], _ :: _, h => by simp at h
  | _ :: _, [], h => by simp at h
  | n :: ns, x :: ds, h => by
    show (if n = f then n :: ns else n :: putNs f ns).length = (if n = f then d :: ds else x :: putDs f d ns ds).length
    by_cases c : n = f
    · rw [if_pos c, if_pos c]
      simpa using h
    · rw [if_neg c, if_neg c, List.length_cons, List.length_cons, putN_len (by simpa using h)]
theorem zip_len {ns : List Str} {vs : List V} {n : Nat} (h : ns.length < n) : (ns.zip vs).length < n := by
  rw [List.length_zip]
  omega
/-- an instance's cell -/
def onIns (x : DV) (mu : Mu) (k : Nat → Addr → List Str → List D → Prop) : Prop := match x with
  | .cel j => match mu[j]? with
    | some (.ins C ns ds) => k j C ns ds
    | _ => False
  | _ => False
theorem onIns_out {F H : Hp} {al : List Addr} {mu : Mu} {x : DV} {v : V} {k : Nat → Addr → List Str → List D → Prop} (C : Cels F al mu H) (r : RepV F al x v) (h : onIns x mu k) :
    ∃ j a D ns ds dx vs, x = .cel j ∧ v = .ref a ∧ al[j]? = some a ∧ mu[j]? = some (.ins D ns ds) ∧ F a = none ∧ H a = some (.ins D dx (ns.zip vs)) ∧ ns.length = ds.length ∧ RepL F ds vs ∧ k j D ns ds := by
  cases x with
  | dat d => exact h.elim
  | cel j =>
    obtain ⟨a, ha, e⟩ := r
    have h' : (match mu[j]? with
      | some (.ins D ns ds) => k j D ns ds
      | _ => False) := h
    cases q : mu[j]? with
    | none =>
      rw [q] at h'
      exact h'.elim
    | some m =>
      rw [q] at h'
      cases m with
      | ins D ns ds =>
        obtain ⟨z, dx, vs, hv, hl, rl⟩ := C.cel j a _ ha q
        exact ⟨j, a, D, ns, ds, dx, vs, rfl, e, ha, q, z, hv, hl, rl, h'⟩
      | _ => exact h'.elim
/-- what is asked of a class ahead of a field -/
structure FldC (K : PySem.W.Frag) (C : Addr) (f : Str) : Prop where
  cls : Cls K C
  no : NoAttr K C f
section
variable {X : Cx} {o e : Expr} {es : List Expr} {to te : DE} {f m : Str} {pos pos' p apos : Pos} {C : Addr}
/-- o.f -/
def dFld (C : Addr) (f : Str) (to : DE) : DE := fun rho mu Q => to rho mu fun x mu1 => onIns x mu1 fun _ C' ns ds => C' = C ∧ onSome (fldAt f ns ds) fun d => Q (.dat d) mu1
theorem ce_fld (T : FldC X.K C f) (ho : CE X o to) (hb : attributeBase o f X.env (eval o X.env) = eval o X.env := by rfl) : CE X (.Attribute o f pos) (dFld C f to) := by
  obtain ⟨_, po, go⟩ := ho.ok
  refine ⟨_, pe_fld po hb, fun F al rho mu σ H Q R S q l => go F al rho mu σ H _ _ S q fun F1 al1 x mu1 v H1 E1 C1 r1 q1 => ?_⟩
  obtain ⟨j, a, C', ns, ds, dx, vs, ex, ev, ha, hm, hn, hH, hl, rl, ec, q2⟩ := onIns_out C1 r1 q1
  subst ec
  obtain ⟨d, hd, q3⟩ := onSome_out q2
  obtain ⟨w, hw, rd⟩ := fld_zip rl hd
  exact ⟨a, C', dx, _, w, ev, hH, T.cls, T.no, hw, l F1 al1 (.dat d) mu1 w H1 E1 C1 rd q3⟩
/-- o.f = e -/
def dFldPut (C : Addr) (f : Str) (to te : DE) : DS := fun D rho mu => te rho mu fun y mu1 => to rho mu1 fun x mu2 => onD y fun d => onIns x mu2 fun j C' ns ds => (C' = C ∧ ns.length < 100) ∧ D.nx rho (mu2.set j (.ins C (putNs f ns) (putDs f d ns ds)))
theorem cs_fldPut (T : FldC X.K C f) (ho : CE X o to) (he : CE X e te) (hs : swapsWith e (some (.Attribute o f pos')) pos.line X.env = pure false := by rfl) : CS X (.Assign [.Attribute o f pos'] e pos) (dFldPut C f to te) := by
  obtain ⟨_, po, go⟩ := ho.ok
  obtain ⟨_, pe, ge⟩ := he.ok
  refine ⟨_, ps_fld po pe hs, fun F al rho mu σ H D E S q l => ge F al rho mu σ H _ _ S q fun F1 al1 y mu1 u H1 E1 C1 r1 q1 => ?_⟩
  refine go F1 al1 rho mu1 σ H1 _ _ (S.of C1 E1.ex E1.pf) q1 fun F2 al2 x mu2 v H2 E2 C2 r2 q2 => ?_
  obtain ⟨d, ed, q2⟩ := onD_out q2
  subst ed
  obtain ⟨j, a, C', ns, ds, dx, vs, ex, ev, ha, hm, hn, hH, hl, rl, ⟨ec, hz⟩, q3⟩ := onIns_out C2 r2 q2
  subst ec
  have rd : Rep F2 d u := r1.mono E2.ex E2.pf
  have hlv : ns.length = vs.length := by rw [hl, rl.len]
  refine ⟨a, C', dx, _, ev, hH, T.cls, T.no, Nat.lt_trans (zip_len hz) (by decide), ?_⟩
  rw [putF_zip hlv]
  obtain ⟨c2, e3⟩ := C2.put (m' := .ins C' (putNs f ns) (putDs f d ns ds)) (o := .ins C' dx ((putNs f ns).zip (putVs f u ns vs))) ha hm rfl ⟨hn, dx, _, upd_same, putN_len hl, put_rep rd hl rl⟩
  exact l.nx F2 al2 rho _ σ _ ((E1.trans E2).trans e3) (S.of c2 ((E1.trans E2).trans e3).ex ((E1.trans E2).trans e3).pf) q3
/-- o.f += e (whole numbers) -/
def dFldAug (C : Addr) (f : Str) (to te : DE) : DS := fun D rho mu => to rho mu fun x mu1 => onIns x mu1 fun j C' ns ds => C' = C ∧ onSome (fldAt f ns ds) fun d0 => te rho mu1 fun y mu2 => onI (.dat d0) fun i => onI y fun k => onIns x mu2 fun _ C2 ns2 ds2 => (C2 = C ∧ ns2.length < 100) ∧ D.nx rho (mu2.set j (.ins C (putNs f ns2) (putDs f (.int (i + k)) ns2 ds2)))
theorem cs_fldAug (T : FldC X.K C f) (ho : CE X o to) (he : CE X e te) : CS X (.AugAssign (.Attribute o f pos') .Add e pos) (dFldAug C f to te) := by
  obtain ⟨_, po, go⟩ := ho.ok
  obtain ⟨_, pe, ge⟩ := he.ok
  refine ⟨_, ps_fldaug po pe in_add, fun F al rho mu σ H D E S q l => go F al rho mu σ H _ _ S q fun F1 al1 x mu1 v H1 E1 C1 r1 q1 => ?_⟩
  obtain ⟨j, a, C', ns, ds, dx, vs, ex, ev, ha, hm, hn, hH, hl, rl, ec, q2⟩ := onIns_out C1 r1 q1
  subst ec
  obtain ⟨d0, hd, q3⟩ := onSome_out q2
  obtain ⟨w, hw, rd⟩ := fld_zip rl hd
  refine ⟨a, C', dx, _, w, ev, hH, T.cls, T.no, hw, ?_⟩
  refine ge F1 al1 rho mu1 σ H1 _ _ (S.of C1 E1.ex E1.pf) q3 fun F2 al2 y mu2 u H2 E2 C2 r2 q4 => ?_
  have rd0 : RepV F2 al2 (.dat d0) w := Rep.mono E2.ex d0 w rd
  obtain ⟨i, ei, ei2, q4⟩ := onI_out q4 rd0
  obtain ⟨k, ek, ek2, q4⟩ := onI_out q4 r2
  obtain ⟨j2, a2, D2, ns2, ds2, dx2, vs2, ex2, ev2, ha2, hm2, hn2, hH2, hl2, rl2, ⟨ec2, hz⟩, q5⟩ := onIns_out C2 (r1.mono E2.ex E2.pf) q4
  subst ec2
  have ea : a2 = a := by rw [ev] at ev2; injection ev2 with z; exact z.symm
  have ej : j2 = j := by rw [ex] at ex2; injection ex2 with z; exact z.symm
  subst ea
  subst ej
  subst ei2
  subst ek2
  refine ⟨i, k, rfl, rfl, ?_⟩
  have hlv : ns2.length = vs2.length := by rw [hl2, rl2.len]
  refine ⟨dx2, _, hH2, Nat.lt_trans (zip_len hz) (by decide), ?_⟩
  rw [putF_zip hlv]
  have rk : Rep F2 (.int (i + k)) (.int (i + k)) := by rw [Rep]
  obtain ⟨c2, e3⟩ := C2.put (m' := .ins D2 (putNs f ns2) (putDs f (.int (i + k)) ns2 ds2)) (o := .ins D2 dx2 ((putNs f ns2).zip (putVs f (.int (i + k)) ns2 vs2))) ha2 hm2 rfl ⟨hn2, dx2, _, upd_same, putN_len hl2, put_rep rk hl2 rl2⟩
  exact l.nx F2 al2 rho _ σ _ ((E1.trans E2).trans e3) (S.of c2 ((E1.trans E2).trans e3).ex ((E1.trans E2).trans e3).pf) q5
end
/-! ### methods; making -/
/-- a method of the class at C, bundled -/
structure CalM (P : Program) (w : World) (K : PySem.W.Frag) (mg : Str → Option Value) (base : Heap) (k : Nat) (C : Addr) (m : Str) (ps : List Str) (S : FS) : Prop where
  ok : ∃ f fd, FnOk P w K mg base CX0 k f fd ps (spOf S) ∧ Cls K C ∧ Meth K C m f ∧ Binds K fd ps []
structure CalI (P : Program) (w : World) (K : PySem.W.Frag) (mg : Str → Option Value) (base : Heap) (k : Nat) (C : Addr) (x : Str) (ps : List Str) (S : FS) : Prop where
  ok : ∃ f fd, FnOk P w K mg base CX0 k f fd ps (spOf S) ∧ Mk K C f ∧ mg x = some (.ref C) ∧ Binds K fd ps []
/-- the text of a method -/
structure DfM (K : PySem.W.Frag) (C : Addr) (m qual : Str) (st : Stmt) (ps : List Str) : Prop where
  ok : ∃ f fd, Fun K m qual st f fd ∧ Cls K C ∧ Meth K C m f ∧ Binds K fd ps []
structure DfI (K : PySem.W.Frag) (mg : Str → Option Value) (C : Addr) (x qual : Str) (st : Stmt) (ps : List Str) : Prop where
  ok : ∃ f fd, Fun K "__init__" qual st f fd ∧ Mk K C f ∧ mg x = some (.ref C) ∧ Binds K fd ps []
theorem DfM.cal {P : Program} {w : World} {K : PySem.W.Frag} {mg : Str → Option Value} {base : Heap} {C : Addr} {m qual : Str} {st : Stmt} {N ps : List Str} {S : FS} {t : DS} (k : Nat) (D : DfM K C m qual st ps) (sc : FnScope N ps (defScope st))
    (len : ∀ xs mu Q, S xs mu Q → xs.length = ps.length) (rd : Body t N S)
    (body : ∀ (f : Addr) (cdv : Value) (A : Around) (outer : List Env) (s : Shared) (H : Hp) (E : XK), Room k (A.deeper (envOfC qual (defScope st) s.heap.objs.size f cdv)) →
      CSs (cxOf CX0 P w K mg base N qual (defScope st) f cdv A outer s H E).nox (defBody st) t) : CalM P w K mg base (k + 1) C m ps S := by
  obtain ⟨f, fd, F, c, me, b⟩ := D.ok
  exact ⟨f, fd, dfn F sc len fun cdv A outer s H E hr => ⟨t, body f cdv A outer s H E hr, rd⟩, c, me, b⟩
theorem DfI.cal {P : Program} {w : World} {K : PySem.W.Frag} {mg : Str → Option Value} {base : Heap} {C : Addr} {x qual : Str} {st : Stmt} {N ps : List Str} {S : FS} {t : DS} (k : Nat) (D : DfI K mg C x qual st ps) (sc : FnScope N ps (defScope st))
    (len : ∀ xs mu Q, S xs mu Q → xs.length = ps.length) (rd : Body t N S)
    (body : ∀ (f : Addr) (cdv : Value) (A : Around) (outer : List Env) (s : Shared) (H : Hp) (E : XK), Room k (A.deeper (envOfC qual (defScope st) s.heap.objs.size f cdv)) →
      CSs (cxOf CX0 P w K mg base N qual (defScope st) f cdv A outer s H E).nox (defBody st) t) : CalI P w K mg base (k + 1) C x ps S := by
  obtain ⟨f, fd, F, c, me, b⟩ := D.ok
  exact ⟨f, fd, dfn F sc len fun cdv A outer s H E hr => ⟨t, body f cdv A outer s H E hr, rd⟩, c, me, b⟩
/-- o.m(..): self's cell is handed on, the others are data -/
def dMeth (C : Addr) (m : Str) (S : FS) (to : DE) (ta : DA) : DE := fun rho mu Q => to rho mu fun x mu1 => onIns x mu1 fun _ C' ns _ => (C' = C ∧ m ∉ ns) ∧ ta rho mu1 fun xs mu2 => onCel (x :: xs) mu2 fun j mc r => S (.cel 0 :: r) [mc] (backR j mu2 Q)
theorem zip_none {m : Str} : ∀ {ns : List Str} {vs : List V}, m ∉ ns → (ns.zip vs).lookup m = none
  | [], _, _ => rfl
  | _ :: _, [], _ => rfl
  | n :: ns, v :: vs, h => by
    have e : (m == n) = false := by simpa using fun z : m = n => h (z ▸ List.mem_cons_self ..)
    rw [List.zip_cons_cons]
    simp only [List.lookup, e]
    exact zip_none fun z => h (List.mem_cons_of_mem _ z)
section
variable {X : Cx} {o e : Expr} {es : List Expr} {to : DE} {tr : DA} {m x : Str} {pos p apos : Pos} {C : Addr} {k : Nat} {ps : List Str} {S : FS}
theorem ge_meth {te : TE} {ua : TA} {E0 : XK} (go : GE te to) (g : GA ua tr) : GE (tMeth C m (spOf S) [] E0 te ua) (dMeth C m S to tr) := fun F al rho mu σ H Q R St q l =>
  go F al rho mu σ H _ _ St q fun F1 al1 x mu1 v H1 E1 C1 r1 q1 => by
    obtain ⟨j0, a0, C', ns, ds, dx, vs0, ex, ev, ha0, hm0, hn, hH, hl, rl, ⟨ec, hm⟩, q2⟩ := onIns_out C1 r1 q1
    subst ec
    refine ⟨a0, dx, _, ev, hH, zip_none hm, g F1 al1 rho mu1 σ H1 _ _ (St.of C1 E1.ex E1.pf) q2 fun F2 al2 xs mu2 vs H2 E2 C2 r2 q3 => ?_⟩
    show spOf S (v :: (vs ++ [])) H2 R E0
    rw [List.append_nil]
    obtain ⟨j, a, mc, r, ha, hmj, rs, q4⟩ := onCel_out C2 (.cons (r1.mono E2.ex E2.pf) r2) q3
    refine ⟨F2, [a], .cel 0 :: r, [mc], _, C2.one ha hmj, rs, q4, fun F' mu' rv v H' E' C' rr fr q' => ?_⟩
    cases mu' with
    | nil => exact q'.elim
    | cons m' t =>
      cases t with
      | cons _ _ => exact q'.elim
      | nil =>
        obtain ⟨C3, E3⟩ := C2.over1 ha hmj E' C'
        have EE := (E1.trans E2).trans E3
        cases rv with
        | dv x =>
          cases x with
          | cel k => exact q'.elim
          | dat d => exact l F' al2 (.dat d) _ v H' EE C3 rr q'
        | new m2 =>
          obtain ⟨p, ev, na, dd, ok⟩ := rr
          obtain ⟨o, ho, rep⟩ := ok.frz dd
          have h0 : H2 p = none := fr p ev
          have hn := ok.un dd
          subst ev
          exact l _ al2 (.dat m2.toD) _ (.ref p) H' (EE.frz hn (none_back ((E1.trans E2).dm p) h0)) (C3.frz ho hn (C2.not_al h0) (ok.frzN dd ho)) (rep _ (ex_upd hn) upd_same) q'
theorem cm (G : CalM X.prog X.w X.K X.mg X.base k C m ps S) (hr : Room k X.A) (ho : CE X o to) (ha : CA X (e :: es) tr) {pl : Sem Bool}
    (hst : starEach (e :: es) X.env = (false, eval e X.env) :: starEach es X.env := by rfl) (hpl : (backTo pos (starEach es X.env)).any (·.1) = false := by rfl)
    (ht : eval (.Call (.Attribute o m apos) (e :: es) [] pos) X.env = (do
      let ov ← eval o X.env
      PySem.standAt apos.atName
      let (f, first) ← holding [ov] (getMethod ov m pl)
      callWith pos f first (backTo pos (starEach (e :: es) X.env)) (backToKw pos (keywordEach [] X.env))) := by rfl) :
    CE X (.Call (.Attribute o m apos) (e :: es) [] pos) (dMeth C m S to tr) := by
  obtain ⟨f, fd, F, c, me, b⟩ := G.ok
  obtain ⟨_, po, go⟩ := ho.ok
  obtain ⟨_, pa, ga⟩ := ha.ok
  exact ⟨_, pe_meth po c me F hr b .nil (E := E0) pass0 pa hst hpl ht, ge_meth go ga⟩
theorem cm0 (G : CalM X.prog X.w X.K X.mg X.base k C m ps S) (hr : Room k X.A) (ho : CE X o to) {pl : Sem Bool}
    (ht : eval (.Call (.Attribute o m apos) [] [] pos) X.env = (do
      let ov ← eval o X.env
      PySem.standAt apos.atName
      let (f, first) ← holding [ov] (getMethod ov m pl)
      callWith pos f first (backTo pos (starEach [] X.env)) (backToKw pos (keywordEach [] X.env))) := by rfl) :
    CE X (.Call (.Attribute o m apos) [] [] pos) (dMeth C m S to aNil) := by
  obtain ⟨f, fd, F, c, me, b⟩ := G.ok
  obtain ⟨_, po, go⟩ := ho.ok
  obtain ⟨_, pa, ga⟩ := (ca_nil (X := X)).ok
  refine ⟨_, pe_meth0 po c me F hr b .nil (E := E0) pass0 ht, ge_meth (ua := tNil) go fun F al rho mu σ H Q R S q l => l F al [] mu [] H Ext.refl S.toCels .nil q⟩
/-- C(..): a new cell -/
def dMake (C : Addr) (S : FS) (ta : DA) : DE := fun rho mu Q => ta rho mu fun xs mu1 => allD xs = true ∧ S (.cel 0 :: xs) [.ins C [] []] fun rv mu' => match rv, mu' with
  | .dv (.dat .non), [m'] => Q (.cel mu1.length) (mu1 ++ [m'])
  | _, _ => False
theorem ge_make {ua : TA} {E0 : XK} (g : GA ua tr) : GE (tMake C (spOf S) [] E0 ua) (dMake C S tr) := fun F al rho mu σ H Q R St q l =>
  g F al rho mu σ H _ _ St q fun F1 al1 xs mu1 vs H1 E1 C1 r1 q1 => by
    intro x dx hx hdx hne
    rw [List.append_nil]
    have hx2 : upd H1 dx (.own x) x = none := by rw [upd_ne (fun z => hne z.symm)]; exact hx
    have C2 : Cels F1 al1 mu1 (upd (upd H1 dx (.own x)) x (.ins C dx [])) := (C1.loose hdx).loose hx2
    have E2 : Ext F1 al1 H1 F1 al1 (upd (upd H1 dx (.own x)) x (.ins C dx [])) := (Ext.loose hdx).trans (Ext.loose hx2)
    have na : x ∉ al1 := C1.not_al hx
    have C3 := C2.grow (m := .ins C [] []) (p := x) ⟨ex_none C1.ex hx, dx, [], upd_same, rfl, RepL.nil⟩ na
    have hj : (al1 ++ [x])[al1.length]? = some x := by rw [List.getElem?_append_right (Nat.le_refl _), Nat.sub_self]; rfl
    have hmj : (mu1 ++ [MC.ins C [] []])[al1.length]? = some (.ins C [] []) := by rw [C1.len, List.getElem?_append_right (Nat.le_refl _), Nat.sub_self]; rfl
    have rs : RepVs F1 [x] (.cel 0 :: xs) (.ref x :: vs) := .cons ⟨x, rfl, rfl⟩ ((allD_vs r1 q1.1).mono (Ex.refl F1) ⟨[x], rfl⟩)
    refine ⟨F1, [x], .cel 0 :: xs, [.ins C [] []], _, C3.one hj hmj, rs, q1.2, fun F' mu' rv v H' E' C' rr fr q' => ?_⟩
    have E12 : Ext F1 al1 H1 F1 (al1 ++ [x]) (upd (upd H1 dx (.own x)) x (.ins C dx [])) := ⟨E2.ex, List.prefix_append _ _, E2.nf, fun a ha => by
      rcases List.mem_append.mp ha with z | z
      · exact .inl z
      · rw [List.mem_singleton] at z
        subst z
        exact .inr hx, E2.kp, E2.dm⟩
    cases rv with
    | new m2 => exact q'.elim
    | dv y =>
      cases y with
      | cel k => exact q'.elim
      | dat d =>
        cases d with
        | non =>
          cases mu' with
          | nil => exact q'.elim
          | cons m' t =>
            cases t with
            | cons _ _ => exact q'.elim
            | nil =>
              obtain ⟨C4, E4⟩ := C3.over1 hj hmj E' C'
              have em : (mu1 ++ [MC.ins C [] []]).set al1.length m' = mu1 ++ [m'] := by
                rw [C1.len, List.set_append_right _ _ (Nat.le_refl _), Nat.sub_self]
                rfl
              rw [em] at C4
              refine ⟨rv_non_out (F := F') (al := [x]) rr, l F' (al1 ++ [x]) (.cel mu1.length) _ (.ref x) H' ((E1.trans E12).trans E4) C4 ⟨x, by rw [← C1.len]; exact hj, rfl⟩ q'⟩
        | _ => exact q'.elim
theorem cmk (G : CalI X.prog X.w X.K X.mg X.base k C x ps S) (hr : Room (k + 1) X.A) (ha : CA X (e :: es) tr) (hg : Gl X x := by rfl)
    (hdb : (x == ("__debug__" : Str)) = false := by decide) (he : starEach (e :: es) X.env = (false, eval e X.env) :: starEach es X.env := by rfl) (hpl : (backTo pos (starEach es X.env)).any (·.1) = false := by rfl) :
    CE X (.Call (.Name x p) (e :: es) [] pos) (dMake C S tr) := by
  obtain ⟨f, fd, F, M, hm, b⟩ := G.ok
  obtain ⟨_, pa, ga⟩ := ha.ok
  exact ⟨_, pe_make M F hr hg hm b .nil (E := E0) pass0 pa hdb he hpl, ge_make ga⟩
end
end Dx

namespace Dx
open PySem PySem.Spec PyProof.Rows L2
open Evl (Ex)
variable [Tb]
/-! ### what is walked is one or the other -/
def iOr (a b : DI) : DI := fun rho mu Q => a rho mu Q ∨ b rho mu Q
theorem ci_or {X : Cx} {tg e : Expr} {t u : DI} (h1 : CI X tg e t) (h2 : CI X tg e u) : CI X tg e (iOr t u) := by
  obtain ⟨w1, p1, g1⟩ := h1.ok
  obtain ⟨w2, p2, g2⟩ := h2.ok
  refine ⟨fun σ H R => w1 σ H R ∨ w2 σ H R, ⟨fun pins s σ H R I h => ?_⟩, fun F al rho mu σ H Q R S q l => ?_⟩
  · rcases h with h | h
    · exact p1.run pins s σ H R I h
    · exact p2.run pins s σ H R I h
  · rcases q with q | q
    · exact .inl (g1 F al rho mu σ H Q R S q l)
    · exact .inr (g2 F al rho mu σ H Q R S q l)
/-! ### texts joined by a sign -/
theorem join_run {s : List Nat} {ws : List (List Nat)} {mu : Mu} {Q : DQ} (h : (ws.map List.length).sum + ws.length * s.length ≤ 1000000) (q : Q (.dat (.str (TL.joinL s ws))) mu) : dJoin (.dat (.str s)) [.dat (.lst (ws.map D.str))] mu Q := by
  unfold dJoin
  exact on_some (a := ws) (toSs_of ws) ⟨h, q⟩
theorem join_flat (c : Nat) : ∀ (ps : List (List Nat)) (p : List Nat), joinC c (p :: ps) = p ++ (ps.map fun w => c :: w).flatten
  | [], p => by rw [joinC_one, List.map_nil, List.flatten_nil, List.append_nil]
  | q :: r, p => by rw [joinC_cons, join_flat c r q, List.map_cons, List.flatten_cons, List.cons_append]
theorem sum_le {α : Type} {f : α → Nat} {k : Nat} : ∀ {l : List α}, (∀ x ∈ l, f x ≤ k) → (l.map f).sum ≤ k * l.length
  | [], _ => by simp
  | x :: r, h => by
    have h1 := h x (List.mem_cons_self ..)
    have h2 := sum_le (f := f) (k := k) (l := r) fun y hy => h y (List.mem_cons_of_mem _ hy)
    rw [List.map_cons, List.sum_cons, List.length_cons, Nat.mul_succ]
    omega
theorem num_len6 {n : Nat} (h : n < 1000000) : (numS n).length ≤ 6 := numS_len (by omega) h
/-- a word and numbers -/
def rowW (w : List Nat) (ns : List Nat) : List Nat := joinC 32 (w :: ns.map numS)
theorem flat_len : ∀ (l : List (List Nat)), l.flatten.length = (l.map List.length).sum := fun l => List.length_flatten
theorem rowW_len {w ns : List Nat} (h : ∀ n ∈ ns, n < 1000000) : (rowW w ns).length ≤ w.length + 7 * ns.length := by
  unfold rowW
  rw [join_flat, List.length_append, flat_len, List.map_map, List.map_map]
  have := sum_le (f := (List.length ∘ (fun w => 32 :: w)) ∘ numS) (k := 7) (l := ns) fun n hn => by
    show (numS n).length + 1 ≤ 7
    have := num_len6 (h n hn)
    omega
  omega
theorem lit_sp : lit " " = [32] := by decide +kernel
theorem lit_nl : lit "\n" = [10] := by decide +kernel
theorem lit_letters : lit "letters " = lit "letters" ++ [32] := by decide +kernel
theorem lit_begin : lit "begin " = lit "begin" ++ [32] := by decide +kernel
def S_row_text : FS := fun xs mu Q => ∃ (w ns : List Nat) (d : D), xs = [.dat (.str w), .dat d] ∧ mu = [] ∧ (d = .lst (ns.map natD) ∨ d = .tup (ns.map natD)) ∧ w.length ≤ 1000 ∧ ns.length ≤ 10000 ∧ (∀ n ∈ ns, n < 1000000) ∧ Q (.dv (.dat (.str (rowW w ns)))) []
theorem len_row_text : ∀ xs mu Q, S_row_text xs mu Q → xs.length = 2 := fun xs mu Q h => by
  obtain ⟨_, _, _, rfl, _⟩ := h
  rfl
/-- [str(n) for n in ns] -/
theorem comp_nums {i : Nat} {ns : List Nat} {rho : Rho} {mu : Mu} {Q : List D → Mu → Prop} {te : DE} (hn : ns.length ≤ 10000) (step : ∀ n ∈ ns, ∀ G : DQ, G (.dat (.str (numS n))) mu → te (setD rho i (.dat (natD n))) mu G)
    (q : Q ((ns.map numS).map D.str) mu) : dCompL (dgN i) dYes te rho Q (ns.map natD) [] mu := by
  refine comp_list (v := fun n => D.str (numS n)) (by omega) (fun n hn' G g => step n hn' G g) ?_
  rw [List.map_map] at q
  exact q
theorem strI_run {n : Nat} {mu : Mu} {G : DQ} (h : n < 1000000) (g : G (.dat (.str (numS n))) mu) : dStrI [.dat (natD n)] mu G := ⟨⟨by show (0 : Int) ≤ (n : Int); omega, by show (n : Int) < 1000000; omega⟩, g⟩
theorem join_row {w ns : List Nat} {mu : Mu} {Q : DQ} (hw : w.length ≤ 1000) (hn : ns.length ≤ 10000) (hb : ∀ n ∈ ns, n < 1000000) (q : Q (.dat (.str (rowW w ns))) mu) : dJoin (.dat (.str (lit " "))) [.dat (.lst ([D.str w] ++ (ns.map numS).map D.str))] mu Q := by
  rw [lit_sp]
  refine join_run (s := [32]) (ws := w :: ns.map numS) ?_ q
  have := sum_le (f := List.length ∘ numS) (k := 6) (l := ns) fun n hn => num_len6 (hb n hn)
  rw [List.map_cons, List.sum_cons, List.map_map, List.length_cons, List.length_map, List.length_cons, List.length_nil]
  omega
def t_row_text : DS :=
  (dRet (dBM "str" dJoin (dC (.str (lit " "))) (aCons (dFrz (fOp fCat (dFrz (fLst (aCons (dVar 0) aNil))) (dFrz (fLc (iOr (iDat (dVar 1)) (iDatT (dVar 1))) (dgN 2) dYes (dCB dStrI (aCons (dVar 2) aNil)) [2])))) aNil)))
theorem rd_row_text : Body t_row_text ["word", "numbers", "number"] S_row_text := fun xs mu Q h => by
  obtain ⟨w, ns, d, rfl, rfl, hd, hw, hn, hb, q⟩ := h
  refine ⟨rfl, ?_⟩
  refine ⟨by show 1 ≤ 1000; omega, ?_⟩
  have step : ∀ n ∈ ns, ∀ G : DQ, G (.dat (.str (numS n))) [] → (dCB dStrI (aCons (dVar 2) aNil)) (setD (wipeD (startD ["word", "numbers", "number"] [.dat (.str w), .dat d]) [2]) 2 (.dat (natD n))) [] G := fun n hn' G g => strI_run (hb n hn') g
  have fin : ([D.str w].length + ((ns.map numS).map D.str).length ≤ 1000000) := by
    rw [List.length_map, List.length_map]
    show 1 + ns.length ≤ _
    omega
  rcases hd with e | e <;> subst e
  · refine .inl ?_
    refine comp_nums hn step ?_
    exact ⟨fin, join_row hw hn hb q⟩
  · refine .inr ?_
    refine comp_nums hn step ?_
    exact ⟨fin, join_row hw hn hb q⟩
/-! ### a machine's text -/
def rowsM (M : Mach) : List (List Nat) := joinC 32 [lit "letters", M.L] :: rowW (lit "begin") [M.b] :: rowW (lit "ends") M.ends :: M.steps.map (rowW (lit "room"))
def mtext (M : Mach) : List Nat := joinC 10 (rowsM M)
structure MSm (M : Mach) : Prop where
  l : M.L.length ≤ 1000
  b : M.b < 1000000
  e : ∀ n ∈ M.ends, n < 1000000
  el : M.ends.length ≤ 10000
  s : ∀ r ∈ M.steps, r.length ≤ 30 ∧ ∀ n ∈ r, n < 1000000
  sl : M.steps.length ≤ 4000
theorem joinC_two (c : Nat) (p q : List Nat) : joinC c [p, q] = p ++ [c] ++ q := (List.append_assoc p [c] q).symm
theorem letters_row (M : Mach) : lit "letters " ++ M.L = joinC 32 [lit "letters", M.L] := by rw [lit_letters, joinC_two]
theorem begin_row (n : Nat) : lit "begin " ++ numS n = rowW (lit "begin") [n] := by rw [lit_begin]; rfl
theorem MSm.len {M : Mach} (h : MSm M) : ((rowsM M).map List.length).sum + (rowsM M).length ≤ 1000000 := by
  unfold rowsM
  have e1 : (joinC 32 [lit "letters", M.L]).length ≤ 1008 := by
    rw [← letters_row, List.length_append, show (lit "letters ").length = 8 by decide +kernel]
    have := h.l
    omega
  have e2 : (rowW (lit "begin") [M.b]).length ≤ 5 + 7 * 1 := rowW_len fun n hn => by rw [List.mem_singleton] at hn; subst hn; exact h.b
  have e3 : (rowW (lit "ends") M.ends).length ≤ 4 + 7 * M.ends.length := rowW_len h.e
  have e4 := sum_le (f := List.length ∘ rowW (lit "room")) (k := 214) (l := M.steps) fun r hr => by
    have h1 : (rowW (lit "room") r).length ≤ 4 + 7 * r.length := rowW_len (h.s r hr).2
    have h2 := (h.s r hr).1
    show (rowW (lit "room") r).length ≤ 214
    omega
  have h1 := h.el
  have h2 := h.sl
  simp only [List.map_cons, List.sum_cons, List.length_cons, List.map_map, List.length_map]
  omega
theorem join_rows {M : Mach} {mu : Mu} {Q : DQ} (h : MSm M) (q : Q (.dat (.str (mtext M))) mu) : dJoin (.dat (.str (lit "\n"))) [.dat (.lst ((rowsM M).map D.str))] mu Q := by
  rw [lit_nl]
  refine join_run (s := [10]) (ws := rowsM M) ?_ q
  have := h.len
  rw [List.length_cons, List.length_nil]
  omega
def S_show_machine : FS := fun xs mu Q => ∃ M : Mach, xs = [.dat M.toD] ∧ mu = [] ∧ MSm M ∧ Q (.dv (.dat (.str (mtext M)))) []
theorem len_show_machine : ∀ xs mu Q, S_show_machine xs mu Q → xs.length = 1 := fun xs mu Q h => by
  obtain ⟨_, rfl, _⟩ := h
  rfl
def t_show_machine : DS :=
  (dSeq (dAsg (dVar 0) (dgTup 4 (dgCons (dgN 1) (dgCons (dgN 2) (dgCons (dgN 3) (dgCons (dgN 4) dgNil))))))
  (dSeq (dSet 5 (dFrz (fLst (aCons (dOp dAdd (dC (.str (lit "letters "))) (dVar 1)) (aCons (dCall S_row_text (aCons (dC (.str (lit "begin"))) (aCons (dFrz (fLst (aCons (dVar 2) aNil))) aNil))) (aCons (dCall S_row_text (aCons (dC (.str (lit "ends"))) (aCons (dVar 3) aNil))) aNil))))))
  (dRet (dBM "str" dJoin (dC (.str (lit "\n"))) (aCons (dFrz (fOp fCat (dVar 5) (dFrz (fLc (iDatT (dVar 4)) (dgN 6) dYes (dCall S_row_text (aCons (dC (.str (lit "room"))) (aCons (dVar 6) aNil))) [6])))) aNil)))))
theorem rd_show_machine : Body t_show_machine ["machine", "letters", "begin", "ends", "steps", "rows", "row"] S_show_machine := fun xs mu Q h => by
  obtain ⟨M, rfl, rfl, sm, q⟩ := h
  refine ⟨rfl, ?_⟩
  refine ⟨by rw [show (lit "letters ").length = 8 by decide +kernel]; have := sm.l; omega, ?_⟩
  refine ⟨by show 1 ≤ 1000; omega, ?_⟩
  refine ⟨rfl, lit "begin", [M.b], _, rfl, rfl, .inl rfl, by decide +kernel, by show 1 ≤ 10000; omega, fun n hn => by rw [List.mem_singleton] at hn; subst hn; exact sm.b, ?_⟩
  refine ⟨rfl, lit "ends", M.ends, _, rfl, rfl, .inr rfl, by decide +kernel, sm.el, sm.e, ?_⟩
  refine ⟨by show 3 ≤ 1000; omega, ?_⟩
  refine ⟨rfl, ?_⟩
  refine comp_list (xs := M.steps) (gd := rowD) (v := fun r => D.str (rowW (lit "room") r)) (by have := sm.sl; omega) (fun r hr G g => ?_) ?_
  · exact ⟨rfl, lit "room", r, _, rfl, rfl, .inr rfl, by decide +kernel, by have := (sm.s r hr).1; omega, (sm.s r hr).2, g⟩
  refine ⟨by rw [List.length_map]; show 3 + _ ≤ _; have := sm.sl; omega, ?_⟩
  have e : ([D.str (lit "letters " ++ M.L), .str (rowW (lit "begin") [M.b]), .str (rowW (lit "ends") M.ends)] ++ M.steps.map fun r => D.str (rowW (lit "room") r)) = (rowsM M).map D.str := by
    rw [letters_row]
    unfold rowsM
    rw [List.map_cons, List.map_cons, List.map_cons, List.map_map]
    rfl
  show dJoin (.dat (.str (lit "\n"))) [.dat (.lst ([D.str (lit "letters " ++ M.L), .str (rowW (lit "begin") [M.b]), .str (rowW (lit "ends") M.ends)] ++ M.steps.map fun r => D.str (rowW (lit "room") r)))] _ _
  rw [e]
  exact join_rows sm q

end Dx

namespace Dx
open PySem PySem.Spec PyProof.Rows L2
open Evl (Ex)
variable [Tb]
/-! ### words, numbers, letters that are read -/
def isWord (t : List Nat) : Bool := t.all fun c => decide (c ∈ abc)
def S_is_word : FS := fun xs mu Q => ∃ t : List Nat, xs = [.dat (.str t)] ∧ mu = [] ∧ t.length ≤ 1000000 ∧ Q (.dv (.dat (.bl (isWord t)))) []
theorem len_is_word : ∀ xs mu Q, S_is_word xs mu Q → xs.length = 1 := fun xs mu Q h => by
  obtain ⟨_, rfl, _⟩ := h
  rfl
def t_is_word : DS :=
  (dRet (dCB dAll (aCons (dFrz (fLc (iStrD (dVar 0)) (dgN 1) dYes (dOp (dInQ false) (dVar 1) (dC (.str (lit "abcdefghijklmnopqrstuvwxyz")))) [1])) aNil)))
theorem rd_is_word : Body t_is_word ["text", "letter"] S_is_word := fun xs mu Q h => by
  obtain ⟨t, rfl, rfl, ht, q⟩ := h
  refine comp_bl (f := fun c => decide (c ∈ abc)) (by omega) (fun c K hc k => ?_) ?_
  · exact k
  · exact all_bl (Q := fun x mu1 => retQ 0 Q (.dv x) mu1) q
def figs : List Nat := lit "0123456789"
theorem figs_eq : figs = [48, 49, 50, 51, 52, 53, 54, 55, 56, 57] := by decide +kernel
theorem fig_iff (c : Nat) : decide (c ∈ figs) = isFig c := by
  unfold isFig
  rw [figs_eq]
  simp only [List.mem_cons, List.not_mem_nil, or_false]
  by_cases h : 48 ≤ c ∧ c ≤ 57
  · rw [decide_eq_true h.1, decide_eq_true h.2]
    exact decide_eq_true (by omega)
  · have : (decide (48 ≤ c) && decide (c ≤ 57)) = false := by
      by_cases a : 48 ≤ c
      · rw [decide_eq_true a, decide_eq_false (fun z => h ⟨a, z⟩)]; rfl
      · rw [decide_eq_false a]; rfl
    rw [this]
    exact decide_eq_false (by omega)
/-- a number of at most three figures -/
def isNumW (w : List Nat) : Bool := decide (1 ≤ w.length) && decide (w.length ≤ 3) && w.all (fun c => decide (c ∈ figs)) && (decide (w = lit "0") || !decide (w.head? = some 48))
theorem lit_0 : lit "0" = [48] := by decide +kernel
theorem okS {n : Nat} {w : List Nat} (h : ∀ c ∈ w, c < 1114112) : okD n (.str w) = true := okD_str n h
theorem ok0 (n : Nat) : okD n (.str (lit "0")) = true := okD_str n (by rw [lit_0]; intro c hc; rw [List.mem_singleton] at hc; omega)
def S_is_number : FS := fun xs mu Q => ∃ w : List Nat, xs = [.dat (.str w)] ∧ mu = [] ∧ w.length ≤ 1000000 ∧ (∀ c ∈ w, c < 1114112) ∧ Q (.dv (.dat (.bl (isNumW w)))) []
theorem len_is_number : ∀ xs mu Q, S_is_number xs mu Q → xs.length = 1 := fun xs mu Q h => by
  obtain ⟨_, rfl, _⟩ := h
  rfl
def t_is_number : DS :=
  (dSeq (dIf (dOr (dNot (dTest (dChain dLe dLe (dC (.int 1)) (dCB dLen (aCons (dVar 0) aNil)) (dC (.int 3))))) (dNot (dTest (dCB dAll (aCons (dFrz (fLc (iStrD (dVar 0)) (dgN 1) dYes (dOp (dInQ false) (dVar 1) (dC (.str (lit "0123456789")))) [1])) aNil)))))
  (dRet (dC (.bl false)))
  dNext)
  (dRet (dOrV (dOp dEq (dVar 0) (dC (.str (lit "0")))) (dOp dNe (dOp dIx (dVar 0) (dC (.int 0))) (dC (.str (lit "0")))))))
theorem rd_is_number : Body t_is_number ["word", "sign"] S_is_number := fun xs mu Q h => by
  obtain ⟨w, rfl, rfl, hw, hc, q⟩ := h
  have bad : isNumW w = false → retQ 0 Q (.dv (.dat (.bl false))) [] := fun e => by rw [e] at q; exact q
  refine ⟨hw, ?_⟩
  refine itD (p := (1 : Int) ≤ ((w.length : Nat) : Int)) (fun h1 => ?_) (fun h1 => ?_)
  · refine itN (p := ((w.length : Nat) : Int) ≤ 3) (fun h2 => ?_) (fun h2 => ?_)
    · exact bad (by unfold isNumW; rw [decide_eq_false (p := w.length ≤ 3) (by omega), Bool.and_false, Bool.false_and, Bool.false_and])
    · refine comp_bl (f := fun c => decide (c ∈ figs)) (by omega) (fun c K hc k => ?_) ?_
      · exact k
      refine all_bl ?_
      cases ha : w.all fun c => decide (c ∈ figs) with
      | false => exact bad (by unfold isNumW; rw [ha, Bool.and_false, Bool.false_and])
      | true =>
        refine ⟨okS hc, ok0 _, ?_⟩
        rw [eqD_str]
        have e1 : isNumW w = (decide (w = lit "0") || !decide (w.head? = some 48)) := by
          unfold isNumW
          rw [ha, decide_eq_true (p := 1 ≤ w.length) (by omega), decide_eq_true (p := w.length ≤ 3) (by omega)]
          rfl
        rw [e1] at q
        cases h0 : decide (w = lit "0") with
        | true =>
          rw [h0] at q
          exact q
        | false =>
          rw [h0] at q
          cases w with
          | nil => simp at h1
          | cons c r =>
            refine ⟨hw, ?_⟩
            refine on_some (a := c) (atI_head _ _) ?_
            refine ⟨okS (fun d hd => ?_), ok0 _, ?_⟩
            · rw [List.mem_singleton] at hd
              rw [hd]
              exact hc c (List.mem_cons_self ..)
            rw [eqD_str, lit_0]
            have e2 : decide ([c] = [48]) = decide ((c :: r).head? = some 48) := decide_eq_decide.mpr (by simp)
            rw [e2]
            exact q
  · exact bad (by unfold isNumW; rw [decide_eq_false (p := 1 ≤ w.length) (by omega), Bool.false_and, Bool.false_and, Bool.false_and])
def areLet (w : List Nat) : Bool := decide (0 < w.length) && (isWord w && decide (w.Pairwise (· < ·)))
theorem signs_plain {n : Nat} {s : List Nat} (h : ∀ c ∈ s, c < 1114112) : plainDs n (s.map fun c => D.str [c]) = true := by
  rw [map_str1]
  refine words_plain fun w hw c hc => ?_
  obtain ⟨d, hd, rfl⟩ := List.mem_map.mp hw
  rw [List.mem_singleton] at hc
  subst hc
  exact h c hd
theorem okD_signs {s : List Nat} (hs : s.length ≤ 4000) (h : ∀ c ∈ s, c < 1114112) : okD 60 (.lst (s.map fun c => D.str [c])) = true := by
  refine plain_ok 5 60 _ (by omega) ?_
  rw [plainD, signs_plain h, Bool.and_true]
  exact decide_eq_true (by rw [List.length_map]; omega)
theorem signs_len {s l : List Nat} (h : SignsIn s l) : l.length ≤ s.length := nodup_le (rise_nd h.1) fun c hc => (h.2 c).mp hc
def S_are_letters : FS := fun xs mu Q => ∃ w : List Nat, xs = [.dat (.str w)] ∧ mu = [] ∧ w.length ≤ 4000 ∧ (∀ c ∈ w, c < 1114112) ∧ Q (.dv (.dat (.bl (areLet w)))) []
theorem len_are_letters : ∀ xs mu Q, S_are_letters xs mu Q → xs.length = 1 := fun xs mu Q h => by
  obtain ⟨_, rfl, _⟩ := h
  rfl
def t_are_letters : DS :=
  (dRet (dAndV (dOp dGt (dCB dLen (aCons (dVar 0) aNil)) (dC (.int 0))) (dAndV (dCall S_is_word (aCons (dVar 0) aNil)) (dOp dEq (dFrz (fCB fListS (aCons (dVar 0) aNil))) (dFrz (fSortSet (dVar 0)))))))
theorem rd_are_letters : Body t_are_letters ["word"] S_are_letters := fun xs mu Q h => by
  obtain ⟨w, rfl, rfl, hw, hc, q⟩ := h
  refine ⟨by omega, ?_⟩
  show if decide (((w.length : Nat) : Int) > 0) = true then _ else _
  refine itD (p := ((w.length : Nat) : Int) > 0) (fun h1 => ?_) (fun h1 => ?_)
  · have e0 : areLet w = (isWord w && decide (w.Pairwise (· < ·))) := by
      unfold areLet
      rw [decide_eq_true (p := 0 < w.length) (by omega), Bool.true_and]
    rw [e0] at q
    refine ⟨rfl, w, rfl, rfl, by omega, ?_⟩
    cases hi : isWord w with
    | false =>
      rw [hi] at q
      exact q
    | true =>
      rw [hi, Bool.true_and] at q
      refine ⟨by omega, ?_⟩
      refine ⟨hw, fun l hl => ?_⟩
      have le := signs_len hl
      refine ⟨okD_signs hw hc, okD_signs (by omega) (fun c hc' => hc c ((hl.2 c).mp hc')), ?_⟩
      have e : eqD (.lst (w.map fun c => D.str [c])) (.lst (l.map fun c => D.str [c])) = decide (w.Pairwise (· < ·)) := by
        rw [eqD_signs, decide_eq_decide]
        exact ⟨fun e => (signs_self hl).mp e.symm, fun p => ((signs_self hl).mpr p).symm⟩
      rw [← e] at q
      exact q
  · have e0 : areLet w = false := by
      unfold areLet
      rw [decide_eq_false (p := 0 < w.length) (by omega), Bool.false_and]
    rw [e0] at q
    exact q

end Dx

namespace Dx
open PySem PySem.Spec PyProof.Rows L2
open Evl (Ex)
variable [Tb]
/-! ### a machine's text is read -/
def mtC (C : Addr) (rows : List (List Nat)) (at' : Nat) : MC := .ins C ["rows", "at"] [.lst (rows.map D.str), natD at']
theorem fld_rows {a b : D} : fldAt "rows" ["rows", "at"] [a, b] = some a := by
  show (if ("rows" : Str) = "rows" then some a else _) = _
  rw [if_pos rfl]
theorem fld_at {a b : D} : fldAt "at" ["rows", "at"] [a, b] = some b := by
  show (if ("rows" : Str) = "at" then some a else if ("at" : Str) = "at" then some b else _) = _
  rw [if_neg (by decide +kernel), if_pos rfl]
theorem put_at0 {C : Addr} {d a : D} : MC.ins C (putNs "at" ["rows"]) (putDs "at" d ["rows"] [a]) = .ins C ["rows", "at"] [a, d] := by
  have e : ¬ ("rows" : Str) = "at" := by decide +kernel
  have e1 : putNs "at" ["rows"] = (["rows", "at"] : List Str) := by
    show (if ("rows" : Str) = "at" then _ else _) = _
    rw [if_neg e]
    rfl
  have e2 : putDs "at" d ["rows"] [a] = [a, d] := by
    show (if ("rows" : Str) = "at" then _ else _) = _
    rw [if_neg e]
    rfl
  rw [e1, e2]
theorem put_at {C : Addr} {d a b : D} : MC.ins C (putNs "at" ["rows", "at"]) (putDs "at" d ["rows", "at"] [a, b]) = .ins C ["rows", "at"] [a, d] := by
  have e : ¬ ("rows" : Str) = "at" := by decide +kernel
  have e1 : putNs "at" ["rows", "at"] = (["rows", "at"] : List Str) := by
    show (if ("rows" : Str) = "at" then _ else _ :: if ("at" : Str) = "at" then _ else _) = _
    rw [if_neg e, if_pos rfl]
  have e2 : putDs "at" d ["rows", "at"] [a, b] = [a, d] := by
    show (if ("rows" : Str) = "at" then _ else _ :: if ("at" : Str) = "at" then _ else _) = _
    rw [if_neg e, if_pos rfl]
  rw [e1, e2]
theorem natD_succ (n : Nat) : D.int ((n : Int) + 1) = natD (n + 1) := by unfold natD; rw [Int.natCast_add]; rfl
def S_mt_init (C : Addr) : FS := fun xs mu Q => ∃ t : List Nat, xs = [.cel 0, .dat (.str t)] ∧ mu = [.ins C [] []] ∧ t.length ≤ 1000000 ∧ Q (.dv (.dat .non)) [mtC C (splitC 10 t) 0]
theorem len_MachineText___init__ {C : Addr} : ∀ xs mu Q, S_mt_init C xs mu Q → xs.length = 2 := fun xs mu Q h => by
  obtain ⟨_, rfl, _⟩ := h
  rfl
def t_MachineText___init__ (a_MachineText : Addr) : DS :=
  (dSeq (dFldPut a_MachineText "rows" (dVar 0) (dFrz (fSplit 10 (dVar 1) (aCons (dC (.str (lit "\n"))) aNil))))
  (dFldPut a_MachineText "at" (dVar 0) (dC (.int 0))))
theorem rd_MachineText___init__ {a_MachineText : Addr} : Body (t_MachineText___init__ a_MachineText) ["self", "text"] (S_mt_init a_MachineText) := fun xs mu Q h => by
  obtain ⟨t, rfl, rfl, ht, q⟩ := h
  refine ⟨rfl, ?_⟩
  refine ⟨⟨lit_nl, by decide, ht⟩, ?_⟩
  refine ⟨⟨rfl, by decide⟩, ?_⟩
  refine ⟨⟨rfl, by decide⟩, ?_⟩
  show retQ 1 Q (.dv (.dat .non)) [MC.ins a_MachineText (putNs "at" ["rows"]) (putDs "at" (.int 0) ["rows"] [_])]
  rw [put_at0]
  exact q
def S_mt_words (C : Addr) : FS := fun xs mu Q => ∃ (rows : List (List Nat)) (at' : Nat) (w r : List Nat) (ws : List (List Nat)), xs = [.cel 0, .dat (.str w)] ∧ mu = [mtC C rows at'] ∧ rows[at']? = some r ∧ splitC 32 r = w :: ws ∧ r.length ≤ 1000000 ∧ (∀ c ∈ w, c < 1114112) ∧
  Q (.new (.lst (ws.map D.str))) [mtC C rows (at' + 1)]
theorem len_MachineText_words_behind {C : Addr} : ∀ xs mu Q, S_mt_words C xs mu Q → xs.length = 2 := fun xs mu Q h => by
  obtain ⟨_, _, _, _, _, rfl, _⟩ := h
  rfl
def t_MachineText_words_behind (a_MachineText : Addr) : DS :=
  (dSeq (dIf (dTest (dOp dEq (dFld a_MachineText "at" (dVar 0)) (dCB dLen (aCons (dFld a_MachineText "rows" (dVar 0)) aNil))))
  dDead
  dNext)
  (dSeq (dSet 2 (dFrz (fSplit 32 (dOp dIx (dFld a_MachineText "rows" (dVar 0)) (dFld a_MachineText "at" (dVar 0))) (aCons (dC (.str (lit " "))) aNil))))
  (dSeq (dIf (dTest (dOp dNe (dOp dIx (dVar 2) (dC (.int 0))) (dVar 1)))
  dDead
  dNext)
  (dSeq (dFldAug a_MachineText "at" (dVar 0) (dC (.int 1)))
  (dRetF (fSl (dVar 2) (oSome (dC (.int 1))) oNone))))))
theorem rd_MachineText_words_behind {a_MachineText : Addr} : Body (t_MachineText_words_behind a_MachineText) ["self", "word", "words"] (S_mt_words a_MachineText) := fun xs mu Q h => by
  obtain ⟨rows, at', w, r, ws, rfl, rfl, hr, hs, hl, hc, q⟩ := h
  have ha : at' < rows.length := (List.getElem?_eq_some_iff.mp hr).1
  refine ⟨rfl, ?_⟩
  refine on_some fld_at ?_
  refine ⟨rfl, ?_⟩
  refine on_some fld_rows ?_
  refine ⟨okD_int _ _, okD_int _ _, ?_⟩
  refine itI (fun h => absurd h (by rw [List.length_map]; omega)) (fun _ => ?_)
  refine ⟨rfl, ?_⟩
  refine on_some fld_rows ?_
  refine ⟨rfl, ?_⟩
  refine on_some fld_at ?_
  refine on_some (a := D.str r) (L2.atI_nat (by rw [List.getElem?_map, hr]; rfl)) ?_
  refine ⟨rfl, ?_⟩
  refine ⟨⟨lit_sp, by decide, hl⟩, ?_⟩
  rw [hs]
  refine on_some (a := D.str w) (atI_head _ _) ?_
  refine ⟨okS hc, okS hc, ?_⟩
  rw [eqD_str, decide_eq_true rfl]
  refine ⟨rfl, ?_⟩
  refine on_some fld_at ?_
  refine ⟨⟨rfl, by decide⟩, ?_⟩
  show retQ 1 Q (.new (.lst (cut (D.str w :: ws.map D.str) (some 1) none))) [MC.ins a_MachineText (putNs "at" ["rows", "at"]) (putDs "at" (.int ((at' : Int) + 1)) ["rows", "at"] [_, natD at'])]
  rw [put_at, cut_tail, natD_succ]
  exact q
def S_mt_need (C : Addr) : FS := fun xs mu Q => ∃ m : MC, xs = [.cel 0, .dat (.bl true)] ∧ mu = [m] ∧ isDead m = false ∧ Q (.dv (.dat .non)) [m]
theorem len_MachineText_need {C : Addr} : ∀ xs mu Q, S_mt_need C xs mu Q → xs.length = 2 := fun xs mu Q h => by
  obtain ⟨_, rfl, _⟩ := h
  rfl
def t_MachineText_need (a_MachineText : Addr) : DS :=
  (dIf (dNot (dTest (dVar 1)))
  dDead
  dNext)
theorem rd_MachineText_need {a_MachineText : Addr} : Body (t_MachineText_need a_MachineText) ["self", "fits"] (S_mt_need a_MachineText) := fun xs mu Q h => by
  obtain ⟨m, rfl, rfl, hd, q⟩ := h
  exact q
theorem abc_range {c : Nat} (h : c ∈ abc) : 97 ≤ c ∧ c ≤ 122 := by
  rw [abc_eq] at h
  simp only [List.mem_cons, List.not_mem_nil, or_false] at h
  omega
theorem areLet_of {L : List Nat} (h : IsLetters L) (h0 : 0 < L.length) : areLet L = true := by
  unfold areLet isWord
  rw [decide_eq_true h0, decide_eq_true h.1, List.all_eq_true.mpr fun c hc => decide_eq_true (h.2 c hc)]
  rfl
theorem lets_split {L : List Nat} (h : IsLetters L) : splitC 32 (joinC 32 [lit "letters", L]) = [lit "letters", L] := splitC_join (List.cons_ne_nil _ _) fun p hp => by
  simp only [List.mem_cons, List.not_mem_nil, or_false] at hp
  rcases hp with e | e
  · subst e
    decide +kernel
  · subst e
    intro z
    have := abc_range (h.2 _ z)
    omega
theorem row_split {w ns : List Nat} (hw : 32 ∉ w) : splitC 32 (rowW w ns) = w :: ns.map numS := splitC_join (List.cons_ne_nil _ _) fun p hp => by
  rcases List.mem_cons.mp hp with e | e
  · subst e
    exact hw
  · obtain ⟨n, _, rfl⟩ := List.mem_map.mp e
    exact numS_free (by omega)
theorem letters_lt {L : List Nat} (h : IsLetters L) : ∀ c ∈ L, c < 1114112 := fun c hc => by
  have := abc_range (h.2 c hc)
  omega
theorem nd_letters : ("letters" : Str) ∉ (["rows", "at"] : List Str) := by decide +kernel
theorem nd_words : ("words_behind" : Str) ∉ (["rows", "at"] : List Str) := by decide +kernel
theorem nd_need : ("need" : Str) ∉ (["rows", "at"] : List Str) := by decide +kernel
theorem nd_numbers : ("numbers" : Str) ∉ (["rows", "at"] : List Str) := by decide +kernel
def S_mt_letters (C : Addr) : FS := fun xs mu Q => ∃ (rows : List (List Nat)) (at' : Nat) (L : List Nat), xs = [.cel 0] ∧ mu = [mtC C rows at'] ∧ rows[at']? = some (joinC 32 [lit "letters", L]) ∧ IsLetters L ∧ 0 < L.length ∧ L.length ≤ 1000 ∧
  Q (.dv (.dat (.str L))) [mtC C rows (at' + 1)]
theorem len_MachineText_letters {C : Addr} : ∀ xs mu Q, S_mt_letters C xs mu Q → xs.length = 1 := fun xs mu Q h => by
  obtain ⟨_, _, _, rfl, _⟩ := h
  rfl
def t_MachineText_letters (a_MachineText : Addr) : DS :=
  (dSeq (dSet 1 (dMeth a_MachineText "words_behind" (S_mt_words a_MachineText) (dVar 0) (aCons (dC (.str (lit "letters"))) aNil)))
  (dSeq (dDrop (dMeth a_MachineText "need" (S_mt_need a_MachineText) (dVar 0) (aCons (dAndV (dOp dEq (dCB dLen (aCons (dVar 1) aNil)) (dC (.int 1))) (dCall S_are_letters (aCons (dOp dIx (dVar 1) (dC (.int 0))) aNil))) aNil)))
  (dRet (dOp dIx (dVar 1) (dC (.int 0))))))
theorem rd_MachineText_letters {a_MachineText : Addr} : Body (t_MachineText_letters a_MachineText) ["self", "words"] (S_mt_letters a_MachineText) := fun xs mu Q h => by
  obtain ⟨rows, at', L, rfl, rfl, hr, hl, h0, h1, q⟩ := h
  refine ⟨⟨rfl, nd_words⟩, rfl, rfl, ?_⟩
  refine ⟨rows, at', lit "letters", _, [L], rfl, rfl, hr, lets_split hl, ?_, by decide +kernel, ?_⟩
  · rw [joinC_two, List.length_append, List.length_append, show (lit "letters").length = 7 by decide +kernel]
    show 7 + 1 + _ ≤ _
    omega
  refine ⟨⟨rfl, nd_need⟩, ?_⟩
  refine ⟨okD_int _ _, okD_int _ _, ?_⟩
  rw [show eqD (.int ((List.map D.str [L]).length : Nat)) (.int 1) = true by rw [eqD_int]; rfl]
  refine ⟨rfl, L, rfl, rfl, by omega, letters_lt hl, ?_⟩
  rw [areLet_of hl h0]
  refine ⟨rfl, rfl, _, rfl, rfl, rfl, ?_⟩
  exact q
theorem num_ok : ∀ n, n < 1000 → isNumW (numS n) = true := by decide +kernel
theorem num_lt {n c : Nat} (h : c ∈ numS n) : c < 1114112 := by
  have := List.all_eq_true.mp (numS_fig n) c h
  unfold isFig at this
  rw [Bool.and_eq_true, decide_eq_true_eq, decide_eq_true_eq] at this
  omega
theorem num_len3 {n : Nat} (h : n < 1000) : (numS n).length ≤ 3 := numS_len (by omega) h
def S_mt_numbers (C : Addr) : FS := fun xs mu Q => ∃ (rows : List (List Nat)) (at' : Nat) (w ns : List Nat) (many : D), xs = [.cel 0, .dat (.str w), .dat many] ∧ mu = [mtC C rows at'] ∧ rows[at']? = some (rowW w ns) ∧ 32 ∉ w ∧ w.length ≤ 1000 ∧ (∀ c ∈ w, c < 1114112) ∧ ns.length ≤ 10000 ∧
  (∀ n ∈ ns, n < 1000) ∧ (many = .non ∨ many = natD ns.length) ∧ Q (.dv (.dat (.tup (ns.map natD)))) [mtC C rows (at' + 1)]
theorem len_MachineText_numbers {C : Addr} : ∀ xs mu Q, S_mt_numbers C xs mu Q → xs.length = 3 := fun xs mu Q h => by
  obtain ⟨_, _, _, _, _, rfl, _⟩ := h
  rfl
theorem natD_back (n : Nat) : D.int ((valS (numS n) : Nat) : Int) = natD n := by rw [numS_val]; rfl
def t_MachineText_numbers (a_MachineText : Addr) : DS :=
  (dSeq (dSet 3 (dMeth a_MachineText "words_behind" (S_mt_words a_MachineText) (dVar 0) (aCons (dVar 1) aNil)))
  (dSeq (dDrop (dMeth a_MachineText "need" (S_mt_need a_MachineText) (dVar 0) (aCons (dAndV (dCB dAll (aCons (dFrz (fLc (iDat (dVar 3)) (dgN 4) dYes (dCall S_is_number (aCons (dVar 4) aNil)) [4])) aNil)) (dOp (dInQ false) (dVar 2) (dTup (aCons (dC .non) (aCons (dCB dLen (aCons (dVar 3) aNil)) aNil))))) aNil)))
  (dRet (dCB dTupOf (aCons (dFrz (fLc (iDat (dVar 3)) (dgN 4) dYes (dCB dIntS (aCons (dVar 4) aNil)) [4])) aNil)))))
theorem rd_MachineText_numbers {a_MachineText : Addr} : Body (t_MachineText_numbers a_MachineText) ["self", "word", "many", "words", "one"] (S_mt_numbers a_MachineText) := fun xs mu Q h => by
  obtain ⟨rows, at', w, ns, many, rfl, rfl, hr, hw, hwl, hwc, hn, hb, hm, q⟩ := h
  refine ⟨⟨rfl, nd_words⟩, rfl, rfl, ?_⟩
  refine ⟨rows, at', w, _, ns.map numS, rfl, rfl, hr, row_split hw, ?_, hwc, ?_⟩
  · have := rowW_len (w := w) (ns := ns) fun n hn => Nat.lt_trans (hb n hn) (by decide)
    omega
  refine ⟨⟨rfl, nd_need⟩, ?_⟩
  have e1 : (ns.map numS).map D.str = ns.map fun n => D.str (numS n) := by rw [List.map_map]; rfl
  rw [e1]
  refine comp_list (xs := ns) (v := fun _ => D.bl true) (by omega) (fun n hn' G g => ?_) ?_
  · refine ⟨rfl, numS n, rfl, rfl, by have := num_len3 (hb n hn'); omega, fun c hc => num_lt hc, ?_⟩
    rw [num_ok n (hb n hn')]
    exact g
  refine all_blT ?_
  refine ⟨by show 2 ≤ 1000; omega, ?_⟩
  have e2 : inD many [.non, .int ((ns.map fun n => D.str (numS n)).length : Nat)] = true := by
    rw [List.length_map]
    rcases hm with e | e <;> subst e
    · rfl
    · show (false || (((ns.length : Nat) : Int) == ((ns.length : Nat) : Int) || false)) = true
      rw [beq_self_eq_true]
      rfl
  have e3 : flatD many = true := by rcases hm with e | e <;> subst e <;> rfl
  have fin : (dMeth a_MachineText "need" (S_mt_need a_MachineText) (dVar 0) (fun _ mu Q => Q [.dat (.bl true)] mu)) [some (.cel 0), some (.dat (.str w)), some (.dat many), some (.dat (.lst (ns.map fun n => D.str (numS n)))), none] [mtC a_MachineText rows (at' + 1)] (fun _ mu1 => dRet (dCB dTupOf (aCons (dFrz (fLc (iDat (dVar 3)) (dgN 4) dYes (dCB dIntS (aCons (dVar 4) aNil)) [4])) aNil))
      { nx := fun _ mu' => retQ 1 Q (.dv (.dat .non)) mu', rt := retQ 1 Q } [some (.cel 0), some (.dat (.str w)), some (.dat many), some (.dat (.lst (ns.map fun n => D.str (numS n)))), none] mu1) := by
    refine ⟨⟨rfl, nd_need⟩, rfl, rfl, _, rfl, rfl, rfl, ?_⟩
    refine comp_list (xs := ns) (v := natD) (by omega) (fun n hn' G g => ?_) ?_
    · refine ⟨⟨numS_fig n, numS_ne n, by have := num_len3 (hb n hn'); omega⟩, ?_⟩
      rw [natD_back]
      exact g
    exact q
  rcases hm with e | e <;> subst e
  · refine ⟨rfl, rfl, ?_⟩
    rw [e2]
    exact fin.2
  · refine ⟨rfl, rfl, ?_⟩
    rw [e2]
    exact fin.2
/-- a machine that is written: let by or not -/
structure MWr (M : Mach) : Prop where
  letters : IsLetters M.L
  len : 0 < M.L.length ∧ M.L.length ≤ 26
  b : M.b < 1000
  e : ∀ n ∈ M.ends, n < 1000
  el : M.ends.length ≤ 10000
  s : ∀ r ∈ M.steps, r.length = M.L.length ∧ ∀ n ∈ r, n < 1000
  sl : 0 < M.steps.length ∧ M.steps.length ≤ 4000
theorem MWr.sm {M : Mach} (h : MWr M) : MSm M where
  l := by have := h.len; omega
  b := Nat.lt_trans h.b (by decide)
  e := fun n hn => Nat.lt_trans (h.e n hn) (by decide)
  el := h.el
  s := fun r hr => ⟨by have := (h.s r hr).1; have := h.len; omega, fun n hn => Nat.lt_trans ((h.s r hr).2 n hn) (by decide)⟩
  sl := h.sl.2
theorem mem_joinC {c x : Nat} {ps : List (List Nat)} (h : x ∈ joinC c ps) : x = c ∨ ∃ p ∈ ps, x ∈ p := by
  cases ps with
  | nil => cases h
  | cons p r =>
    rw [join_flat] at h
    rcases List.mem_append.mp h with h | h
    · exact .inr ⟨p, List.mem_cons_self .., h⟩
    · obtain ⟨l, hl, hx⟩ := List.mem_flatten.mp h
      obtain ⟨q, hq, rfl⟩ := List.mem_map.mp hl
      rcases List.mem_cons.mp hx with e | e
      · exact .inl e
      · exact .inr ⟨q, List.mem_cons_of_mem _ hq, e⟩
theorem row_no10 {w ns : List Nat} (hw : 10 ∉ w) : 10 ∉ rowW w ns := fun z => by
  rcases mem_joinC z with e | ⟨p, hp, hx⟩
  · omega
  · rcases List.mem_cons.mp hp with e | e
    · subst e
      exact hw hx
    · obtain ⟨n, _, rfl⟩ := List.mem_map.mp e
      exact numS_free (by omega) hx
theorem mtext_split {M : Mach} (h : IsLetters M.L) : splitC 10 (mtext M) = rowsM M := splitC_join (List.cons_ne_nil _ _) fun p hp => by
  unfold rowsM at hp
  rcases List.mem_cons.mp hp with e | hp
  · subst e
    intro z
    rcases mem_joinC z with e | ⟨p, hp, hx⟩
    · omega
    · simp only [List.mem_cons, List.not_mem_nil, or_false] at hp
      rcases hp with e | e
      · subst e
        revert hx
        decide +kernel
      · subst e
        have := abc_range (h.2 _ hx)
        omega
  rcases List.mem_cons.mp hp with e | hp
  · subst e
    exact row_no10 (by decide +kernel)
  rcases List.mem_cons.mp hp with e | hp
  · subst e
    exact row_no10 (by decide +kernel)
  obtain ⟨r, _, rfl⟩ := List.mem_map.mp hp
  exact row_no10 (by decide +kernel)
theorem joinC_len (c : Nat) (ps : List (List Nat)) : (joinC c ps).length ≤ (ps.map List.length).sum + ps.length := by
  cases ps with
  | nil => exact Nat.zero_le _
  | cons p r =>
    rw [join_flat, List.length_append, flat_len, List.map_map, List.map_cons, List.sum_cons, List.length_cons]
    have e : (r.map (List.length ∘ fun w => c :: w)).sum = (r.map List.length).sum + r.length := by
      induction r with
      | nil => rfl
      | cons x r ih =>
        rw [List.map_cons, List.sum_cons, ih, List.map_cons, List.sum_cons, List.length_cons]
        show x.length + 1 + _ = _
        omega
    omega
def S_read_machine : FS := fun xs mu Q => ∃ M : Mach, xs = [.dat (.str (mtext M))] ∧ mu = [] ∧ MWr M ∧ Q (.dv (.dat M.toD)) []
theorem len_read_machine : ∀ xs mu Q, S_read_machine xs mu Q → xs.length = 1 := fun xs mu Q h => by
  obtain ⟨_, rfl, _⟩ := h
  rfl
theorem no32 : 32 ∉ lit "begin" ∧ 32 ∉ lit "ends" ∧ 32 ∉ lit "room" := by decide +kernel
theorem small_lits : (∀ c ∈ lit "begin", c < 1114112) ∧ (∀ c ∈ lit "ends", c < 1114112) ∧ (∀ c ∈ lit "room", c < 1114112) := by decide +kernel
theorem len_lits : (lit "begin").length ≤ 1000 ∧ (lit "ends").length ≤ 1000 ∧ (lit "room").length ≤ 1000 := by decide +kernel
theorem rowsM_at {M : Mach} {k : Nat} {r : List Nat} (h : M.steps[k]? = some r) : (rowsM M)[3 + k]? = some (rowW (lit "room") r) := by
  unfold rowsM
  rw [show 3 + k = k + 1 + 1 + 1 by omega, List.getElem?_cons_succ, List.getElem?_cons_succ, List.getElem?_cons_succ, List.getElem?_map, h]
  rfl
theorem rowsM_len (M : Mach) : (rowsM M).length = 3 + M.steps.length := by
  unfold rowsM
  rw [List.length_cons, List.length_cons, List.length_cons, List.length_map]
  omega
def t_read_machine (a_MachineText : Addr) : DS :=
  (dSeq (dSet 1 (dMake a_MachineText (S_mt_init a_MachineText) (aCons (dVar 0) aNil)))
  (dSeq (dSet 2 (dMeth a_MachineText "letters" (S_mt_letters a_MachineText) (dVar 1) aNil))
  (dSeq (dSet 3 (dMeth a_MachineText "numbers" (S_mt_numbers a_MachineText) (dVar 1) (aCons (dC (.str (lit "begin"))) (aCons (dC (.int 1)) aNil))))
  (dSeq (dSet 4 (dMeth a_MachineText "numbers" (S_mt_numbers a_MachineText) (dVar 1) (aCons (dC (.str (lit "ends"))) (aCons (dC .non) aNil))))
  (dSeq (dSet 5 (dNew (fLst (aCons (dMeth a_MachineText "numbers" (S_mt_numbers a_MachineText) (dVar 1) (aCons (dC (.str (lit "room"))) (aCons (dCB dLen (aCons (dVar 2) aNil)) aNil))) aNil))))
  (dSeq (dWhile (dTest (dOp dLt (dFld a_MachineText "at" (dVar 1)) (dCB dLen (aCons (dFld a_MachineText "rows" (dVar 1)) aNil))))
  (dDrop (dBM "list" dAppend (dVar 5) (aCons (dMeth a_MachineText "numbers" (S_mt_numbers a_MachineText) (dVar 1) (aCons (dC (.str (lit "room"))) (aCons (dCB dLen (aCons (dVar 2) aNil)) aNil))) aNil))))
  (dRet (dTup (aCons (dVar 2) (aCons (dOp dIx (dVar 3) (dC (.int 0))) (aCons (dVar 4) (aCons (dCB dTupOf (aCons (dVar 5) aNil)) aNil))))))))))))
theorem rd_read_machine {a_MachineText : Addr} : Body (t_read_machine a_MachineText) ["text", "reading", "letters", "begin", "ends", "steps"] S_read_machine := fun xs mu Q h => by
  obtain ⟨M, rfl, rfl, wr, q⟩ := h
  have hlen : (mtext M).length ≤ 1000000 := Nat.le_trans (joinC_len 10 (rowsM M)) wr.sm.len
  have hl := wr.len
  refine ⟨rfl, mtext M, rfl, rfl, hlen, ?_⟩
  rw [mtext_split wr.letters]
  refine ⟨⟨rfl, nd_letters⟩, rfl, rfl, ?_⟩
  refine ⟨rowsM M, 0, M.L, rfl, rfl, rfl, wr.letters, hl.1, by omega, ?_⟩
  refine ⟨⟨rfl, nd_numbers⟩, rfl, rfl, ?_⟩
  refine ⟨rowsM M, 1, lit "begin", [M.b], _, rfl, rfl, rfl, no32.1, len_lits.1, small_lits.1, by show 1 ≤ 10000; omega, fun n hn => by rw [List.mem_singleton] at hn; subst hn; exact wr.b, .inr rfl, ?_⟩
  refine ⟨⟨rfl, nd_numbers⟩, rfl, rfl, ?_⟩
  refine ⟨rowsM M, 2, lit "ends", M.ends, _, rfl, rfl, rfl, no32.2.1, len_lits.2.1, small_lits.2.1, wr.el, wr.e, .inl rfl, ?_⟩
  obtain ⟨r0, rs, hs⟩ := List.exists_cons_of_ne_nil (fun z : M.steps = [] => by have := wr.sl.1; rw [z] at this; exact absurd this (Nat.lt_irrefl _))
  have at0 : M.steps[0]? = some r0 := by rw [hs]; rfl
  have m0 : r0 ∈ M.steps := List.mem_of_getElem? at0
  refine ⟨⟨rfl, nd_numbers⟩, ?_⟩
  refine ⟨by omega, rfl, rfl, ?_⟩
  refine ⟨rowsM M, 3, lit "room", r0, _, rfl, rfl, rowsM_at at0, no32.2.2, len_lits.2.2, small_lits.2.2, by have := (wr.s r0 m0).1; omega, (wr.s r0 m0).2, .inr (by rw [(wr.s r0 m0).1]; rfl), ?_⟩
  refine ⟨by show 1 ≤ 1000; omega, ?_⟩
  refine ⟨fun m rho mu => ∃ k, 1 ≤ k ∧ k ≤ M.steps.length ∧ m = M.steps.length - k ∧ rho = [some (.dat (.str (mtext M))), some (.cel 0), some (.dat (.str M.L)), some (.dat (.tup [natD M.b])), some (.dat (.tup (M.ends.map natD))), some (.cel 1)] ∧
    mu = [mtC a_MachineText (rowsM M) (3 + k), .lst ((M.steps.take k).map rowD)], ⟨_, 1, Nat.le_refl 1, wr.sl.1, rfl, rfl, ?_⟩, fun m rho mu hw => ?_⟩
  · rw [hs]
    rfl
  obtain ⟨k, k1, k2, rfl, rfl, rfl⟩ := hw
  refine ⟨rfl, ?_⟩
  refine on_some fld_at ?_
  refine ⟨rfl, ?_⟩
  refine on_some fld_rows ?_
  show if decide (((3 + k : Nat) : Int) < ((((rowsM M).map D.str).length : Nat) : Int)) = true then _ else _
  rw [List.length_map, rowsM_len]
  refine itD (p := ((3 + k : Nat) : Int) < ((3 + M.steps.length : Nat) : Int)) (fun h => ?_) (fun h => ?_)
  · have hk : k < M.steps.length := by omega
    have atk : M.steps[k]? = some M.steps[k] := List.getElem?_eq_getElem hk
    have mk : M.steps[k] ∈ M.steps := List.getElem_mem hk
    refine ⟨rfl, ?_⟩
    refine ⟨⟨rfl, nd_numbers⟩, ?_⟩
    refine ⟨by omega, rfl, rfl, ?_⟩
    refine ⟨rowsM M, 3 + k, lit "room", M.steps[k], _, rfl, rfl, rowsM_at atk, no32.2.2, len_lits.2.2, small_lits.2.2, by have := (wr.s _ mk).1; omega, (wr.s _ mk).2, .inr (by rw [(wr.s _ mk).1]; rfl), ?_⟩
    refine ⟨by rw [List.length_map, List.length_take]; have := wr.sl.2; omega, ?_⟩
    refine ⟨M.steps.length - (k + 1), by omega, k + 1, by omega, by omega, rfl, rfl, ?_⟩
    rw [List.take_add_one, atk, List.map_append]
    rfl
  · have hk : k = M.steps.length := by omega
    subst hk
    rw [List.take_length]
    refine ⟨by show 4 ≤ 1000; omega, ?_⟩
    exact q

end Dx

namespace Dx
open PySem PySem.Spec PyProof.Rows L2
open Evl (Ex)
variable [Tb]
/-! ### drawn machines, let by or not; their texts -/
/-- [draw(flow) for ..] -/
theorem comp_flow {α : Type} {P : α → Prop} {g : α → D} {k : Nat} {te : DE} {rho : Rho} {Q : List D → Mu → Prop} {ds : List D} {m : MC} (fo : FlowOk m) (hs : ds.length ≤ 1000000)
    (step : ∀ (d : D) (m : MC) (G : DQ), FlowOk m → (∀ x m', FlowOk m' → P x → G (.dat (g x)) [m']) → te (setD rho k (.dat d)) [m] G)
    (q : ∀ (xs : List α) m', FlowOk m' → xs.length = ds.length → (∀ x ∈ xs, P x) → Q (xs.map g) [m']) : dCompL (dgN k) dYes te rho Q ds [] [m] := by
  refine comp_inv (fun j acc mu' => ∃ xs m', mu' = [m'] ∧ FlowOk m' ∧ acc = xs.map g ∧ xs.length = j ∧ ∀ x ∈ xs, P x) ⟨[], m, rfl, fo, rfl, rfl, fun x hx => nomatch hx⟩ (fun j d acc mu' K hd hp ke => ?_) (fun acc mu' hp => ?_)
  · obtain ⟨xs, m', rfl, fo', rfl, hl, hx⟩ := hp
    have hj := (List.getElem?_eq_some_iff.mp hd).1
    unfold dgN dYes
    simp only [if_true]
    refine step d m' _ fo' fun x m2 f2 hp => ?_
    refine ⟨by rw [List.length_map]; omega, ke _ _ ⟨xs ++ [x], m2, rfl, f2, by rw [List.map_append]; rfl, by rw [List.length_append, hl]; rfl, fun y hy => ?_⟩⟩
    rcases List.mem_append.mp hy with z | z
    · exact hx y z
    · rw [List.mem_singleton] at z
      exact z ▸ hp
  · obtain ⟨xs, m', rfl, fo', rfl, hl, hx⟩ := hp
    exact q xs m' fo' hl hx
def S_w_number : FS := fun xs mu Q => ∃ m, mu = [m] ∧ FlowOk m ∧ xs = [.cel 0] ∧ ∀ (n : Nat) m', FlowOk m' → n < 1000 → Q (.dv (.dat (natD n))) [m']
theorem len_w_number : ∀ xs mu Q, S_w_number xs mu Q → xs.length = 1 := fun xs mu Q h => by
  obtain ⟨_, _, _, rfl, _⟩ := h
  rfl
def t_w_number : DS :=
  (dSeq (dSet 1 (dOp dIx (dFrz (fLst (aCons (dC (.int 7)) (aCons (dC (.int 7)) (aCons (dC (.int 100)) (aCons (dC (.int 1000)) aNil)))))) (dCallR S_w_pick (aCons (dVar 0) (aCons (dC (.int 4)) aNil)))))
  (dRet (dCallR S_w_pick (aCons (dVar 0) (aCons (dVar 1) aNil)))))
theorem rd_w_number : Body t_w_number ["_law_flow_here", "_law_wide"] S_w_number := fun xs mu Q h => by
  obtain ⟨m, rfl, fo, rfl, q⟩ := h
  refine ⟨by show 4 ≤ 1000; omega, ?_⟩
  refine ⟨fo.live, rfl, m, 4, rfl, fo, rfl, by omega, by omega, fun r m1 f1 r0 r1 => ?_⟩
  obtain ⟨d, a1, a2⟩ := some_atI (xs := [D.int 7, D.int 7, D.int 100, D.int 1000]) (i := r) r0 (by show r < ((4 : Nat) : Int); omega)
  refine on_some a1 ?_
  have hn : ∃ n : Int, d = .int n ∧ 0 < n ∧ n ≤ 1000 := by
    have := List.mem_of_getElem? a2
    simp only [List.mem_cons, List.not_mem_nil, or_false] at this
    rcases this with rfl | rfl | rfl | rfl
    · exact ⟨7, rfl, by omega, by omega⟩
    · exact ⟨7, rfl, by omega, by omega⟩
    · exact ⟨100, rfl, by omega, by omega⟩
    · exact ⟨1000, rfl, by omega, by omega⟩
  obtain ⟨n, rfl, n0, n1⟩ := hn
  refine ⟨f1.live, rfl, m1, n, rfl, f1, rfl, n0, by omega, fun x m2 f2 x0 x1 => ?_⟩
  obtain ⟨k, rfl⟩ := Int.eq_ofNat_of_zero_le x0
  exact q k m2 f2 (by omega)
def S_w_machine_text : FS := fun xs mu Q => ∃ M : Mach, xs = [.dat M.toD] ∧ mu = [] ∧ MSm M ∧ Q (.dv (.dat (.str (mtext M)))) []
theorem len_w_machine_text : ∀ xs mu Q, S_w_machine_text xs mu Q → xs.length = 1 := len_show_machine
def t_w_machine_text : DS :=
  (dSeq (dAsg (dVar 0) (dgTup 4 (dgCons (dgN 1) (dgCons (dgN 2) (dgCons (dgN 3) (dgCons (dgN 4) dgNil))))))
  (dSeq (dSet 5 (dFrz (fLst (aCons (dOp dAdd (dC (.str (lit "letters "))) (dVar 1)) (aCons (dOp dAdd (dC (.str (lit "begin "))) (dCB dStrI (aCons (dVar 2) aNil))) (aCons (dBM "str" dJoin (dC (.str (lit " "))) (aCons (dFrz (fOp fCat (dFrz (fLst (aCons (dC (.str (lit "ends"))) aNil))) (dFrz (fLc (iDatT (dVar 3)) (dgN 6) dYes (dCB dStrI (aCons (dVar 6) aNil)) [6])))) aNil)) aNil))))))
  (dRet (dBM "str" dJoin (dC (.str (lit "\n"))) (aCons (dFrz (fOp fCat (dVar 5) (dFrz (fLc (iDatT (dVar 4)) (dgN 7) dYes (dBM "str" dJoin (dC (.str (lit " "))) (aCons (dFrz (fOp fCat (dFrz (fLst (aCons (dC (.str (lit "room"))) aNil))) (dFrz (fLc (iDatT (dVar 7)) (dgN 8) dYes (dCB dStrI (aCons (dVar 8) aNil)) [8])))) aNil)) [7])))) aNil)))))
theorem rd_w_machine_text : Body t_w_machine_text ["_law_machine", "_law_letters_here", "_law_begin", "_law_ends", "_law_steps", "_law_rows", "_law_room", "_law_row", "_law_to"] S_w_machine_text := fun xs mu Q h => by
  obtain ⟨M, rfl, rfl, sm, q⟩ := h
  refine ⟨rfl, ?_⟩
  refine ⟨by rw [show (lit "letters ").length = 8 by decide +kernel]; have := sm.l; omega, ?_⟩
  refine ⟨⟨by show (0 : Int) ≤ (M.b : Int); omega, by show (M.b : Int) < 1000000; have := sm.b; omega⟩, ?_⟩
  refine ⟨by show (lit "begin ").length + (numS M.b).length ≤ 1000000; rw [show (lit "begin ").length = 6 by decide +kernel]; have := num_len6 sm.b; omega, ?_⟩
  refine ⟨rfl, ?_⟩
  refine ⟨by show 1 ≤ 1000; omega, ?_⟩
  refine comp_nums sm.el (fun n hn G g => strI_run (sm.e n hn) g) ?_
  refine ⟨by rw [List.length_map, List.length_map]; have := sm.el; show 1 + _ ≤ _; omega, ?_⟩
  refine join_row (by decide +kernel) sm.el sm.e ?_
  refine ⟨by show 3 ≤ 1000; omega, ?_⟩
  refine ⟨rfl, ?_⟩
  refine comp_list (xs := M.steps) (gd := rowD) (v := fun r => D.str (rowW (lit "room") r)) (by have := sm.sl; omega) (fun r hr G g => ?_) ?_
  · have r30 := (sm.s r hr).1
    refine ⟨rfl, ?_⟩
    refine ⟨by show 1 ≤ 1000; omega, ?_⟩
    refine comp_nums (by omega) (fun n hn G g => strI_run ((sm.s r hr).2 n hn) g) ?_
    refine ⟨by rw [List.length_map, List.length_map]; show 1 + _ ≤ _; omega, ?_⟩
    exact join_row (by decide +kernel) (by omega) (sm.s r hr).2 g
  refine ⟨by rw [List.length_map]; show 3 + _ ≤ _; have := sm.sl; omega, ?_⟩
  have e : ([D.str (lit "letters " ++ M.L), .str (lit "begin " ++ numS M.b), .str (rowW (lit "ends") M.ends)] ++ M.steps.map fun r => D.str (rowW (lit "room") r)) = (rowsM M).map D.str := by
    rw [letters_row, begin_row]
    unfold rowsM
    rw [List.map_cons, List.map_cons, List.map_cons, List.map_map]
    rfl
  show dJoin (.dat (.str (lit "\n"))) [.dat (.lst ([D.str (lit "letters " ++ M.L), .str (lit "begin " ++ numS M.b), .str (rowW (lit "ends") M.ends)] ++ M.steps.map fun r => D.str (rowW (lit "room") r)))] _ _
  rw [e]
  exact join_rows sm q
theorem mtext_plain {M : Mach} (h : IsLetters M.L) : plainD 5 (.str (mtext M)) = true := by
  rw [plainD]
  refine List.all_eq_true.mpr fun c hc => decide_eq_true ?_
  have row : ∀ (w ns : List Nat), (∀ c ∈ w, c < 1114112) → ∀ c ∈ rowW w ns, c < 1114112 := fun w ns hw c hc => by
    rcases mem_joinC hc with e | ⟨p, hp, hx⟩
    · omega
    · rcases List.mem_cons.mp hp with e | e
      · subst e
        exact hw c hx
      · obtain ⟨n, _, rfl⟩ := List.mem_map.mp e
        exact num_lt hx
  rcases mem_joinC hc with e | ⟨p, hp, hx⟩
  · omega
  unfold rowsM at hp
  rcases List.mem_cons.mp hp with e | hp
  · subst e
    rcases mem_joinC hx with e | ⟨p, hp, hx⟩
    · omega
    · simp only [List.mem_cons, List.not_mem_nil, or_false] at hp
      rcases hp with e | e
      · subst e
        exact (show ∀ c ∈ lit "letters", c < 1114112 by decide +kernel) c hx
      · subst e
        exact letters_lt h c hx
  rcases List.mem_cons.mp hp with e | hp
  · subst e
    exact row _ _ small_lits.1 c hx
  rcases List.mem_cons.mp hp with e | hp
  · subst e
    exact row _ _ small_lits.2.1 c hx
  obtain ⟨r, _, rfl⟩ := List.mem_map.mp hp
  exact row _ _ small_lits.2.2 c hx

end Dx

namespace Dx
open PySem PySem.Spec PyProof.Rows L2
open Evl (Ex)
variable [Tb]
section
variable {X : Cx} {e : Expr} {te : DE} {p p2 pos pos2 : Pos}
end
end Dx

namespace Dx
open PySem PySem.Spec PyProof.Rows L2
open Evl (Ex)
variable [Tb]
/-! ### machines looked at: those that are let by -/
def isLet (t : List Nat) : Bool := decide (1 ≤ t.length) && (decide (t.length ≤ 3) && (isWord t && decide (t.Pairwise (· < ·))))
end Dx

namespace Dx
open PySem PySem.Spec PyProof.Rows L2 RT
open Evl (Ex)
/-! ### ''.join(reversed(text)); x or y -/
section
variable {prog : Program} {w : World} {A : Around} {E : Value → Shared → Prop} {s : Shared} {x : Str} {t : Tok}
open Builtin Builtin.Str in
open Builtin Builtin.Str in
open Builtin Builtin.Str in
end
variable [Tb]
section
variable {X : Cx}
end
section
variable {X : Cx} {o e b : Expr} {to te tb : DE} {apos pos p2 pos2 : Pos} {rest : List Expr}
end
end Dx

namespace Dx
open PySem PySem.Spec PyProof.Rows L2
open Evl (Ex)
variable [Tb]
end Dx

namespace Dx
open PySem PySem.Spec PyProof.Rows L2 RT
open Evl (Ex)
/-! ### list(reversed(tuple)) -/
section
variable {prog : Program} {w : World} {A : Around} {E : Value → Shared → Prop} {s : Shared} {t : Addr} {items : Array Value}
end
variable [Tb]
section
variable {X : Cx}
end
/-! ### a dict of the module: texts to whole numbers -/
def entI (e : DictEntry) : Option (Str × Int) := match e.key, e.val with
  | .str x _, .int i _ => some (x, i)
  | _, _ => none
def tabI (tab : List (List Nat × Int)) (z : List Nat) : Option Int := (tab.find? (fun p => p.1 == z)).map (·.2)
structure KTab (K : PySem.W.Frag) (w : World) (d : Addr) (tab : List (List Nat × Int)) : Prop where
  ex : ∃ es n, K.lookup d = some ⟨.type "dict", none, .dict es n, #[]⟩ ∧ PySem.W.KeysLit w.params es.toList ∧ es.toList.map entI = tab.map fun p => some (mkS p.1, p.2)
  low : (d == sysModules) = false
theorem mkS_beq (x z : List Nat) : (mkS x == mkS z) = (x == z) := by
  by_cases h : x = z
  · subst h
    rw [beq_self_eq_true, beq_self_eq_true]
  · have h2 : mkS x ≠ mkS z := fun e => h (by have := congrArg (fun s : Str => s.cps.toList) e; simpa [mkS] using this)
    rw [beq_eq_false_iff_ne.mpr h, beq_eq_false_iff_ne.mpr h2]
theorem tab_find : ∀ (l : List DictEntry) (tab : List (List Nat × Int)), l.map entI = tab.map (fun p => some (mkS p.1, p.2)) → ∀ z : List Nat,
    ∃ r : Option Value, (match l.find? (·.key.isStr (mkS z)) with
      | some e => some (some e.val)
      | none => if l.any (·.refKey) then none else some none) = some r ∧ ((tabI tab z = none ∧ r = none) ∨ ∃ i t, tabI tab z = some i ∧ r = some (.int i t))
  | [], [], _, z => ⟨none, rfl, .inl ⟨rfl, rfl⟩⟩
  | [], _ :: _, h, _ => by cases h
  | _ :: _, [], h, _ => by cases h
  | e :: l, p :: tab, h, z => by
    have h1 : entI e = some (mkS p.1, p.2) := (List.cons.inj h).1
    obtain ⟨r, e1, e2⟩ := tab_find l tab (List.cons.inj h).2 z
    have hk : ∃ tk tv, e.key = .str (mkS p.1) tk ∧ e.val = .int p.2 tv := by
      unfold entI at h1
      split at h1
      · rename_i x t i t' q1 q2
        have h4 := Option.some.inj h1
        obtain ⟨h5, h6⟩ := Prod.mk.inj h4
        exact ⟨t, t', by rw [q1, h5], by rw [q2, h6]⟩
      · cases h1
    obtain ⟨tk, tv, k1, k2⟩ := hk
    have hs : e.key.isStr (mkS z) = (p.1 == z) := by rw [k1]; exact mkS_beq _ _
    have hr : e.refKey = false := by unfold DictEntry.refKey; rw [k1]
    have ht : tabI (p :: tab) z = if p.1 == z then some p.2 else tabI tab z := by
      unfold tabI
      rw [List.find?_cons]
      cases p.1 == z <;> rfl
    rw [List.find?_cons, hs, ht, List.any_cons, hr, Bool.false_or]
    cases hp : p.1 == z with
    | true => exact ⟨some e.val, rfl, .inr ⟨p.2, tv, rfl, by rw [k2]⟩⟩
    | false => exact ⟨r, e1, e2⟩
theorem KTab.ns {K : PySem.W.Frag} {w : World} {d : Addr} {tab : List (List Nat × Int)} (T : KTab K w d tab) (z : List Nat) : ∃ r : Option Value, PySem.W.nsIn K d (mkS z) = some r ∧ ((tabI tab z = none ∧ r = none) ∨ ∃ i t, tabI tab z = some i ∧ r = some (.int i t)) := by
  obtain ⟨es, n, hl, _, hm⟩ := T.ex
  obtain ⟨r, e1, e2⟩ := tab_find es.toList tab hm z
  refine ⟨r, ?_, e2⟩
  unfold PySem.W.nsIn
  rw [hl]
  exact e1
section
variable {X : Cx} {a : Addr} {tab : List (List Nat × Int)}
end
section
variable {X : Cx} {e : Expr} {te : DE} {pos p p2 p3 : Pos} {d : Int} {j : Nat}
end
end Dx

namespace Dx
open PySem PySem.Spec PyProof.Rows L2
open Evl (Ex)
variable [Tb]
def wtok (w : List Nat) : List Nat := if eqD (.str w) (.str (lit "")) = true then lit "." else w
def Wish.toks : Wish → List (List Nat)
  | .always => [lit "always"]
  | .never => [lit "never"]
  | .has w => [lit "has", wtok w]
  | .neg a => lit "not" :: a.toks
  | .con a b => lit "and" :: (a.toks ++ b.toks)
  | .dis a b => lit "or" :: (a.toks ++ b.toks)
theorem ok_e (n : Nat) : okD n (.str (lit "")) = true := okD_str n (by decide +kernel)
theorem eq_e (w : List Nat) : eqD (.str w) (.str (lit "")) = decide (w = []) := by
  rw [eqD_str]
  rfl
end Dx

namespace Dx
open PySem PySem.Spec PyProof.Rows L2
open Evl (Ex)
variable [Tb]
theorem stw_at {ts : List (List Nat)} {i : Nat} {t : List Nat} (h : ts[i]? = some t) : L2.atI (ts.map D.str) ((i : Nat) : Int) = some (.str t) := L2.atI_nat (by rw [List.getElem?_map, h]; rfl)
end Dx

namespace Dx
open PySem PySem.Spec PyProof.Rows L2
open Evl (Ex)
variable [Tb]
end Dx

namespace Dx
open PySem PySem.Spec PyProof.Rows L2
open Evl (Ex)
variable [Tb]
end Dx

namespace Dx
open PySem PySem.Spec PyProof.Rows L2
open Evl (Ex)
variable [Tb]
end Dx

namespace Dx
open PySem PySem.Spec PyProof.Rows L2
open Evl (Ex)
/-! ### exceptions as values: frozen objects of own classes -/
theorem kitx_excX {K : PySem.W.Frag} {x D : Addr} {ox : Obj} {od : Option Obj} (T : ExcC K D) : PySem.W.KitX K (.ref x) (.ref D) (fun h => PySem.W.InstAt h x ox D od) where
  ty := fun _ _ _ I => I.type
  it := fun _ _ X _ => by
    obtain ⟨cdD, hcD, _⟩ := PySem.W.any_some T.hd
    unfold PySem.W.clsIn at hcD
    split at hcD
    · rename_i c' d' cd' sl' ho
      intro A' Q' E' s' k q
      unfold isType loadHead
      exact wpAny_bind (wpAny_loadPart (k _ _ (X _ _ ho)) (wpAny_pure q))
    · cases hcD
  ne := fun h tp dd its n sl X htp => by
    obtain ⟨cdD, hcD, _⟩ := PySem.W.any_some T.hd
    refine Bool.eq_false_iff.mpr fun q => ?_
    have e : D = tp := Value.ref.inj (beq_iff_eq.mp q)
    subst e
    unfold PySem.W.clsIn at hcD
    split at hcD
    · rename_i c' d' cd' sl' ho
      have z := (X _ _ ho).symm.trans htp
      cases z
    · cases hcD
  ca := fun X I k => PySem.W.kx_classE X I T.hg T.hk T.hs (PySem.W.findObj_dataE (by obtain ⟨cd, hc, _⟩ := PySem.W.any_some T.hd; rw [hc]; rfl) T.ha T.hn T.ht) T.hm k
theorem exK_ok {P : Program} {w : World} {H : Hp} {h : Heap} {a : Addr} {cls : Value} {d : Option Addr} {oe : Obj} {vs : Array Value} (e : h.get? a = some oe) (z : Zc cls d oe) (hd : oe.data = .fields vs) : ObjOk P w H h a (ExK cls d a) :=
  ⟨⟨oe, vs, e, z, hd⟩, ⟨oe, e⟩, fun _ _ ⟨o, v, q, r⟩ k => ⟨o, v, k o q, r⟩⟩
theorem exK_at {P : Program} {w : World} {H : Hp} {h : Heap} {a : Addr} {cls : Value} {d : Option Addr} (hok : HOk P w H h) (e : H a = some (ExK cls d a)) : ∃ (oe : Obj) (vs : Array Value), h.get? a = some oe ∧ Zc cls d oe ∧ oe.data = .fields vs := by
  have x : ObjOk P w H h a (.ext fun h => ∃ (oe : Obj) (vs : Array Value), h.get? a = some oe ∧ Zc cls d oe ∧ oe.data = .fields vs) := hok a _ e
  exact x.1
/-- the dict stands, where there is one -/
def DicAt (H : Hp) (d : Option Addr) : Prop := ∀ dd, d = some dd → ∃ fs, H dd = some (.xd fs)
theorem exK_inst {X : Cx} {pins : List (Addr × Obj)} {σ : L2.St} {H : Hp} {s : Shared} {a D : Addr} {d : Option Addr} (I : Inv X pins σ H s) (e : H a = some (ExK (.ref D) d a)) (hd : DicAt H d) : ∃ ox od, PySem.W.InstAt s.heap a ox D od := by
  obtain ⟨oe, vs, ho, hz, hv⟩ := exK_at I.hok e
  have nc : PySem.W.notCls oe = true := by unfold PySem.W.notCls; rw [hv] <;> rfl
  cases d with
  | none => exact ⟨oe, none, ho, hz.1, nc, by rw [hz.2] <;> trivial⟩
  | some dd =>
    obtain ⟨fs, hx⟩ := hd dd rfl
    have hx : ObjOk X.prog X.w H s.heap dd (.xd fs) := I.hok dd _ hx
    obtain ⟨mA, hns, hr⟩ := hx
    obtain ⟨od, hod, hl⟩ := lookIn_ns hns
    exact ⟨oe, some od, ho, hz.1, nc, by rw [hz.2]; exact hod⟩
def rIsX (K : PySem.W.Frag) : List V → Hp → VK → Prop := fun xs H Q => ∃ (a D : Addr) (d : Option Addr) (c : V) (cv : Value) (b : Bool), xs = [.ref a, c] ∧ H a = some (ExK (.ref D) d a) ∧ DicAt H d ∧ ExcC K D ∧ (∀ u, RelV c u → u = cv) ∧ PySem.W.kitOne K (.ref D) cv = some b ∧ Q (.bl b) H
theorem call_isX {X : Cx} : CallR X (.builtin "isinstance") (rIsX X.K) := by
  intro pins s σ H xs us Q I r h
  obtain ⟨a, D, d, c, cv, b, rfl, ea, hda, T, hcv, e, q⟩ := h
  cases r with
  | cons rx rr =>
    cases rr with
    | cons rt rr =>
      cases rr
      cases rx
      have ec := hcv _ rt
      subst ec
      obtain ⟨ox, od, J⟩ := exK_inst I ea hda
      exact PySem.W.kia_one (kitx_excX T) I.kIn J e (fun z => nomatch z) fun tk => ⟨.bl b, H, I.kept (t' := tk) fun _ _ z => z, rfl, q⟩
/-! X(e, ..), X with an own __init__ that keeps its arguments -/
def spI (C : Addr) (fs : List Str) : Sp := fun vs H Q _ => ∃ (a : Addr) (ws : List V), vs = .ref a :: ws ∧ ws.length = fs.length ∧ H a = some (exo a C none) ∧
  ∀ (dx : Addr) (H' : Hp), H dx = none → dx ≠ a → H' a = some (exo a C (some dx)) → H' dx = some (exd dx (fs.zip ws).reverse) → (∀ b, b ≠ a → b ≠ dx → H' b = H b) → Q .non H'
theorem len_spI1 {C : Addr} {f : Str} : ∀ vs H Q E, spI C [f] vs H Q E → vs.length = 2 := fun vs H Q E h => by
  obtain ⟨a, ws, rfl, hl, _⟩ := h
  rw [List.length_cons, hl]
  rfl
theorem init1_q {K : PySem.W.Frag} {C : Addr} {f p0 p1 : Str} {vs : List V} {H : Hp} {Q : VK} {E : XK} (T : OexC K C) (no : PySem.W.findIn K (.ref C) f = some none) (h : spI C [f] vs H Q E) :
    tOst K f (tVar 0) (tVar 1) { nx := fun _ H' => Q .non H', rt := Q } (start [p0, p1] vs) H := by
  obtain ⟨a, ws, rfl, hl, ha, q⟩ := h
  match ws, hl with
  | [v], _ =>
    refine ⟨v, rfl, .ref a, rfl, a, C, rfl, T, no, .inl ⟨ha, fun dx n ne => ?_⟩⟩
    refine q dx _ n ne upd_same ?_ fun b h1 h2 => by rw [upd_ne h1, upd_ne h2]
    rw [upd_ne ne, upd_same]
    rfl
/-! x.f -/
def tXfT (C : Addr) (f : Str) (te : TE) : TE := fun σ H Q => te σ H fun x H1 => ∃ (a dd : Addr) (fs : List (Str × V)) (v : V), x = .ref a ∧ H1 a = some (ExK (.ref C) (some dd) a) ∧ H1 dd = some (.xd fs) ∧ fs.lookup f = some v ∧ Q v H1
theorem pe_xfT {X : Cx} {C : Addr} {e : Expr} {te : TE} {pos : Pos} {n : Str} (T : XfC X.K C) (hno : PySem.W.findIn X.K (.ref C) n = some none) (he : PE X e te) (hb : attributeBase e n X.env (eval e X.env) = eval e X.env := by rfl) :
    PE X (.Attribute e n pos) (tXfT C n te) := by
  refine ⟨fun pins s σ H Q I h => ?_⟩
  refine attr_of hb (thn (he.run pins s σ H _ I h) fun u s1 hh => ?_)
  obtain ⟨x, H1, I1, rx, a, dd, fs, v, ex, ea, ed, l, q⟩ := hh
  subst ex
  obtain rfl : u = Value.ref a := rx
  obtain ⟨oe, vs, ho, hz, hv⟩ := exK_at I1.hok ea
  have hx : ObjOk X.prog X.w H1 s1.heap dd (.xd fs) := I1.hok dd _ ed
  obtain ⟨mA, hns, hr⟩ := hx
  obtain ⟨od, hod, hl⟩ := lookIn_ns hns
  obtain ⟨u, hu, ru⟩ := RelO.some_of (v := v) (o := mA n) (by rw [← l]; exact hr n)
  have J : PySem.W.InstAt s1.heap a oe C (some od) := ⟨ho, hz.1, by unfold PySem.W.notCls; rw [hv] <;> rfl, by rw [hz.2]; exact hod⟩
  exact HandSPX.exc_get I1.kIn J T.ga T.gg T.exC (PySem.W.findObj_own T.hdC hno rfl (by rw [hl, hu])) (handed_of ru) ⟨v, H1, I1.tok _, ru, q⟩
end Dx

namespace Dx
open PySem PySem.Spec PyProof.Rows L2
open Evl (Ex)
variable [Tb]
/-! ### exceptions as values: the judgements -/
/-- the classes that are told apart, the one above them all last -/
def famIs (n i j : Nat) : Bool := i == j || j + 1 == n
def AllI (P : Nat → Addr → Prop) : Nat → List Addr → Prop
  | _, [] => True
  | k, a :: r => P k a ∧ AllI P (k + 1) r
theorem AllI.at {P : Nat → Addr → Prop} : ∀ {l : List Addr} {k i : Nat} {C : Addr}, AllI P k l → l[i]? = some C → P (k + i) C
  | [], _, i, _, _, h => by simp at h
  | a :: r, k, 0, C, ⟨h1, _⟩, h => by
    have e : a = C := Option.some.inj h
    subst e
    exact h1
  | a :: r, k, i + 1, C, ⟨_, h2⟩, h => by
    have := AllI.at (l := r) (k := k + 1) (i := i) h2 h
    rw [show k + (i + 1) = k + 1 + i by omega]
    exact this
structure XFam (K : PySem.W.Frag) (fam : List Addr) : Prop where
  ok : AllI (fun i C => ExcC K C ∧ PySem.W.kitOne K (.ref C) (.type "ValueError") = some true ∧ AllI (fun j D => PySem.W.kitOne K (.ref C) (.ref D) = some (famIs fam.length i j)) 0 fam) 0 fam
theorem XFam.cl {K : PySem.W.Frag} {fam : List Addr} (T : XFam K fam) {i : Nat} {C : Addr} (h : fam[i]? = some C) : ExcC K C := (T.ok.at h).1
theorem XFam.ve {K : PySem.W.Frag} {fam : List Addr} (T : XFam K fam) {i : Nat} {C : Addr} (h : fam[i]? = some C) : PySem.W.kitOne K (.ref C) (.type "ValueError") = some true := (T.ok.at h).2.1
theorem XFam.is {K : PySem.W.Frag} {fam : List Addr} (T : XFam K fam) {i j : Nat} {C D : Addr} (h : fam[i]? = some C) (g : fam[j]? = some D) : PySem.W.kitOne K (.ref C) (.ref D) = some (famIs fam.length i j) := by
  have := (T.ok.at h).2.2.at g
  rw [Nat.zero_add, Nat.zero_add] at this
  exact this
def onOb (x : DV) (k : Addr → List Str → List D → Prop) : Prop := match x with
  | .dat (.ob true C ns ds) => k C ns ds
  | _ => False
theorem onOb_out {F : Hp} {al : List Addr} {x : DV} {v : V} {k : Addr → List Str → List D → Prop} (h : onOb x k) (r : RepV F al x v) : ∃ (a C : Addr) (ns : List Str) (ds : List D) (vs : List V), v = .ref a ∧ ObAt true F a C ns vs ∧ ns.length = ds.length ∧ RepL F ds vs ∧ k C ns ds := by
  cases x with
  | cel _ => exact h.elim
  | dat d =>
    cases d with
    | ob b C ns ds =>
      cases b with
      | false => exact h.elim
      | true =>
        have r' : Rep F (.ob true C ns ds) v := r
        rw [Rep] at r'
        obtain ⟨a, vs, e1, e2, e3, e4⟩ := r'
        exact ⟨a, C, ns, ds, vs, e1, e2, e3, e4, h⟩
    | _ => exact h.elim
theorem ob_H {F H : Hp} {a C : Addr} {ns : List Str} {vs : List V} (e : Ex F H) (h : ObAt true F a C ns vs) : ∃ d, H a = some (ExK (.ref C) d a) ∧ DicAt H d ∧ ((ns = [] ∧ d = none) ∨ ∃ dd, d = some dd ∧ H dd = some (.xd (ns.zip vs))) := by
  rcases h with ⟨h1, h2⟩ | ⟨d, h1, h2⟩
  · exact ⟨none, e _ _ h2, (by intro dd z; cases z), .inl ⟨h1, rfl⟩⟩
  · exact ⟨some d, e _ _ h1, (by intro dd z; cases z; exact ⟨_, e _ _ h2⟩), .inr ⟨d, rfl, e _ _ h2⟩⟩
section
variable {X : Cx} {e : Expr} {es : List Expr} {te : DE} {tr : DA} {x n f : Str} {p p2 pos : Pos} {C D : Addr} {fam : List Addr} {fs ps : List Str}
/-- isinstance(e, C), C the j-th -/
def dIsX (fam : List Addr) (j : Nat) (te : DE) : DE := fun rho mu Q => te rho mu fun x mu1 => onOb x fun C _ _ => ∃ i : Nat, fam[i]? = some C ∧ Q (.dat (.bl (famIs fam.length i j))) mu1
theorem ce_isX (T : XFam X.K fam) (j : Nat) (hj : fam[j]? = some D) (gD : X.mg n = some (.ref D)) (hm : X.mg "isinstance" = none) (he : CE X e te) (hgI : Gl X "isinstance" := by rfl) (hgn : Gl X n := by rfl)
    (hdb : (n == ("__debug__" : Str)) = false := by decide) (hvi : bootBuiltins "isinstance" = some (.builtin "isinstance") := by decide +kernel)
    (s1 : starEach [e, .Name n p2] X.env = (false, eval e X.env) :: starEach [.Name n p2] X.env := by rfl) (s2 : starEach [.Name n p2] X.env = (false, eval (.Name n p2) X.env) :: starEach [] X.env := by rfl) (s3 : (backTo pos (starEach [.Name n p2] X.env)).any (·.1) = false := by rfl) :
    CE X (.Call (.Name "isinstance" p) [e, .Name n p2] [] pos) (dIsX fam j te) := by
  obtain ⟨t, pe, ge⟩ := he.ok
  refine ⟨_, pe_callB (pos := pos) (p := p) call_isX hgI hm hvi (pa_cons pe (pa_cons (pe_glob (v := .ref D) hgn gD rfl hdb) pa_nil s2) s1) (by decide) (by decide) s1 s3, fun F al rho mu σ H Q R S q l => ge F al rho mu σ H _ _ S q fun F1 al1 x mu1 v H1 E1 C1 r1 q1 => ?_⟩
  obtain ⟨a, C, ns, ds, vs, ev, ob, hl, rl, i, hi, q2⟩ := onOb_out q1 r1
  obtain ⟨d, h1, h2, _⟩ := ob_H C1.ex ob
  exact ⟨a, C, d, .ref D, .ref D, _, by rw [ev], h1, h2, T.cl hi, fun u r => r, T.is hi hj, l F1 al1 _ mu1 _ H1 E1 C1 rv_bl q2⟩
/-- isinstance(e, ValueError) -/
def dIsVE (fam : List Addr) (te : DE) : DE := fun rho mu Q => te rho mu fun x mu1 => onOb x fun C _ _ => ∃ i : Nat, fam[i]? = some C ∧ Q (.dat (.bl true)) mu1
theorem ce_isVE (T : XFam X.K fam) (hm : X.mg "isinstance" = none) (hmV : X.mg "ValueError" = none) (he : CE X e te) (hgI : Gl X "isinstance" := by rfl) (hgn : Gl X "ValueError" := by rfl)
    (hvi : bootBuiltins "isinstance" = some (.builtin "isinstance") := by decide +kernel) (hvV : bootBuiltins "ValueError" = some (.type "ValueError") := by decide +kernel)
    (s1 : starEach [e, .Name "ValueError" p2] X.env = (false, eval e X.env) :: starEach [.Name "ValueError" p2] X.env := by rfl) (s2 : starEach [.Name "ValueError" p2] X.env = (false, eval (.Name "ValueError" p2) X.env) :: starEach [] X.env := by rfl) (s3 : (backTo pos (starEach [.Name "ValueError" p2] X.env)).any (·.1) = false := by rfl) :
    CE X (.Call (.Name "isinstance" p) [e, .Name "ValueError" p2] [] pos) (dIsVE fam te) := by
  obtain ⟨t, pe, ge⟩ := he.ok
  refine ⟨_, pe_callB (pos := pos) (p := p) call_isX hgI hm hvi (pa_cons pe (pa_cons (pe_bltn (v := .ty "ValueError") hgn hmV hvV rfl) pa_nil s2) s1) (by decide) (by decide) s1 s3, fun F al rho mu σ H Q R S q l => ge F al rho mu σ H _ _ S q fun F1 al1 x mu1 v H1 E1 C1 r1 q1 => ?_⟩
  obtain ⟨a, C, ns, ds, vs, ev, ob, hl, rl, i, hi, q2⟩ := onOb_out q1 r1
  obtain ⟨d, h1, h2, _⟩ := ob_H C1.ex ob
  exact ⟨a, C, d, .ty "ValueError", .type "ValueError", _, by rw [ev], h1, h2, T.cl hi, fun u r => r, T.ve hi, l F1 al1 _ mu1 _ H1 E1 C1 rv_bl q2⟩
/-- X(e, ..), an own __init__ that keeps what it is given -/
structure XMkI (P : Program) (w : World) (K : PySem.W.Frag) (mg : Str → Option Value) (base : Heap) (x : Str) (C : Addr) (ps fs : List Str) : Prop where
  gC : mg x = some (.ref C)
  T : OexC K C
  ok : ∃ fI fd, PySem.W.findIn K (.ref C) "__init__" = some (some (.ref fI)) ∧ PySem.W.typeIn K (.ref fI) = some (.type "function") ∧ FnOk P w K mg base CX0 1 fI fd ps (spI C fs) ∧ Binds K fd ps []
/-- e.f -/
structure XFld (K : PySem.W.Frag) (C : Addr) (f : Str) : Prop where
  cl : XfC K C
  no : PySem.W.findIn K (.ref C) f = some none
def dXFld (C : Addr) (f : Str) (te : DE) : DE := fun rho mu Q => te rho mu fun x mu1 => onOb x fun C' ns ds => C' = C ∧ onSome (fldAt f ns ds) fun d => Q (.dat d) mu1
theorem ce_xfld (T : XFld X.K C f) (he : CE X e te) (hb : attributeBase e f X.env (eval e X.env) = eval e X.env := by rfl) : CE X (.Attribute e f pos) (dXFld C f te) := by
  obtain ⟨t, pe, ge⟩ := he.ok
  refine ⟨_, pe_xfT T.cl T.no pe hb, fun F al rho mu σ H Q R S q l => ge F al rho mu σ H _ _ S q fun F1 al1 x mu1 v H1 E1 C1 r1 q1 => ?_⟩
  obtain ⟨a, C', ns, ds, vs, ev, ob, hl, rl, ec, q2⟩ := onOb_out q1 r1
  subst ec
  obtain ⟨d0, hd0, q3⟩ := onSome_out q2
  obtain ⟨w, hw, rd⟩ := fld_zip rl hd0
  obtain ⟨d, h1, h2, h3⟩ := ob_H C1.ex ob
  rcases h3 with ⟨h4, _⟩ | ⟨dd, h4, h5⟩
  · subst h4
    cases ds <;> cases hd0
  · subst h4
    exact ⟨a, dd, _, w, ev, h1, h5, hw, l F1 al1 (.dat d0) mu1 w H1 E1 C1 rd q3⟩
end
theorem XMkI.of {P : Program} {w : World} {K : PySem.W.Frag} {mg : Str → Option Value} {base : Heap} {x : Str} {C f : Addr} {fd : FuncData} {ps fs : List Str} (gC : mg x = some (.ref C)) (T : OexC K C) (iC : PySem.W.findIn K (.ref C) "__init__" = some (some (.ref f))) (tI : PySem.W.typeIn K (.ref f) = some (.type "function"))
    (F : FnOk P w K mg base CX0 1 f fd ps (spI C fs)) (b : Binds K fd ps []) : XMkI P w K mg base x C ps fs := ⟨gC, T, f, fd, iC, tI, F, b⟩
end Dx

namespace Dx
open PySem PySem.Spec PyProof.Rows L2
open Evl (Ex)
/-! ### an exception that outlives its handler -/
theorem track {X : Cx} {pins : List (Addr × Obj)} {σ : L2.St} {H : Hp} {s : Shared} {a : Addr} {o : HO} (I : Inv X pins σ H s) (n0 : X.s_0.heap.get? a = none) (na : H a = none) (nL : a ≠ X.env.locals) (nC : ∀ x c, X.env.cells.lookup x = some c → c ≠ a)
    (nP : ∀ p ∈ X.pn ++ pins, p.1 ≠ a) (new : ObjOk X.prog X.w (upd H a o) s.heap a o) : Inv X pins σ (upd H a o) s := by
  have up : ∀ {b : Addr}, b ≠ a → upd H a o b = H b := fun hb => upd_ne hb
  have at0 : ∀ {b : Addr} {u : Obj}, X.s_0.heap.get? b = some u → b ≠ a := fun {b u} e z => by
    rw [z, n0] at e
    cases e
  have atH : ∀ {b : Addr} {u : HO}, H b = some u → b ≠ a := fun {b u} e z => by
    rw [z, na] at e
    cases e
  refine ⟨I.ok, I.os, I.bare, ⟨I.base.keep, I.base.slot, fun b u e n hx => ?_, I.base.there, fun b xs e => ?_, fun b u v e => ?_, fun b ps e => ?_⟩, I.loc, I.cell, ?_, fun x c e => ?_, fun p hp => ?_, fun b u e => ?_, I.len⟩
  · rw [up (at0 e)]
    exact I.base.free b u e n hx
  · have q := I.base.tups b xs e
    rw [up (atH q)]
    exact q
  · have q := I.base.frzs b u v e
    rw [up (atH q)]
    exact q
  · obtain ⟨more, q⟩ := I.base.tbls b ps e
    exact ⟨more, by rw [up (atH q)]; exact q⟩
  · rw [up (Ne.symm nL)]
    exact I.free
  · rw [up (nC x c e)]
    exact I.freeC x c e
  · obtain ⟨h1, h2, h3⟩ := I.pin p hp
    exact ⟨h1, by rw [up (nP p hp)]; exact h2, h3⟩
  · by_cases hb : b = a
    · subst hb
      rw [upd_same] at e
      cases e
      exact new
    · rw [up hb] at e
      exact (I.hok b u e).stay (fun c v _ q => q) (fun c q => by rw [up (atH q)]; exact q) fun c xs q => by rw [up (atH q)]; exact q
/-- the wish of a try whose clause keeps the exception -/
def wKeep (K : PySem.W.Frag) (c : Value) (i : Nat) (ts : Addr → Value → Option Addr → TS) (D : Ends) : WX := fun cls d σ H =>
  PySem.W.exmOne K cls c = some true ∧ ∀ a, H a = none → ts a cls d { nx := fun σ' H' => D.nx (σ'.set i none) (upd H' a (ExK cls d a)), rt := fun _ _ => False, bk := fun _ _ => False, ct := fun _ _ => False } (σ.set i (some (.ref a))) H
section
variable {X : Cx} {x n : Str} {c : Value} {i : Nat} {body suite : List Stmt} {b₀ : Stmt} {np pos pos' : Pos} {tb : WX → TS} {ts : Addr → Value → Option Addr → TS}
theorem sky_none {B : Heap} {l : List Env} {a L : Addr} {Z : Obj → Prop} {h : Heap} (x : Sky B l a Z L h) : B.get? a = none := by
  rcases x with ⟨_, q, _⟩ | ⟨_, q, _⟩ | ⟨_, q, _⟩ <;> exact q
theorem ps_try_keep (hex : X.ex = []) (hs : X.stack = X.env :: X.outer) (hf : X.env.frame = some X.env.locals) (hN : X.N.Nodup) (hi : X.N[i]? = some n) (hln : X.env.kindOf n = some .local) (hc : Names X x c)
    (hb : ∀ (W : WX) (pn : List (Addr × Obj)) (xe : Value → Shared → Prop), Takes (X.tr pn xe) W → PassesOwn (model X.prog X.w) X.A X.env xe → PSs (X.tr pn xe) body (tb W))
    (hsu : ∀ (a : Addr) (oe : Obj) (cls : Value) (d : Option Addr) (pn : List (Addr × Obj)), Zc cls d oe → (∃ vs, oe.data = .fields vs) → PSs (X.suite a ((a, oe) :: pn)) (b₀ :: suite) (ts a cls d)) :
    PS X (.Try body [.ExceptHandler (some (.Name x np)) (some n) (b₀ :: suite) pos'] [] [] pos) (fun D σ H => tb (wKeep X.K c i ts D) D σ H) := by
  refine ⟨fun pins s σ H D I h => ?_⟩
  have ok := I.ok
  have hfr : X.A.frames = some (X.env :: X.outer) := by rw [ok.frames, hs]
  refine wpAny_Try_except ?_
  have W0 := hb (wKeep X.K c i ts D) (X.pn ++ pins) (fun e s₁ => wpAny (model X.prog X.w) X.A (noteFrame e X.env) (fun _ s₂ => wpAny (model X.prog X.w) X.A (setFlight e none) (fun _ s₃ =>
    wpAny (model X.prog X.w) X.A (handleBy e X.env [.ExceptHandler (some (.Name x np)) (some n) (b₀ :: suite) pos']) (SP X pins D) X.xe s₃) X.xe s₂) X.xe s₁)
  refine wpAny_mono ((W0 (fun u s' xx => ?_) PassesOwn.looking).run [] s σ H D (I.toTry _) h) (fun f s1 hsp => ?_) (fun e s1 he => he)
  · obtain ⟨a, B, sI, pins', σ', H', cls, d, rfl, J', nb, up, sky, na, os, ag, hyes, hrun⟩ := xx
    have J : Inv X pins σ' H' sI := J'.ofTry ok
    have bn := sky_none sky
    have sky' : Sky B (X.env :: X.outer) a (Zc cls d) X.env.locals s'.heap := by rw [← hs]; exact sky
    show wpAny (model X.prog X.w) X.A (noteFrame (.ref a) X.env) _ _ _
    refine Sky.land Zc.steady hfr hf sky' fun h3 fl3 up3 => ?_
    have J3 : Inv X pins σ' H' { s' with heap := h3 } := J.landed nb fl3.1 (up.trans up3) os ag
    obtain ⟨oe3, vs3, he3, hz3, hd3⟩ := fl3.there
    have nfr : a ∉ frs (X.env :: X.outer) := fun hm => by
      obtain ⟨_, o', e', hnf⟩ := fl3.2.2.1.mem hm
      rw [he3] at e'
      cases e'
      exact hnf _ hd3
    have gone : sI.heap.get? a = none := by
      cases q : sI.heap.get? a with
      | none => rfl
      | some o =>
        have := nb a o q (by rw [hs]; exact nfr)
        rw [bn] at this
        cases this
    have n0 : X.s_0.heap.get? a = none := by
      cases q : X.s_0.heap.get? a with
      | none => rfl
      | some o =>
        obtain ⟨o', q'⟩ := J.base.there a o q (by rw [hex]; exact fun z => nomatch z)
        rw [gone] at q'
        cases q'
    have nP : ∀ p ∈ X.pn ++ pins, p.1 ≠ a := fun p hp z => by
      have := (J.pin p hp).1
      rw [z, gone] at this
      cases this
    have nC : ∀ y k, X.env.cells.lookup y = some k → k ≠ a := fun y k e z => by
      obtain ⟨v, o, ho, _⟩ := J.cell y k e
      rw [z, gone] at ho
      cases ho
    have nL : a ≠ X.env.locals := fun z => nfr (List.mem_filterMap.mpr ⟨X.env, List.mem_cons_self, by rw [hf, z]⟩)
    have nF : a ∉ X.fs := fun hm => by
      obtain ⟨e, he, q⟩ := List.mem_filterMap.mp hm
      exact nfr (List.mem_filterMap.mpr ⟨e, List.mem_cons_of_mem _ he, q⟩)
    have S3 := J3.suite he3 hd3 na nL nF
    refine wpAny_handleBy_cons (codeAny_handlers_test ?_) (by intro q; cases q)
    have LT : PySem.W.Looks (model X.prog X.w) h3 (typeOf (.ref a)) cls := fun A Q E s k q => wpAny_typeOf_ref (k _ _ he3) (by rw [hz3.1]; exact q)
    have LM := PySem.W.exm_one (M := model X.prog X.w) (J3.kIn) LT hyes
    have test : ∀ {Q : Value → Shared → Prop} {E : Value → Shared → Prop}, Q c { s' with heap := h3 } → wpAny (model X.prog X.w) (X.A.mark (some (.ref a))) (eval (.Name x np) X.env) Q E { s' with heap := h3 } := fun {Q E} q => by
      obtain ⟨hg, hdbg, hm | ⟨hm, hv, hnn⟩⟩ := hc
      · exact ld_glob (X := X.suite a ((a, oe3) :: (X.pn ++ pins))) S3 hg hm q hdbg
      · exact ld_blt (X := X.suite a ((a, oe3) :: (X.pn ++ pins))) S3 hg hm hv q hnn hdbg
    refine test (LM.here ?_)
    refine codeAny_handlers_suite_as ?_
    refine HandSPX.lands_againZ fl3 fun h4 fl4 up4 => ?_
    have J4 : Inv X pins σ' H' { s' with heap := h4 } := J.landed nb fl4.1 ((up.trans up3).trans up4) os ag
    obtain ⟨oe4, vs4, he4, hz4, hd4⟩ := fl4.there
    have S4 := J4.suite he4 hd4 na nL nF
    refine store_ok (X := X.suite a ((a, oe4) :: (X.pn ++ pins))) (v := .ref a) S4 hN hi (.inl hln) rfl (fun s5 S5 => ?_) (.inr hln)
    refine wpAny_mono ((hsu a oe4 cls d (X.pn ++ pins) hz4 ⟨_, hd4⟩).run [] s5 _ H' _ S5 (hrun a na)) (fun f s6 hsp => ?_) (fun _ _ z => False.elim z)
    cases f with
    | next =>
      obtain ⟨σ6, H6, S6, q6⟩ := hsp
      obtain ⟨p1, p2, _⟩ := S6.pin (a, oe4) (List.mem_append_left _ List.mem_cons_self)
      exact gone_ok (track (S6.unsuite ok) n0 p2 nL nC nP (exK_ok p1 hz4 hd4)) hN hi hln fun s7 J7 => ⟨_, _, J7, q6⟩
    | brk =>
      obtain ⟨_, _, _, q6⟩ := hsp
      exact q6.elim
    | cont =>
      obtain ⟨_, _, _, q6⟩ := hsp
      exact q6.elim
    | ret u =>
      obtain ⟨_, _, _, _, _, q6⟩ := hsp
      exact q6.elim
  · cases f with
    | next =>
      obtain ⟨σ', H', J', q⟩ := hsp
      exact wpAny_execs_nil ⟨σ', H', J'.ofTry ok, q⟩
    | brk =>
      obtain ⟨σ', H', J', q⟩ := hsp
      exact ⟨σ', H', J'.ofTry ok, q⟩
    | cont =>
      obtain ⟨σ', H', J', q⟩ := hsp
      exact ⟨σ', H', J'.ofTry ok, q⟩
    | ret u =>
      obtain ⟨v, σ', H', J', r, q⟩ := hsp
      exact ⟨v, σ', H', J'.ofTry ok, r, q⟩
end
end Dx

namespace Dx
open PySem PySem.Spec PyProof.Rows L2
open Evl (Ex)
variable [Tb]
/-! ### what is told of an exception that leaves: its class and its fields -/
abbrev YC := Addr → List Str → List D → Rho → Mu → Prop
abbrev YF := Addr → List Str → List D → Mu → Prop
def XRep (F : Hp) (cls : Value) (d : Option Addr) (C : Addr) (ns : List Str) (ds : List D) : Prop := cls = .ref C ∧ ∃ vs, ns.length = ds.length ∧ RepL F ds vs ∧ ((ns = [] ∧ d = none) ∨ ∃ dd, d = some dd ∧ F dd = some (.xd (ns.zip vs)))
def LY (F : Hp) (al : List Addr) (H : Hp) (xc : YC) (W : WX) : Prop := ∀ F' al' rho' mu' σ' H' cls d C ns ds, Ext F al H F' al' H' → Sim F' al' rho' mu' σ' H' → XRep F' cls d C ns ds → xc C ns ds rho' mu' → W cls d σ' H'
theorem LY.trans {F F1 : Hp} {al al1 : List Addr} {H H1 : Hp} {xc : YC} {W : WX} (l : LY F al H xc W) (E : Ext F al H F1 al1 H1) : LY F1 al1 H1 xc W := fun F' al' rho' mu' σ' H' cls d C ns ds e => l F' al' rho' mu' σ' H' cls d C ns ds (E.trans e)
abbrev DSY := YC → DS
abbrev DEY := YC → DE
def GSY (W : WX) (ts : TS) (t : DSY) : Prop := ∀ F al rho mu σ H D E xc, Sim F al rho mu σ H → t xc D rho mu → LS F al H D E → LY F al H xc W → ts E σ H
def GEY (W : WX) (te : TE) (t : DEY) : Prop := ∀ F al rho mu σ H Q R xc, Sim F al rho mu σ H → t xc rho mu Q → LK F al H Q R → LY F al H xc W → te σ H R
structure CSY (X : Cx) (W : WX) (st : Stmt) (t : DSY) : Prop where
  ok : ∃ ts, PS X st ts ∧ GSY W ts t
structure CSsY (X : Cx) (W : WX) (st : List Stmt) (t : DSY) : Prop where
  ok : ∃ ts, PSs X st ts ∧ GSY W ts t
structure CEY (X : Cx) (W : WX) (e : Expr) (t : DEY) : Prop where
  ok : ∃ te, PE X e te ∧ GEY W te t
section
variable {X : Cx} {W : WX} {st : Stmt} {rest : List Stmt} {e : Expr} {pos pos' : Pos}
theorem CS.y {t : DS} (h : CS X st t) : CSY X W st (fun _ => t) := let ⟨ts, p, g⟩ := h.ok; ⟨ts, p, fun F al rho mu σ H D E xc S q l _ => g F al rho mu σ H D E S q l⟩
theorem CSs.y {t : DS} (h : CSs X rest t) : CSsY X W rest (fun _ => t) := let ⟨ts, p, g⟩ := h.ok; ⟨ts, p, fun F al rho mu σ H D E xc S q l _ => g F al rho mu σ H D E S q l⟩
def ySeq (t u : DSY) : DSY := fun xc => dSeq (t xc) (u xc)
theorem cssy_cons {t u : DSY} (h1 : CSY X W st t) (h2 : CSsY X W rest u) : CSsY X W (st :: rest) (ySeq t u) :=
  let ⟨_, p, g⟩ := h1.ok; let ⟨_, p2, g2⟩ := h2.ok
  ⟨_, pss_cons p p2, fun F al rho mu σ H D E xc S q l lx => g F al rho mu σ H _ _ xc S q ⟨fun F1 al1 rho1 mu1 σ1 H1 e1 S1 q1 => g2 F1 al1 rho1 mu1 σ1 H1 D E xc S1 q1 (l.trans e1) (lx.trans e1), l.rt, l.bk, l.ct⟩ lx⟩
theorem cssy_one {t : DSY} (h1 : CSY X W st t) : CSsY X W [st] t := let ⟨_, p, g⟩ := h1.ok; ⟨_, pss_one p, g⟩
def yIf (c : DT) (t u : DSY) : DSY := fun xc => dIf c (t xc) (u xc)
theorem csy_if {c : Expr} {as bs : List Stmt} {tc : DT} {t u : DSY} (hc : CT X c tc) (ha : CSsY X W as t) (hb : CSsY X W bs u) : CSY X W (.If c as bs pos) (yIf tc t u) := by
  obtain ⟨_, p, g⟩ := hc.ok
  obtain ⟨_, pa, ga⟩ := ha.ok
  obtain ⟨_, pb, gb⟩ := hb.ok
  refine ⟨_, ps_if p pa pb, fun F al rho mu σ H D E xc S q l lx => g F al rho mu σ H _ _ S q fun F1 al1 c mu1 H1 e1 C1 q1 => ?_⟩
  cases c with
  | true => exact ga F1 al1 rho mu1 σ H1 D E xc (S.of C1 e1.ex e1.pf) q1 (l.trans e1) (lx.trans e1)
  | false => exact gb F1 al1 rho mu1 σ H1 D E xc (S.of C1 e1.ex e1.pf) q1 (l.trans e1) (lx.trans e1)
def yDrop (te : DEY) : DSY := fun xc => dDrop (te xc)
theorem csy_expr {te : DEY} (he : CEY X W e te) (hs : swapsWith e none pos.line X.env = pure false := by rfl) : CSY X W (.Expr e pos) (yDrop te) := by
  obtain ⟨_, p, g⟩ := he.ok
  exact ⟨_, ps_expr p hs, fun F al rho mu σ H D E xc S q l lx => g F al rho mu σ H _ _ xc S q (fun F1 al1 x mu1 v H1 e1 C1 r1 q1 => l.nx F1 al1 rho mu1 σ H1 e1 (S.of C1 e1.ex e1.pf) q1) lx⟩
end
/-! ### defs -/
abbrev FSY := List DV → Mu → (RV → Mu → Prop) → YF → Prop
def spY (S : FSY) : Sp := fun vs H Q E => ∃ F al dvs mu Qd xc, Cels F al mu H ∧ RepVs F al dvs vs ∧ S dvs mu Qd xc ∧
  (∀ F' mu' rv v H', Ext F al H F' al H' → Cels F' al mu' H' → RetV F' al H' rv v → Fresh H rv v → Qd rv mu' → Q v H') ∧
  ∀ F' mu' H' cls d C ns ds, Ext F al H F' al H' → Cels F' al mu' H' → XRep F' cls d C ns ds → xc C ns ds mu' → E cls d H'
def BodyY (t : DSY) (N : List Str) (S : FSY) : Prop := ∀ xs mu Q xc, S xs mu Q xc → t (fun C ns ds _ mu' => xc C ns ds (mu'.take mu.length)) { nx := fun _ mu' => retQ mu.length Q (.dv (.dat .non)) mu', rt := retQ mu.length Q } (startD N xs) mu
theorem dfnY {P : Program} {w : World} {K : PySem.W.Frag} {mg : Str → Option Value} {base : Heap} {x qual : Str} {st : Stmt} {f : Addr} {fd : FuncData} {N ps : List Str} {k : Nat} {S : FSY} (F : Fun K x qual st f fd) (sc : FnScope N ps (defScope st))
    (len : ∀ xs mu Q xc, S xs mu Q xc → xs.length = ps.length)
    (body : ∀ (cdv : Value) (A : Around) (outer : List Env) (s : Shared) (H : Hp) (E : XK), Room k (A.deeper (envOfC qual (defScope st) s.heap.objs.size f cdv)) →
      ∃ t, CSsY (cxOf (L2.CX P w) P w K mg base N qual (defScope st) f cdv A outer s H E) (fun cls d _ H => E cls d H) (defBody st) t ∧ BodyY t N S) :
    FnOk P w K mg base (L2.CX P w) (k + 1) f fd ps (spY S) := by
  refine F.okX sc (fun vs H Q E h => ?_) (fun cdv A outer s H vs Q E hr h => ?_)
  · obtain ⟨F0, al, xs, mu, Qd, xc, C, r, q, _⟩ := h
    rw [r.len]
    exact len _ _ _ _ q
  · obtain ⟨F0, al, xs, mu, Qd, xc, C, r, q, l, lx⟩ := h
    obtain ⟨t, hc, hq⟩ := body cdv A outer s H E hr
    obtain ⟨ts, hp, g⟩ := hc.ok
    refine ⟨ts, hp, g F0 al (startD N xs) mu (L2.start N vs) H _ _ _ (sim_start C r) (hq xs mu Qd xc q) ?_ fun F' al' rho' mu' σ' H' cls d C0 ns ds E' C' xr q' => ?_⟩
    rotate_left
    · obtain ⟨C2, E2⟩ := C'.toCels.cutTo E'
      rw [C.len] at C2
      exact lx F' _ H' cls d C0 ns ds E2 C2 xr q'
    have rt : ∀ F' al' mu' rv v H', Ext F0 al H F' al' H' → Cels F' al' mu' H' → RetV F' al' H' rv v → Fresh H rv v → retQ mu.length Qd rv mu' → Q v H' := fun F' al' mu' rv v H' E' C' rr fr q' => by
      obtain ⟨C2, E2⟩ := C'.cutTo E'
      rw [C.len] at C2
      cases rv with
      | dv x =>
        cases x with
        | dat d => exact l F' _ (.dv (.dat d)) v H' E2 C2 rr fr q'
        | cel j =>
          obtain ⟨a, ha, ev⟩ := rr
          have q2 : (match mu'[j]? with
            | some m => mu.length ≤ j ∧ isDead m = false ∧ Qd (.new m) (mu'.take mu.length)
            | none => False) := q'
          cases hm : mu'[j]? with
          | none =>
            rw [hm] at q2
            exact q2.elim
          | some m =>
            rw [hm] at q2
            obtain ⟨hj, dd, q2⟩ := q2
            have na : a ∉ al := fun z => by
              obtain ⟨i, hi, ei⟩ := List.getElem_of_mem z
              obtain ⟨t, et⟩ := E'.pf
              have e1 : al'[i]? = some a := by
                rw [← et, List.getElem?_append_left hi, List.getElem?_eq_getElem hi, ei]
              have e2 := List.getElem?_eq_some_iff.mp e1
              have e3 := List.getElem?_eq_some_iff.mp ha
              have e4 := (List.getElem_inj C'.nd).mp (e2.2.trans e3.2.symm)
              have := C.len
              omega
            refine l F' _ (.new m) v H' E2 C2 ⟨a, ev, na, dd, C'.cel j a m ha hm⟩ (fun p ep => ?_) q2
            rw [ev] at ep
            cases ep
            rcases E'.nc a (List.mem_of_getElem? ha) with z | z
            · exact absurd z na
            · exact z
      | new m =>
        obtain ⟨p, ev, na, dd, ok⟩ := rr
        exact l F' _ (.new m) v H' E2 C2 ⟨p, ev, fun z => na (E'.pf.subset z), dd, ok⟩ fr q'
    exact ⟨fun F' al' rho' mu' σ' H' E' S' q' => rt F' al' mu' (.dv (.dat .non)) .non H' E' S'.toCels (rv_non (F := F') (al := al')) trivial q', rt, fun _ _ _ _ _ _ _ _ z => z.elim, fun _ _ _ _ _ _ _ _ z => z.elim⟩
/-- no cells are handed on -/
def dCallY (S : FSY) (ta : DA) : DEY := fun xc rho mu Q => ta rho mu fun xs mu1 => allD xs = true ∧ S xs [] (backD mu1 Q) fun C ns ds _ => xc C ns ds rho mu1
section
variable {X : Cx} {W : WX} {k : Nat} {f : Addr} {fd : FuncData} {ps : List Str} {x : Str} {p pos : Pos} {e : Expr} {es : List Expr} {S : FSY} {tr : DA}
theorem cey_call (G : FnOk X.prog X.w X.K X.mg X.base (L2.CX X.prog X.w) k f fd ps (spY S)) (hr : Room k X.A) (hm : X.mg x = some (.ref f)) (hk : PySem.W.keepIn X.K (.ref f) = true) (hb : Binds X.K fd ps []) (tk : Takes X W) (ha : CA X (e :: es) tr) (hg : Gl X x := by rfl)
    (hdb : (x == ("__debug__" : Str)) = false := by decide) (he : starEach (e :: es) X.env = (false, eval e X.env) :: starEach es X.env := by rfl) (hpl : (backTo pos (starEach es X.env)).any (·.1) = false := by rfl) :
    CEY X W (.Call (.Name x p) (e :: es) [] pos) (dCallY S tr) := by
  obtain ⟨_, pa, ga⟩ := ha.ok
  refine ⟨_, pe_callS (E := WE W) G hr hg hm hk hb (passAt tk) pa hdb he hpl, fun F al rho mu σ H Q R xc St q l lx => ga F al rho mu σ H _ _ St q fun F1 al1 xs mu1 vs H1 E1 C1 r1 q1 => ?_⟩
  refine ⟨F1, [], xs, [], _, _, Cels.empt C1.ex C1.nt C1.tb, allD_vs r1 q1.1, q1.2, fun F' mu' rv v H' E' C' rr fr q' => ?_, fun F' mu' H' cls d C0 ns ds E' C' xr q' => ?_⟩
  · obtain ⟨C2, E2⟩ := C1.over E' C'.ex C'.nt C'.tb
    cases rv with
    | dv x =>
      cases x with
      | cel k => exact q'.elim
      | dat d => exact l F' al1 (.dat d) mu1 v H' (E1.trans E2) C2 rr q'
    | new m =>
      obtain ⟨p, ev, na, dd, ok⟩ := rr
      obtain ⟨o, ho, rep⟩ := ok.frz dd
      have h0 : H1 p = none := fr p ev
      have hn := ok.un dd
      subst ev
      exact l _ al1 (.dat m.toD) mu1 (.ref p) H' ((E1.trans E2).frz hn (none_back (E1.dm p) h0)) (C2.frz ho hn (C1.not_al h0) (ok.frzN dd ho)) (rep _ (ex_upd hn) upd_same) q'
  · obtain ⟨C2, E2⟩ := C1.over E' C'.ex C'.nt C'.tb
    exact lx F' al1 rho mu1 σ H' cls d C0 ns ds (E1.trans E2) (St.of C2 (E1.trans E2).ex (E1.trans E2).pf) xr q'
end
structure CalY (P : Program) (w : World) (K : PySem.W.Frag) (mg : Str → Option Value) (base : Heap) (k : Nat) (x : Str) (ps : List Str) (S : FSY) : Prop where
  ok : ∃ f fd, FnOk P w K mg base (L2.CX P w) k f fd ps (spY S) ∧ mg x = some (.ref f) ∧ PySem.W.keepIn K (.ref f) = true ∧ Binds K fd ps []
theorem Df.calY {P : Program} {w : World} {K : PySem.W.Frag} {mg : Str → Option Value} {base : Heap} {x : Str} {st : Stmt} {N ps : List Str} {S : FSY} {t : DSY} (k : Nat) (D : Df K mg x st ps) (sc : FnScope N ps (defScope st))
    (len : ∀ xs mu Q xc, S xs mu Q xc → xs.length = ps.length) (rd : BodyY t N S)
    (body : ∀ (f : Addr) (cdv : Value) (A : Around) (outer : List Env) (s : Shared) (H : Hp) (E : XK), Room k (A.deeper (envOfC x (defScope st) s.heap.objs.size f cdv)) →
      CSsY (cxOf (L2.CX P w) P w K mg base N x (defScope st) f cdv A outer s H E) (fun cls d _ H => E cls d H) (defBody st) t) : CalY P w K mg base (k + 1) x ps S := by
  obtain ⟨f, fd, F, m, b⟩ := D.ok
  exact ⟨f, fd, dfnY F sc len fun cdv A outer s H E hr => ⟨t, body f cdv A outer s H E hr, rd⟩, m, F.kp, b⟩
theorem takesY {P : Program} {w : World} {K : PySem.W.Frag} {mg : Str → Option Value} {base : Heap} {N : List Str} {qual : Str} {sc : Scope} {f : Addr} {cdv : Value} {A : Around} {outer : List Env} {s : Shared} {H : Hp} {E : XK} :
    Takes (cxOf (L2.CX P w) P w K mg base N qual sc f cdv A outer s H E) (fun cls d _ H => E cls d H) := takes_of rfl rfl rfl rfl
section
variable {X : Cx} {W : WX} {k : Nat} {ps : List Str} {x : Str} {p pos : Pos} {e : Expr} {es : List Expr} {S : FSY} {tr : DA}
theorem ccY (G : CalY X.prog X.w X.K X.mg X.base k x ps S) (hr : Room k X.A) (tk : Takes X W) (ha : CA X (e :: es) tr) (hg : Gl X x := by rfl)
    (hdb : (x == ("__debug__" : Str)) = false := by decide) (he : starEach (e :: es) X.env = (false, eval e X.env) :: starEach es X.env := by rfl) (hpl : (backTo pos (starEach es X.env)).any (·.1) = false := by rfl) :
    CEY X W (.Call (.Name x p) (e :: es) [] pos) (dCallY S tr) := let ⟨_, _, g, m, kp, b⟩ := G.ok; cey_call g hr m kp b tk ha hg hdb he hpl
end
/-- a reading as a term of the hand layer -/
def semY (t : DSY) (W : WX) : TS := fun E σ H => ∃ F al rho mu D xc, Sim F al rho mu σ H ∧ t xc D rho mu ∧ LS F al H D E ∧ LY F al H xc W
theorem pss_semY {X : Cx} {W : WX} {body : List Stmt} {t : DSY} (h : CSsY X W body t) : PSs X body (semY t W) := by
  obtain ⟨ts, p, g⟩ := h.ok
  refine ⟨fun pins s σ H E I hq => ?_⟩
  obtain ⟨F, al, rho, mu, D, xc, S, q, l, lx⟩ := hq
  exact p.run pins s σ H E I (g F al rho mu σ H D E xc S q l lx)
/-! ### try: .. except S as e: x = e -/
structure XTry (K : PySem.W.Frag) (mg : Str → Option Value) (xs : Str) (cS : Addr) (fam : List Addr) : Prop where
  gS : mg xs = some (.ref cS)
  eS : AllI (fun _ C => PySem.W.exmOne K (.ref C) (.ref cS) = some true) 0 fam
/-- the exception's name is i, what keeps it is j -/
def dTryK (fam : List Addr) (i j : Nat) (t : DSY) : DS := fun D rho mu => t (fun C ns ds rho' mu' => (∃ k : Nat, fam[k]? = some C) ∧ (i < rho'.length ∧ j < rho'.length) ∧ D.nx (clrD (setD rho' j (.dat (.ob true C ns ds))) i) mu') D rho mu
theorem xrep_ob {F : Hp} {a C : Addr} {cls : Value} {d : Option Addr} {ns : List Str} {ds : List D} (h : XRep F cls d C ns ds) (na : F a = none) : Rep (upd F a (ExK cls d a)) (.ob true C ns ds) (.ref a) := by
  obtain ⟨rfl, vs, hl, rl, hd⟩ := h
  rw [Rep]
  refine ⟨a, vs, rfl, ?_, hl, rl.mono (ex_upd na)⟩
  rcases hd with ⟨h1, rfl⟩ | ⟨dd, rfl, h2⟩
  · exact .inl ⟨h1, upd_same⟩
  · exact .inr ⟨dd, upd_same, by rw [upd_ne (fun z => by rw [z, na] at h2; cases h2)]; exact h2⟩
section
variable {X : Cx} {i j : Nat} {x x2 n : Str} {cS : Addr} {fam : List Addr} {body : List Stmt} {np p1 p2 p3 pos pos' : Pos} {t : DSY}
theorem cs_tryK (T : XTry X.K X.mg x cS fam) (hex : X.ex = []) (hs : X.stack = X.env :: X.outer) (hf : X.env.frame = some X.env.locals) (hN : X.N.Nodup) (hi : X.N[i]? = some n) (hj : X.N[j]? = some x2) (hln : X.env.kindOf n = some .local) (hlx : X.env.scope.names.lookup x2 = some .local) (hij : i ≠ j) (hg : Gl X x)
    (hb : ∀ (W : WX) (pn : List (Addr × Obj)) (xe : Value → Shared → Prop), Takes (X.tr pn xe) W → CSsY (X.tr pn xe) W body t)
    (hvn : Vis X.env.scope n := by first | exact Or.inl rfl | exact Or.inr (Or.inl rfl) | exact Or.inr (Or.inr rfl)) (hdb : (x == ("__debug__" : Str)) = false := by decide)
    (hd : (n == ("__debug__" : Str)) = false := by decide) (hcd : (n == ("__classdict__" : Str)) = false := by decide)
    (hsw : swapsWith (.Name n p2) (some (.Name x2 p1)) p3.line X.env = pure false := by rfl) :
    CS X (.Try body [.ExceptHandler (some (.Name x np)) (some n) [.Assign [.Name x2 p1] (.Name n p2) p3] pos'] [] [] pos) (dTryK fam i j t) := by
  refine ⟨_, ps_try_keep (c := .ref cS) (tb := semY t) (ts := fun _ _ _ => fun D σ H => tVar i σ H fun v H1 => D.nx (σ.set j (some v)) H1) hex hs hf hN hi hln ⟨hg, hdb, .inl T.gS⟩ (fun W pn xe tk' _ => pss_semY (hb W pn xe tk')) (fun a oe cls d pn hz hfl => pss_one ?_), fun F al rho mu σ H D E S q l => ?_⟩
  · exact ps_set (X := X.suite a ((a, oe) :: pn)) hN hj (.inl hlx) (pe_var (X := X.suite a ((a, oe) :: pn)) hi hvn hd hcd) hsw (.inr hlx)
  · refine ⟨F, al, rho, mu, D, _, S, q, l, fun F' al' rho' mu' σ' H' cls d C ns ds E' S' xr hq => ?_⟩
    obtain ⟨⟨k, hk⟩, ⟨hi', hj'⟩, q'⟩ := hq
    have ec := xr.1
    refine ⟨by rw [ec]; exact T.eS.at hk, fun a na => ⟨.ref a, by rw [List.getElem?_set_self (by rw [← S'.slen]; exact hi')], ?_⟩⟩
    have nF : F' a = none := ex_none S'.ex na
    have S1 := S'.newF (o := ExK cls d a) na (by intro _ z; cases z)
    have e1 := Ext.new (al := al') (o := ExK cls d a) na S'.ex
    have S2 := (S1.set j (x := .dat (.ob true C ns ds)) (v := .ref a) (xrep_ob xr nF)).clr i
    have eσ : ((σ'.set i (some (V.ref a))).set j (some (V.ref a))).set i none = (σ'.set j (some (V.ref a))).set i none := by
      rw [List.set_comm _ _ hij, List.set_set]
    show E.nx (((σ'.set i (some (V.ref a))).set j (some (V.ref a))).set i none) (upd H' a (ExK cls d a))
    rw [eσ]
    exact l.nx _ al' _ mu' _ _ (E'.trans e1) S2 q'
end
end Dx

namespace Dx
open PySem PySem.Spec PyProof.Rows L2
open Evl (Ex)
/-! ### count and index of truths -/
theorem bools_of : ∀ {bs : List Bool} {us : List Value}, Vals (bs.map V.bl) us → us = bs.map Value.bool
  | [], us, r => by cases r; rfl
  | b :: bs, us, r => by
    cases r with
    | cons h t =>
      rw [List.map_cons, ← bools_of t]
      have e := h
      cases e
      rfl
theorem reads_bools {h : Heap} : ∀ bs : List Bool, ∃ as, ReadsAll h (bs.map Value.bool) (bs.map PyData.bool) as
  | [] => ⟨[], .nil⟩
  | b :: bs => by
    obtain ⟨as, r⟩ := reads_bools (h := h) bs
    exact ⟨[] ++ as, .cons (.bool b) r⟩
theorem plain_bools : ∀ bs : List Bool, PyData.plainAll (bs.map PyData.bool) = true
  | [] => rfl
  | b :: bs => by
    rw [List.map_cons, PyData.plainAll, plain_bools bs]
    rfl
theorem deep_bools : ∀ bs : List Bool, PyData.depthAll (bs.map PyData.bool) = 0
  | [] => rfl
  | b :: bs => by
    rw [List.map_cons, PyData.depthAll, deep_bools bs]
    rfl
theorem countP_bools (b : Bool) : ∀ bs : List Bool, (bs.map PyData.bool).countP (fun y => PyData.eqv y (.bool b)) = bs.count b
  | [] => rfl
  | c :: bs => by
    have e : PyData.eqv (.bool c) (.bool b) = (c == b) := by cases c <;> cases b <;> rfl
    rw [List.map_cons, List.countP_cons, countP_bools b bs, List.count_cons, e]
def rCntB (K : PySem.W.Frag) : V → List V → Hp → VK → Prop := fun x xs H Q => ∃ (p : Addr) (bs : List Bool) (b : Bool), x = .ref p ∧ xs = [.bl b] ∧ SqL K H p (bs.map V.bl) ∧ Q (.int (bs.count b : Nat)) H
theorem mt_cntB {X : Cx} (hu : X.A.units + 65 < cLine) : MtR X "list.count" (rCntB X.K) := by
  intro pins s σ H x xs v us Q I rx rxs h
  obtain ⟨p, bs, b, rfl, rfl, hs, q⟩ := h
  cases rx
  obtain ⟨u, rfl, ru⟩ := rxs.one
  cases ru
  obtain ⟨its, rv, pl, hlen⟩ := I.list hs
  have e := bools_of rv
  subst e
  obtain ⟨as, ra⟩ := reads_bools (h := s.heap) bs
  refine SeqAt.count_list_data (xs := bs.map PyData.bool) (d := .bool b) pl.isList (by simpa using ra) (.bool b) (plain_bools bs) rfl (by rw [deep_bools]; show X.A.units + 1 + min 0 0 < cLine; omega) ?_
  exact ⟨.int (bs.count b : Nat), H, I.tok _, ⟨s.toks, by rw [countP_bools]⟩, q⟩
variable [Tb]
def dCountB : DM := fun x xs mu Q => onSome ((seqL mu x).bind toBls) fun bs => on1 xs fun y => match y with
  | .dat (.bl b) => Q (.dat (.int ((bs.count b : Nat) : Int))) mu
  | _ => False
theorem RepL.bools {F : Hp} : ∀ {bs : List Bool} {vs : List V}, RepL F (bs.map D.bl) vs → vs = bs.map V.bl
  | [], vs, h => by
    rw [List.map_nil] at h
    exact h.unnil
  | b :: bs, vs, h => by
    obtain ⟨v, w, e, r1, r2⟩ := h.uncons
    subst e
    rw [Rep] at r1
    rw [r1, RepL.bools r2]
    rfl
theorem mCountB {X : Cx} (hu : X.A.units + 65 < cLine) : MtD X "list" "list.count" dCountB := ⟨_, mt_cntB hu, fun F al mu H x xs v vs Q R c r rs q l => by
  obtain ⟨bs, hn, q⟩ := onSome_out q
  obtain ⟨ds, hd, hz⟩ := bind_out hn
  obtain ⟨y, u, ev, ry, q⟩ := on1_out q rs
  obtain ⟨p, ws, e1, hp, rl⟩ := seqL_out c r hd
  have e := toBls_map hz
  subst e
  have e := RepL.bools rl
  subst e
  cases y with
  | cel _ => exact q.elim
  | dat d =>
    cases d with
    | bl b =>
      have ry' : Rep F (.bl b) u := ry
      rw [Rep] at ry'
      subst ry'
      exact ⟨p, bs, b, e1, ev, .inl (.inl hp), l F al _ mu _ H Ext.refl c rv_int q⟩
    | _ => exact q.elim⟩
def dIndexB : DM := fun x xs mu Q => onSome ((seqL mu x).bind toBls) fun bs => on1 xs fun y => match y with
  | .dat (.bl b) => ∃ j : Nat, bs[j]? = some b ∧ (∀ (m : Nat) (z : Bool), m < j → bs[m]? = some z → z ≠ b) ∧ Q (.dat (.int (j : Int))) mu
  | _ => False
theorem flat_bools (bs : List Bool) : (bs.map V.bl).all flatV = true := by
  rw [List.all_map]
  exact List.all_eq_true.mpr fun _ _ => rfl
theorem mIndexB {X : Cx} : MtD X "list" "list.index" dIndexB := ⟨_, mt_index, fun F al mu H x xs v vs Q R c r rs q l => by
  obtain ⟨bs, hn, q⟩ := onSome_out q
  obtain ⟨ds, hd, hz⟩ := bind_out hn
  obtain ⟨y, u, ev, ry, q⟩ := on1_out q rs
  obtain ⟨p, ws, e1, hp, rl⟩ := seqL_out c r hd
  have e := toBls_map hz
  subst e
  have e := RepL.bools rl
  subst e
  cases y with
  | cel _ => exact q.elim
  | dat d =>
    cases d with
    | bl b =>
      have ry' : Rep F (.bl b) u := ry
      rw [Rep] at ry'
      subst ry'
      obtain ⟨j, hj, no, q9⟩ := q
      refine ⟨p, bs.map V.bl, .bl b, j, .bl b, e1, ev, .inl (.inl hp), rfl, flat_bools bs, by rw [List.getElem?_map, hj]; rfl, by cases b <;> rfl, fun m z hm hz => ?_, l F al _ mu _ H Ext.refl c rv_int q9⟩
      rw [List.getElem?_map] at hz
      cases hn2 : bs[m]? with
      | none => rw [hn2] at hz; cases hz
      | some w =>
        rw [hn2] at hz
        cases hz
        have := no m w hm hn2
        cases w <;> cases b <;> first | rfl | exact absurd rfl this
    | _ => exact q.elim⟩
/-! ### return f(..), f may raise -/
section
variable {X : Cx} {W : WX} {e : Expr} {pos : Pos}
def yRet (te : DEY) : DSY := fun xc D rho mu => te xc rho mu fun x mu1 => D.rt (.dv x) mu1
theorem csy_ret {te : DEY} (he : CEY X W e te) : CSY X W (.Return (some e) pos) (yRet te) := by
  obtain ⟨_, p, g⟩ := he.ok
  exact ⟨_, ps_ret p, fun F al rho mu σ H D E xc S q l lx => g F al rho mu σ H _ _ xc S q (fun F1 al1 x mu1 v H1 e1 C1 r1 q1 => l.rt F1 al1 mu1 (.dv x) v H1 e1 C1 r1 trivial q1) lx⟩
end
end Dx

namespace Dx
open PySem PySem.Spec PyProof.Rows L2
open Evl (Ex)
variable [Tb]
end Dx

namespace Dx
open PySem PySem.Spec PyProof.Rows L2
open Evl (Ex)
variable [Tb]
/-! ### the class of a refusal by its number -/
def S_w_caught (fam : List Addr) : FS := fun xs mu Q => ∃ (i : Nat) (C : Addr) (ns : List Str) (ds : List D), xs = [.dat (.ob true C ns ds)] ∧ mu = [] ∧ fam[i]? = some C ∧ i < 5 ∧ Q (.dv (.dat (natD i))) []
theorem len_w_caught {fam : List Addr} : ∀ xs mu Q, S_w_caught fam xs mu Q → xs.length = 1 := fun xs mu Q h => by
  obtain ⟨_, _, _, _, rfl, _⟩ := h
  rfl
def t_w_caught (a_NoText a_NoMachine a_NoFit a_NoName a_NoRow a_SpreadError : Addr) : DS :=
  (dSeq (dSet 1 (dFrz (fLst (aCons (dIsX [a_NoText, a_NoMachine, a_NoFit, a_NoName, a_NoRow, a_SpreadError] 0 (dVar 0)) (aCons (dIsX [a_NoText, a_NoMachine, a_NoFit, a_NoName, a_NoRow, a_SpreadError] 1 (dVar 0)) (aCons (dIsX [a_NoText, a_NoMachine, a_NoFit, a_NoName, a_NoRow, a_SpreadError] 2 (dVar 0)) aNil))))))
  (dSeq (dSet 1 (dFrz (fOp fCat (dVar 1) (dFrz (fLst (aCons (dIsX [a_NoText, a_NoMachine, a_NoFit, a_NoName, a_NoRow, a_SpreadError] 3 (dVar 0)) (aCons (dIsX [a_NoText, a_NoMachine, a_NoFit, a_NoName, a_NoRow, a_SpreadError] 4 (dVar 0)) aNil)))))))
  (dSeq (dIf (dOr (dTest (dOp dNe (dBM "list" dCountB (dVar 1) (aCons (dC (.bl true)) aNil)) (dC (.int 1)))) (dNot (dTest (dIsVE [a_NoText, a_NoMachine, a_NoFit, a_NoName, a_NoRow, a_SpreadError] (dVar 0)))))
  (dRet (dNeg (dC (.int 1))))
  dNext)
  (dRet (dBM "list" dIndexB (dVar 1) (aCons (dC (.bl true)) aNil))))))
theorem rd_w_caught {a_NoText a_NoMachine a_NoFit a_NoName a_NoRow a_SpreadError : Addr} : Body (t_w_caught a_NoText a_NoMachine a_NoFit a_NoName a_NoRow a_SpreadError) ["_law_e", "_law_sorts"] (S_w_caught [a_NoText, a_NoMachine, a_NoFit, a_NoName, a_NoRow, a_SpreadError]) := fun xs mu Q h => by
  obtain ⟨i, C, ns, ds, rfl, rfl, h, hi, q⟩ := h
  refine ⟨i, h, ?_⟩
  refine ⟨i, h, ?_⟩
  refine ⟨i, h, ?_⟩
  refine ⟨by show 3 ≤ 1000; omega, ?_⟩
  refine ⟨i, h, ?_⟩
  refine ⟨i, h, ?_⟩
  refine ⟨by show 2 ≤ 1000; omega, ?_⟩
  refine ⟨by show 3 + 2 ≤ 1000000; omega, ?_⟩
  refine ⟨rfl, ?_⟩
  refine ⟨okD_int _ _, okD_int _ _, ?_⟩
  have hcnt : List.count true [famIs 6 i 0, famIs 6 i 1, famIs 6 i 2, famIs 6 i 3, famIs 6 i 4] = 1 := by
    have c : i = 0 ∨ i = 1 ∨ i = 2 ∨ i = 3 ∨ i = 4 := by omega
    rcases c with rfl | rfl | rfl | rfl | rfl <;> decide
  refine itNeI (i := ((List.count true [famIs 6 i 0, famIs 6 i 1, famIs 6 i 2, famIs 6 i 3, famIs 6 i 4] : Nat) : Int)) (j := 1) (fun z => absurd (by rw [hcnt]; rfl) z) (fun _ => ?_)
  refine ⟨i, h, ?_⟩
  refine ⟨rfl, ?_⟩
  refine ⟨i, ?_, ?_, q⟩
  · have c : i = 0 ∨ i = 1 ∨ i = 2 ∨ i = 3 ∨ i = 4 := by omega
    rcases c with rfl | rfl | rfl | rfl | rfl <;> rfl
  · intro k z hk hz e
    subst e
    have c : i = 0 ∨ i = 1 ∨ i = 2 ∨ i = 3 ∨ i = 4 := by omega
    have c2 : k = 0 ∨ k = 1 ∨ k = 2 ∨ k = 3 := by omega
    rcases c with rfl | rfl | rfl | rfl | rfl <;> rcases c2 with rfl | rfl | rfl | rfl <;> first | omega | exact absurd (show false = true from Option.some.inj hz) (by decide)
end Dx

namespace Dx
open PySem PySem.Spec PyProof.Rows L2
open Evl (Ex)
variable [Tb]
section
variable {X : Cx} {W : WX} {e : Expr} {es : List Expr} {pos p : Pos} {x : Str} {L : List (Addr × FSY)} {t : TA} {tr : DA} {i : Nat}
end
end Dx

namespace Dx
open PySem PySem.Spec PyProof.Rows L2
open Evl (Ex)
variable [Tb]
section
variable {M N : Mach} {many : Nat}
end
end Dx

namespace Dx
open PySem PySem.Spec PyProof.Rows L2
open Evl (Ex)
variable [Tb]
/-! ### the Y-wise, further: fields raised, loops, raising calls amid values -/
abbrev DAY := YC → DA
def GAY (W : WX) (te : TA) (t : DAY) : Prop := ∀ F al rho mu σ H Q R xc, Sim F al rho mu σ H → t xc rho mu Q → LA F al H Q R → LY F al H xc W → te σ H R
structure CAY (X : Cx) (W : WX) (es : List Expr) (t : DAY) : Prop where
  ok : ∃ te, PA X es te ∧ GAY W te t
section
variable {X : Cx} {W : WX} {st : Stmt} {rest : List Stmt} {e : Expr} {es : List Expr} {pos pos' p : Pos} {x : Str}
theorem CE.y {t : DE} (h : CE X e t) : CEY X W e (fun _ => t) := let ⟨ts, p, g⟩ := h.ok; ⟨ts, p, fun F al rho mu σ H Q R xc S q l _ => g F al rho mu σ H Q R S q l⟩
theorem CA.y {t : DA} (h : CA X es t) : CAY X W es (fun _ => t) := let ⟨ts, p, g⟩ := h.ok; ⟨ts, p, fun F al rho mu σ H Q R xc S q l _ => g F al rho mu σ H Q R S q l⟩
def yCons (t : DEY) (r : DAY) : DAY := fun xc => aCons (t xc) (r xc)
theorem cay_cons {t : DEY} {r : DAY} (h : CEY X W e t) (hr : CAY X W es r) (hs : starEach (e :: es) X.env = (false, eval e X.env) :: starEach es X.env := by rfl) : CAY X W (e :: es) (yCons t r) := by
  obtain ⟨_, p, g⟩ := h.ok
  obtain ⟨_, pr, gr⟩ := hr.ok
  exact ⟨_, pa_cons p pr hs, fun F al rho mu σ H Q R xc S q l lx => g F al rho mu σ H _ _ xc S q (fun F1 al1 x mu1 v H1 E1 C1 r1 q1 =>
    gr F1 al1 rho mu1 σ H1 _ _ xc (S.of C1 E1.ex E1.pf) q1 (fun F2 al2 xs mu2 vs H2 E2 C2 r2 q2 => l F2 al2 (x :: xs) mu2 (v :: vs) H2 (E1.trans E2) C2 (.cons (r1.mono E2.ex E2.pf) r2) q2) (lx.trans E1)) lx⟩
def yTup (t : DAY) : DEY := fun xc => dTup (t xc)
theorem cey_tup {x1} {t : DAY} (h : CAY X W es t) : CEY X W (.Tuple es x1 pos) (yTup t) := by
  obtain ⟨_, p, g⟩ := h.ok
  refine ⟨_, pe_tup p, fun F al rho mu σ H Q R xc S q l lx => g F al rho mu σ H _ _ xc S q (fun F1 al1 xs mu1 vs H1 E1 C1 r1 q1 => ?_) lx⟩
  obtain ⟨ds, e, hl, q2⟩ := onDs_out q1
  have rl := r1.dats e
  refine ⟨by rw [rl.len]; exact line_of hl, fun p hp => ?_⟩
  exact l _ al1 _ mu1 _ _ (E1.trans (Ext.new hp C1.ex)) (C1.newF hp) (rv_tup upd_same (rl.mono (ex_upd (ex_none C1.ex hp)))) q2
def yBM (T : String) (t : DM) (to : DE) (ta : DAY) : DEY := fun xc => dBM T t to (ta xc)
theorem cey_bm {o : Expr} {to : DE} {T id : String} {name : Str} {apos cpos : Pos} {t : DM} {tr : DAY} (hm : MtD X T id t) (pa : PlainAttrs T) (slot : Slot T name id) (hty : typeOf (.builtin id) = pure (.type "method_descriptor")) (ho : CE X o to) (ha : CAY X W (e :: es) tr)
    (hbase : attributeBase o name X.env (eval o X.env) = eval o X.env := by rfl)
    (hfew : ((backTo cpos (starEach (e :: es) X.env)).all (fun x => !x.1) && (backToKw cpos (keywordEach [] X.env)).all (fun x => x.1.isSome)
      && decide ((e :: es).length + ([] : List Keyword).length + (if ([] : List Keyword).isEmpty then 0 else 1) < 30)) = true := by rfl)
    (hline : (apos.endLine == cpos.line) = true := by rfl) (hs : starEach (e :: es) X.env = (false, eval e X.env) :: starEach es X.env := by rfl) (hplain : (backTo cpos (starEach es X.env)).any (·.1) = false := by rfl) :
    CEY X W (.Call (.Attribute o name apos) (e :: es) [] cpos) (yBM T t to tr) := by
  obtain ⟨r, hr, g⟩ := hm.ok
  obtain ⟨_, po, go⟩ := ho.ok
  obtain ⟨_, pr, gr⟩ := ha.ok
  refine ⟨_, pe_bm pa slot hty hr po pr hbase hfew hline hs hplain, fun F al rho mu σ H Q R xc S q l lx => go F al rho mu σ H _ _ S q fun F1 al1 x mu1 v H1 E1 C1 r1 q1 => ?_⟩
  refine ⟨tyD_out C1 r1 q1.1, gr F1 al1 rho mu1 σ H1 _ _ xc (S.of C1 E1.ex E1.pf) q1.2 (fun F2 al2 xs mu2 vs H2 E2 C2 r2 q2 => ?_) (lx.trans E1)⟩
  exact g F2 al2 mu2 H2 x xs v vs Q R C2 (r1.mono E2.ex E2.pf) r2 q2 ((l.trans E1).trans E2)
/-! #### x = f(..) -/
def ySet (i : Nat) (te : DEY) : DSY := fun xc => dSet i (te xc)
theorem csy_set (i : Nat) {te : DEY} (hN : X.N.Nodup) (he : CEY X W e te) (hi : X.N[i]? = some x := by rfl) (hx : Loc X.env.scope x := by first | exact Or.inl rfl | exact Or.inr rfl) (hs : swapsWith e (some (.Name x pos')) pos.line X.env = pure false := by rfl) (hf : X.fn x = true ∨ X.env.scope.names.lookup x = some .local := by first | exact .inl rfl | exact .inr rfl | assumption) :
    CSY X W (.Assign [.Name x pos'] e pos) (ySet i te) := by
  obtain ⟨_, p, g⟩ := he.ok
  exact ⟨_, ps_set hN hi hx p hs hf, fun F al rho mu σ H D E xc S q l lx => g F al rho mu σ H _ _ xc S q (fun F1 al1 y mu1 v H1 e1 C1 r1 q1 => l.nx F1 al1 _ mu1 _ H1 e1 ((S.of C1 e1.ex e1.pf).set i r1) q1) lx⟩
/-! #### loops -/
def yWhile (c : DT) (tb : DSY) : DSY := fun xc => dWhile c (tb xc)
theorem csy_while {c : Expr} {body : List Stmt} {tc : DT} {tb : DSY} (hp : PassesOwn (model X.prog X.w) X.A X.env X.xe) (hc : CT X c tc) (hb : CSsY X W body tb) : CSY X W (.While c body [] pos) (yWhile tc tb) := by
  obtain ⟨_, p, g⟩ := hc.ok
  obtain ⟨_, pb, gb⟩ := hb.ok
  refine ⟨_, ps_while hp p pb, fun F al rho mu σ H D E xc S q l lx => ?_⟩
  obtain ⟨Wh, ⟨m0, w0⟩, turn⟩ := q
  refine ⟨fun m σ' H' => ∃ F' al' rho' mu', Ext F al H F' al' H' ∧ Sim F' al' rho' mu' σ' H' ∧ Wh m rho' mu', ⟨m0, F, al, rho, mu, Ext.refl, S, w0⟩, ?_⟩
  rintro m σ1 H1 ⟨F1, al1, rho1, mu1, e1, S1, w1⟩
  refine g F1 al1 rho1 mu1 σ1 H1 _ _ S1 (turn m rho1 mu1 w1) fun F2 al2 b mu2 H2 e2 C2 q2 => ?_
  have S2 := S1.of C2 e2.ex e2.pf
  cases b with
  | false => exact l.nx F2 al2 rho1 mu2 σ1 H2 (e1.trans e2) S2 q2
  | true =>
    refine ⟨fun σ' H' => ∃ m', m' < m ∧ ∃ F' al' rho' mu', Ext F al H F' al' H' ∧ Sim F' al' rho' mu' σ' H' ∧ Wh m' rho' mu', fun σ' H' h => h, ?_⟩
    refine gb F2 al2 rho1 mu2 σ1 H2 _ _ xc S2 q2 ⟨fun F3 al3 rho3 mu3 σ3 H3 e3 S3 q3 => ?_, (l.trans (e1.trans e2)).rt, fun F3 al3 rho3 mu3 σ3 H3 e3 S3 q3 => (l.trans (e1.trans e2)).nx F3 al3 rho3 mu3 σ3 H3 e3 S3 q3, fun F3 al3 rho3 mu3 σ3 H3 e3 S3 q3 => ?_⟩ (lx.trans (e1.trans e2))
    · obtain ⟨m', hm, w3⟩ := q3
      exact ⟨m', hm, F3, al3, rho3, mu3, (e1.trans e2).trans e3, S3, w3⟩
    · obtain ⟨m', hm, w3⟩ := q3
      exact ⟨m', hm, F3, al3, rho3, mu3, (e1.trans e2).trans e3, S3, w3⟩
/-! #### raise C(e, ..), its __init__ keeps the fields -/
def yRaiseI (C : Addr) (fs : List Str) (ta : DA) : DSY := fun xc _ rho mu => ta rho mu fun xs mu1 => onDs xs fun ds => (ds.length = fs.length ∧ ds.length ≤ 10) ∧ xc C fs.reverse ds.reverse rho mu1
theorem csy_raiseI {C : Addr} {ps fs : List Str} {tr : DA} (T : XMkI X.prog X.w X.K X.mg X.base x C ps fs) (hc : X.calm = true) (tk : Takes X W) (hr : Room 2 X.A) (ha : CA X (e :: es) tr) (hg : Gl X x := by rfl)
    (hdb : (x == ("__debug__" : Str)) = false := by decide) (he : starEach (e :: es) X.env = (false, eval e X.env) :: starEach es X.env := by rfl) (hpl : (backTo pos (starEach es X.env)).any (·.1) = false := by rfl) :
    CSY X W (.Raise (some (.Call (.Name x p) (e :: es) [] pos)) none pos') (yRaiseI C fs tr) := by
  obtain ⟨fI, fd, iC, tI, F1, hb⟩ := T.ok
  obtain ⟨_, pa, ga⟩ := ha.ok
  refine ⟨_, ps_raise hc tk (pmk_oex (ds := []) (dvs := []) T.T iC tI F1 hr hb .nil (fun _ _ _ _ _ _ _ h => h.elim) hg T.gC pa hdb he hpl), fun F al rho mu σ H D E xc S q l lx => ga F al rho mu σ H _ _ S q fun F1 al1 xs mu1 vs H1 E1 C1 r1 q1 => ?_⟩
  obtain ⟨ds, exs, ⟨hz1, hz2⟩, q2⟩ := onDs_out q1
  have rl : RepL F1 ds vs := r1.dats exs
  have hl : vs.length = ds.length := rl.len
  refine ⟨by omega, fun a hna => ⟨a, vs, by rw [List.append_nil], by omega, upd_same, fun dx H' n ne e1 e2 e3 => ⟨rfl, dx, _, e1, e2, by rw [upd_ne ne] at n; exact n, ?_⟩⟩⟩
  have hnd : H1 dx = none := by rw [upd_ne ne] at n; exact n
  have eH : upd (del H' a) dx (.xd (fs.zip vs).reverse) = upd H1 dx (.xd (fs.zip vs).reverse) := by
    funext b
    by_cases h1 : b = dx
    · rw [h1, upd_same, upd_same]
    · rw [upd_ne h1, upd_ne h1]
      by_cases h2 : b = a
      · rw [h2, del_same, hna]
      · rw [del_ne h2, e3 b h2 h1, upd_ne h2]
  rw [eH]
  have C2 := C1.newF (o := .xd (fs.zip vs).reverse) hnd
  have E2 := Ext.new (al := al1) (o := HO.xd (fs.zip vs).reverse) hnd C1.ex
  have rv : (fs.zip vs).reverse = fs.reverse.zip vs.reverse := by
    rw [List.zip_eq_zipWith, List.zip_eq_zipWith, List.reverse_zipWith (by omega)]
  refine lx _ al1 rho mu1 σ _ (.ref C) (some dx) C fs.reverse ds.reverse (E1.trans E2) ((S.of C1 E1.ex E1.pf).of C2 E2.ex E2.pf) ⟨rfl, vs.reverse, by rw [List.length_reverse, List.length_reverse, hz1], (RepL.rev rl).mono E2.ex, .inr ⟨dx, rfl, by rw [upd_same, rv]⟩⟩ q2
end
end Dx

namespace Dx
open PySem PySem.Spec PyProof.Rows L2 RT
open Evl (Ex)
variable [Tb]
/-- a raising def's own context, for its loops -/
theorem ownY {P : Program} {w : World} {K : PySem.W.Frag} {mg : Str → Option Value} {base : Heap} {N : List Str} {qual : Str} {sc : Scope} {f : Addr} {cdv : Value} {A : Around} {outer : List Env} {s : Shared} {H : Hp} {E : XK} :
    PassesOwn (model (cxOf (L2.CX P w) P w K mg base N qual sc f cdv A outer s H E).prog (cxOf (L2.CX P w) P w K mg base N qual sc f cdv A outer s H E).w) (cxOf (L2.CX P w) P w K mg base N qual sc f cdv A outer s H E).A (cxOf (L2.CX P w) P w K mg base N qual sc f cdv A outer s H E).env (cxOf (L2.CX P w) P w K mg base N qual sc f cdv A outer s H E).xe := passes_of rfl
/-! ### either of two promises -/
section
variable {X : Cx} {W : WX} {e : Expr} {es : List Expr} {st : Stmt} {body : List Stmt} {pos : Pos}
end
end Dx

namespace Dx
open PySem PySem.Spec PyProof.Rows L2
open Evl (Ex)
variable [Tb]
/-! ### {t1: n1, t2: n2, t3: n3}.get(e, n) -/
section
variable {X : Cx} {e f o o' i i' : Expr} {te to ti to' ti' : DE} {tr : DA} {pos apos dpos cpos pos' pos2 : Pos}
/-! ### l[i], l'[j] = a, b -/
def dStL (to ti : DE) (d : D) (K : Mu → Prop) (rho : Rho) (mu : Mu) : Prop := to rho mu fun o mu2 => ti rho mu2 fun z mu3 => onI z fun k => onLst o mu3 fun j ds => onSome (L2.ixN ds.length k) fun n => K (mu3.set j (.lst (ds.set n d)))
def dPut2L (to ti to' ti' : DE) (tr : DA) : DS := fun D rho mu => tr rho mu fun xs mu1 => onDs xs fun ds => match ds with
  | [d, d'] => dStL to ti d (fun mu2 => dStL to' ti' d' (fun mu3 => D.nx rho mu3) rho mu2) rho mu1
  | _ => False
theorem gs_stL {to ti : DE} {wo wi : TE} (go : GE wo to) (gi : GE wi ti) {F : Hp} {al : List Addr} {rho : Rho} {mu : Mu} {σ : L2.St} {H : Hp} {d : D} {v : V} {K : Mu → Prop} {R : L2.St → Hp → Prop} (S : Sim F al rho mu σ H) (rd : Rep F d v) (q : dStL to ti d K rho mu)
    (l : ∀ F' al' mu' H', Ext F al H F' al' H' → Sim F' al' rho mu' σ H' → K mu' → R σ H') : gSub wo wi rSetL v σ H R := by
  refine go F al rho mu σ H _ _ S q fun F2 al2 o mu2 w H2 e2 C2 r2 q2 => ?_
  refine gi F2 al2 rho mu2 σ H2 _ _ (S.of C2 e2.ex e2.pf) q2 fun F3 al3 z mu3 k H3 e3 C3 r3 q3 => ?_
  obtain ⟨n, ez, ek, q5⟩ := onI_out q3 r3
  obtain ⟨j, a, ds, us, ew, ha, hm, hn, hp, rl, q6⟩ := onLst_out C3 (r2.mono e3.ex e3.pf) q5
  obtain ⟨m, em, q7⟩ := onSome_out q6
  have rd3 : Rep F3 d v := (rd.mono e2.ex).mono e3.ex
  obtain ⟨c2, e4⟩ := C3.put (m' := .lst (ds.set m d)) (o := .lst (us.set m v)) ha hm rfl ⟨hn, _, upd_same, rl.setI rd3 m⟩
  have ee := (e2.trans e3).trans e4
  exact ⟨a, us, n, m, ew, ek, hp, by rw [rl.len]; exact em, l F3 al3 _ _ ee (S.of c2 ee.ex ee.pf) q7⟩
theorem cs_put2L {a b : Expr} {kt k2 : Nat} {pt pt2 ps ps2 : Pos} (hc : X.calm = true) (hr : CA X [a, b] tr) (ho : CE X o to) (hi : CE X i ti) (ho' : CE X o' to') (hi' : CE X i' ti')
    (hs : swapsWithSole [.Tuple [.Subscript o i ps, .Subscript o' i' ps2] kt pt] (.Tuple [a, b] k2 pt2) pos.line X.env = pure false := by rfl) (hw : swappedStores [.Tuple [.Subscript o i ps, .Subscript o' i' ps2] kt pt] (.Tuple [a, b] k2 pt2) X.env = pure none := by rfl)
    (h1 : (assignEach [.Tuple [.Subscript o i ps, .Subscript o' i' ps2] kt pt] X.env).map (·.2) = [assign (.Tuple [.Subscript o i ps, .Subscript o' i' ps2] kt pt) X.env] := by rfl)
    (hn : (assignEach [.Subscript o i ps, .Subscript o' i' ps2] X.env).length = 2 := by rfl) (hst : (assignEach [.Subscript o i ps, .Subscript o' i' ps2] X.env).findIdx? (·.1) = none := by rfl)
    (hs1 : (assignEach [.Subscript o i ps, .Subscript o' i' ps2] X.env).map (·.2) = assign (.Subscript o i ps) X.env :: (assignEach [.Subscript o' i' ps2] X.env).map (·.2) := by rfl)
    (hs2 : (assignEach [.Subscript o' i' ps2] X.env).map (·.2) = assign (.Subscript o' i' ps2) X.env :: (assignEach [] X.env).map (·.2) := by rfl)
    (ha : ∀ v, assign (.Subscript o i ps) X.env v = (do
      let ov ← holding [v] (eval o X.env)
      let iv ← holding [v, ov] (eval i X.env)
      PySem.standAt ps
      holding [v, ov, iv] (setItem ov iv v)
      release [v, ov, iv] []) := by intro _; rfl)
    (hb : ∀ v, assign (.Subscript o' i' ps2) X.env v = (do
      let ov ← holding [v] (eval o' X.env)
      let iv ← holding [v, ov] (eval i' X.env)
      PySem.standAt ps2
      holding [v, ov, iv] (setItem ov iv v)
      release [v, ov, iv] []) := by intro _; rfl) :
    CS X (.Assign [.Tuple [.Subscript o i ps, .Subscript o' i' ps2] kt pt] (.Tuple [a, b] k2 pt2) pos) (dPut2L to ti to' ti' tr) := by
  obtain ⟨_, pr, gr⟩ := hr.ok
  obtain ⟨_, po, go⟩ := ho.ok
  obtain ⟨_, pi, gi⟩ := hi.ok
  obtain ⟨_, po', go'⟩ := ho'.ok
  obtain ⟨_, pi', gi'⟩ := hi'.ok
  refine ⟨_, ps_asg (pe_tup pr) (pg_tup hc (pgs_cons (pg_sub po pi set_list ha) (pgs_cons (pg_sub po' pi' set_list hb) pgs_nil hs2) hs1) hn hst) hs hw h1, fun F al rho mu σ H D E S q l => gr F al rho mu σ H _ _ S q fun F1 al1 xs mu1 vs H1 e1 C1 r1 q1 => ?_⟩
  obtain ⟨ds, e, q2⟩ := onDs_out q1
  have rl := r1.dats e
  clear q1
  match ds, q2 with
  | [d, d'], q2 =>
    obtain ⟨v, w, ev, rd, rw'⟩ := rl.uncons
    obtain ⟨v', w2, ev2, rd', rn⟩ := rw'.uncons
    have := rn.unnil
    subst this
    subst ev2
    subst ev
    refine ⟨by show 2 ≤ sizeLine; decide, fun p hp => ?_⟩
    have E2 := Ext.new (al := al1) (o := HO.tup [v, v']) hp C1.ex
    have C2 := C1.newF (o := .tup [v, v']) hp
    have EE := e1.trans E2
    refine ⟨p, [v, v'], rfl, .inl (.inl upd_same), rfl, v, [v'], rfl, ?_⟩
    refine gs_stL go gi (S.of C2 EE.ex EE.pf) (rd.mono E2.ex) q2 fun F3 al3 mu3 H3 e3 S3 q3 => ?_
    refine ⟨v', [], rfl, ?_⟩
    refine gs_stL go' gi' S3 ((rd'.mono E2.ex).mono e3.ex) q3 fun F4 al4 mu4 H4 e4 S4 q4 => ?_
    exact ⟨rfl, l.nx F4 al4 rho mu4 σ H4 ((EE.trans e3).trans e4) S4 q4⟩
end
end Dx

namespace Dx
open PySem PySem.Spec PyProof.Rows L2
open Evl (Ex)
variable [Tb]
theorem spl_ne (c : Nat) : ∀ (l acc : List Nat), ∃ h t, TL.spl [c] 0 acc l = h :: t
  | [], acc => ⟨acc, [], TL.spl_nil _ _ _⟩
  | x :: l, acc => by
    cases h : TL.pre [c] (x :: l) with
    | true => exact ⟨acc, _, TL.spl_hit h⟩
    | false => rw [TL.spl_miss h]; exact spl_ne c l _
theorem pre_one {c x : Nat} {l : List Nat} : TL.pre [c] (x :: l) = decide (x = c) := by
  show (List.take 1 (x :: l) == [c]) = _
  simp
  by_cases h : x = c <;> simp [h]
theorem spl_joined (c : Nat) : ∀ (l acc : List Nat), joinC c (TL.spl [c] 0 acc l) = acc ++ l
  | [], acc => by rw [TL.spl_nil, joinC_one, List.append_nil]
  | x :: l, acc => by
    cases h : TL.pre [c] (x :: l) with
    | true =>
      have e : x = c := by rw [pre_one] at h; exact of_decide_eq_true h
      rw [TL.spl_hit h]
      obtain ⟨y, t, e2⟩ := spl_ne c l []
      have ih := spl_joined c l []
      show joinC c (acc :: TL.spl [c] 0 [] l) = _
      rw [e2] at ih ⊢
      rw [joinC_cons, ih, e]
      rfl
    | false => rw [TL.spl_miss h, spl_joined c l (acc ++ [x]), List.append_assoc]; rfl
theorem join_split (c : Nat) (l : List Nat) : joinC c (splitC c l) = l := spl_joined c l []
theorem spl_tot (c : Nat) : ∀ (l acc : List Nat), ((TL.spl [c] 0 acc l).map List.length).sum + (TL.spl [c] 0 acc l).length = acc.length + l.length + 1
  | [], acc => by rw [TL.spl_nil]; simp
  | x :: l, acc => by
    cases h : TL.pre [c] (x :: l) with
    | true =>
      rw [TL.spl_hit h]
      have ih := spl_tot c l []
      show ((acc :: TL.spl [c] 0 [] l).map List.length).sum + (acc :: TL.spl [c] 0 [] l).length = _
      rw [List.map_cons, List.sum_cons, List.length_cons, List.length_cons]
      rw [List.length_nil] at ih
      omega
    | false =>
      rw [TL.spl_miss h, spl_tot c l (acc ++ [x]), List.length_append, List.length_cons, List.length_cons, List.length_nil]
      omega
theorem spl_mem (c : Nat) {P : Nat → Prop} : ∀ (l acc : List Nat), (∀ x ∈ acc, P x) → (∀ x ∈ l, P x) → ∀ w ∈ TL.spl [c] 0 acc l, ∀ x ∈ w, P x
  | [], acc, h1, _, w, hw, x, hx => by
    rw [TL.spl_nil, List.mem_singleton] at hw
    exact h1 x (by rw [← hw]; exact hx)
  | y :: l, acc, h1, h2, w, hw, x, hx => by
    cases h : TL.pre [c] (y :: l) with
    | true =>
      rw [TL.spl_hit h] at hw
      rcases List.mem_cons.mp hw with e | hw
      · exact h1 x (by rw [← e]; exact hx)
      · exact spl_mem c l [] (fun z hz => by cases hz) (fun z hz => h2 z (by simp [hz])) w hw x hx
    | false =>
      rw [TL.spl_miss h] at hw
      exact spl_mem c l (acc ++ [y]) (fun z hz => by
        rcases List.mem_append.mp hz with hz | hz
        · exact h1 z hz
        · rw [List.mem_singleton.mp hz]; exact h2 y (by simp)) (fun z hz => h2 z (by simp [hz])) w hw x hx
end Dx

namespace Dx
open PySem PySem.Spec PyProof.Rows L2
open Evl (Ex)
variable [Tb]
def Ws33 (n m : Nat) (ws : List (List Nat)) : Prop := ws.length ≤ n ∧ ∀ w ∈ ws, w.length ≤ m ∧ ∀ c ∈ w, c < 1114112
end Dx

namespace Dx
open PySem PySem.Spec PyProof.Rows L2
open Evl (Ex)
variable [Tb]
theorem sum_mem {l : List (List Nat)} {w : List Nat} (h : w ∈ l) : w.length + l.length ≤ (l.map List.length).sum + l.length := by
  have : w.length ≤ (l.map List.length).sum := by
    induction l with
    | nil => cases h
    | cons a l ih =>
      rw [List.map_cons, List.sum_cons]
      rcases List.mem_cons.mp h with rfl | h
      · omega
      · have := ih h; omega
  omega
theorem Ws33.up {n n' m m' : Nat} {ws : List (List Nat)} (h : Ws33 n m ws) (h1 : n ≤ n') (h2 : m ≤ m') : Ws33 n' m' ws := ⟨Nat.le_trans h.1 h1, fun w hw => ⟨Nat.le_trans (h.2 w hw).1 h2, (h.2 w hw).2⟩⟩
end Dx

namespace Dx
open PySem PySem.Spec PyProof.Rows L2
open Evl (Ex)
variable [Tb]
def G33 (n k : Nat) (ws : List (List Nat)) : Prop := 0 < ws.length ∧ ws.length ≤ n ∧ ∀ w ∈ ws, w.length ≤ k ∧ ∀ c ∈ w, c < 1114112
theorem G33.parts {n k k' : Nat} {ws as bs cs : List (List Nat)} (h : G33 n k ws) (hk : k ≤ k') (l0 : 0 < (as ++ bs ++ cs).length) (l1 : (as ++ bs ++ cs).length ≤ n + 1) (ha : ∀ w ∈ as, w ∈ ws) (hb : ∀ w ∈ bs, w.length ≤ k' ∧ ∀ c ∈ w, c < 1114112) (hc : ∀ w ∈ cs, w ∈ ws) : G33 (n + 1) k' (as ++ bs ++ cs) :=
  ⟨l0, l1, fun w hw => by
    rcases List.mem_append.mp hw with hw | hw
    · rcases List.mem_append.mp hw with hw | hw
      · exact ⟨Nat.le_trans (h.2.2 w (ha w hw)).1 hk, (h.2.2 w (ha w hw)).2⟩
      · exact hb w hw
    · exact ⟨Nat.le_trans (h.2.2 w (hc w hw)).1 hk, (h.2.2 w (hc w hw)).2⟩⟩
theorem G33.up {n k n' k' : Nat} {ws : List (List Nat)} (h : G33 n k ws) (h1 : n ≤ n') (h2 : k ≤ k') : G33 n' k' ws := ⟨h.1, Nat.le_trans h.2.1 h1, fun w hw => ⟨Nat.le_trans (h.2.2 w hw).1 h2, (h.2.2 w hw).2⟩⟩
theorem G33.all {n k n' k' : Nat} {ws us : List (List Nat)} (h : G33 n k ws) (h2 : k ≤ k') (h0 : 0 < us.length) (h1 : us.length ≤ n') (hm : ∀ w ∈ us, w ∈ ws) : G33 n' k' us := ⟨h0, h1, fun w hw => ⟨Nat.le_trans (h.2.2 w (hm w hw)).1 h2, (h.2.2 w (hm w hw)).2⟩⟩
end Dx

namespace Dx
open PySem PySem.Spec PyProof.Rows L2 RT
open Evl (Ex)
/-! ### tuple(reversed(tuple)) -/
section
variable {prog : Program} {w : World} {A : Around} {E : Value → Shared → Prop} {s : Shared} {t : Addr} {items : Array Value}
end
variable [Tb]
section
variable {X : Cx}
end
end Dx

namespace Dx
open PySem PySem.Spec PyProof.Rows L2
open Evl (Ex)
variable [Tb]
/-! ### any machine, looked at -/
structure AM where
  L : List Nat
  b : Int
  E : List Int
  S : List (List Int)
def iRow (r : List Int) : D := .tup (r.map D.int)
def AM.toD (A : AM) : D := .tup [.str A.L, .int A.b, iRow A.E, .tup (A.S.map iRow)]
def thereB (n : Nat) (i : Int) : Bool := decide (0 ≤ i) && decide (i < (n : Int))
def rowB (l n : Nat) (r : List Int) : Bool := decide (r.length = l) && r.all (thereB n)
def endsB (n : Nat) (E : List Int) : Bool := decide (E.Pairwise (· < ·)) && E.all (thereB n)
def firstB (l n : Nat) : Nat → List (List Int) → Option Nat
  | _, [] => none
  | i, r :: rs => if rowB l n r = true then firstB l n (i + 1) rs else some i
def AM.bad (A : AM) : Option (List Nat × Nat) :=
  if isLet A.L = false then some (lit "letters", A.L.length)
  else if ¬ (1 ≤ A.S.length ∧ A.S.length ≤ 6) then some (lit "rooms", A.S.length)
  else if thereB A.S.length A.b = false then some (lit "begin", 0)
  else if endsB A.S.length A.E = false then some (lit "ends", A.E.length)
  else (firstB A.L.length A.S.length 0 A.S).map fun i => (lit "steps", i)
structure AM.Sz (A : AM) : Prop where
  L : A.L.length ≤ 100 ∧ ∀ c ∈ A.L, c < 1114112
  E : A.E.length ≤ 50
  S : A.S.length ≤ 50 ∧ ∀ r ∈ A.S, r.length ≤ 50
end Dx

namespace Dx
open PySem PySem.Spec PyProof.Rows L2
open Evl (Ex)
variable [Tb]
/-! ### sorted(set(list of single signs)), with its order -/
def fSortSetO (te : DE) : DF := fun rho mu Q => te rho mu fun x mu1 => onSome ((seqL mu1 x).bind toSs) fun ws => ws.length ≤ 4000 ∧ ∃ s : List Nat, ws = (s.map fun c => [c]) ∧ ∀ l, SignsIn s l → Q (.lst (l.map fun c => D.str [c])) mu1
section
variable {X : Cx} {e : Expr} {te : DE} {p p2 pos pos2 : Pos}
theorem cf_sortSetO (hc : X.calm = true) (m1 : X.mg "sorted" = none) (m2 : X.mg "set" = none) (he : CE X e te) (g1 : Gl X "sorted" := by rfl) (g2 : Gl X "set" := by rfl)
    (hs : starEach [e] X.env = (false, eval e X.env) :: starEach [] X.env := by rfl)
    (hs2 : starEach [.Call (.Name "set" p2) [e] [] pos2] X.env = (false, eval (.Call (.Name "set" p2) [e] [] pos2) X.env) :: starEach [] X.env := by rfl) :
    CF X (.Call (.Name "sorted" p) [.Call (.Name "set" p2) [e] [] pos2] [] pos) (fSortSetO te) := by
  obtain ⟨t, pe, ge⟩ := he.ok
  refine ⟨_, pe_callB (cr_sortedTx hc) g1 m1 b_sorted (pa_cons (pe_callTy (cr_setTs hc) g2 m2 b_set (pa_cons pe pa_nil hs) (by decide) (by decide) hs rfl) pa_nil hs2) (by decide) (by decide) hs2 rfl, fun F al rho mu σ H Q R S q l => ?_⟩
  refine ge F al rho mu σ H _ _ S q fun F1 al1 y mu1 v H1 E1 C1 r1 q1 => ?_
  obtain ⟨ws, hq0, h0, s, es, q2⟩ := onSome_out q1
  obtain ⟨ds, hd, hs⟩ := bind_out hq0
  obtain ⟨pa, us, e2, hH, rl⟩ := seqL_out C1 r1 hd
  have e3 := toSs_map hs
  subst e3
  subst e2
  have e4 := rl.strs
  subst e4
  refine ⟨pa, ws.map mkS, rfl, .inl (.inl hH), by rw [List.length_map]; exact h0, fun a l0 ha nd sg wl => ?_⟩
  rw [List.length_map] at wl
  refine ⟨a, l0, rfl, upd_same, Nat.le_trans wl h0, fun ys n pm so hn => ?_⟩
  subst es
  have all : ∀ y ∈ ys, ∃ c ∈ s, y = mkS [c] := fun y hy => by
    obtain ⟨z, hz, e⟩ := List.mem_map.mp ((sg y).mp (pm.mem_iff.mp hy))
    obtain ⟨c, hc, rfl⟩ := List.mem_map.mp hz
    exact ⟨c, hc, e.symm⟩
  have ey : ∃ cs : List Nat, ys = (cs.map fun c => [c]).map mkS := by
    clear pm so
    induction ys with
    | nil => exact ⟨[], rfl⟩
    | cons y r ih =>
      obtain ⟨z, _, e⟩ := all y (by simp)
      obtain ⟨zs, e2⟩ := ih fun z hz => all z (by simp [hz])
      exact ⟨z :: zs, by rw [e, e2]; rfl⟩
  obtain ⟨cs, rfl⟩ := ey
  have na : n ≠ a := fun z => by rw [z, upd_same] at hn; cases hn
  have hn1 : H1 n = none := by rw [upd_ne na] at hn; exact hn
  have Ea : Ext F1 al1 H1 F1 al1 (upd H1 a (SetTx X.prog X.w a l0)) := Ext.loose ha
  have Ca := C1.loose (o := SetTx X.prog X.w a l0) ha
  have nd2 : ((cs.map fun c => [c]).map mkS).Nodup := pm.nodup_iff.mpr nd
  have nd3 : cs.Nodup := by
    have : List.Pairwise (· ≠ ·) ((cs.map fun c => [c]).map mkS) := nd2
    rw [List.pairwise_map, List.pairwise_map] at this
    exact this.imp fun {a b} h e => h (by rw [e])
  have once : SignsIn s cs := by
    refine ⟨strict_of (sorted_one so) nd3, fun c => ⟨fun hc => ?_, fun hc => ?_⟩⟩
    · obtain ⟨d, hd, e⟩ := all (mkS [c]) (List.mem_map.mpr ⟨[c], List.mem_map.mpr ⟨c, hc, rfl⟩, rfl⟩)
      have := mkS_inj e
      have : c = d := by simpa using this
      rw [this]
      exact hd
    · have hm : mkS [c] ∈ l0 := (sg _).mpr (List.mem_map.mpr ⟨[c], List.mem_map.mpr ⟨c, hc, rfl⟩, rfl⟩)
      obtain ⟨w, hw, e⟩ := List.mem_map.mp (pm.mem_iff.mpr hm)
      obtain ⟨d, hd, rfl⟩ := List.mem_map.mp hw
      have := mkS_inj e
      have : d = c := by simpa using this
      rw [← this]
      exact hd
  have eds : (cs.map fun c => D.str [c]) = (cs.map fun c => [c]).map D.str := by rw [List.map_map]; rfl
  refine l F1 al1 (.lst ((cs.map fun c => [c]).map D.str)) mu1 n _ ((E1.trans Ea).trans (Ext.loose hn)) (Ca.loose hn) (Ca.not_al hn) (none_back (E1.dm n) hn1) rfl ⟨ex_none Ca.ex hn, _, upd_same, ?_⟩ (by rw [← eds]; exact q2 cs once)
  exact repl_strs _
end
end Dx

namespace Dx
open PySem PySem.Spec PyProof.Rows L2
open Evl (Ex)
variable [Tb]
end Dx

namespace Dx
open PySem PySem.Spec PyProof.Rows L2
open Evl (Ex)
variable [Tb]
def Row16 (k : Nat) (S : List (List Int)) : Prop := S.length ≤ 12 ∧ ∀ r ∈ S, r.length ≤ k
theorem Row16.put {k : Nat} {S : List (List Int)} {i : Nat} {r : List Int} (h : Row16 k S) (hi : i < S.length) (hr : r.length ≤ k + 1) : Row16 (k + 1) (S.take i ++ [r] ++ S.drop (i + 1)) := ⟨by rw [List.length_append, List.length_append, List.length_take, List.length_drop]; have := h.1; show min i S.length + 1 + _ ≤ 12; omega, fun x hx => by
    rcases List.mem_append.mp hx with hx | hx
    · rcases List.mem_append.mp hx with hx | hx
      · exact Nat.le_succ_of_le (h.2 x (List.mem_of_mem_take hx))
      · rw [List.mem_singleton.mp hx]; exact hr
    · exact Nat.le_succ_of_le (h.2 x (List.mem_of_mem_drop hx))⟩
end Dx

namespace Dx
open PySem PySem.Spec PyProof.Rows L2
open Evl (Ex)
variable [Tb]
def Let16 (k : Nat) (L : List Nat) : Prop := L.length ≤ k ∧ ∀ c ∈ L, c < 1114112
/-- a machine spoilt n times -/
structure AM.Zn (n : Nat) (A : AM) : Prop where
  L : Let16 (4 * 2 ^ n) A.L
  E : A.E.length ≤ 6 * 2 ^ n
  S : Row16 (3 + n) A.S
theorem AM.Zn.sz {n : Nat} {A : AM} (h : A.Zn n) (hn : n ≤ 3) : A.Sz := by
  have p : 2 ^ n ≤ 8 := Nat.pow_le_pow_right (by omega) hn
  refine ⟨⟨by have := h.L.1; omega, h.L.2⟩, by have := h.E; omega, ⟨by have := h.S.1; omega, fun r hr => by have := h.S.2 r hr; omega⟩⟩
end Dx

namespace Dx
open PySem PySem.Spec PyProof.Rows L2
open Evl (Ex)
variable [Tb]
/-! ### some cells are handed on: their numbers -/
def pickC (mu : Mu) : List Nat → Option Mu
  | [] => some []
  | j :: js => match mu[j]?, pickC mu js with
    | some m, some r => some (m :: r)
    | _, _ => none
def putJ (mu : Mu) : List Nat → Mu → Mu
  | j :: js, m :: ms => putJ (mu.set j m) js ms
  | _, _ => mu
def posJ : List Nat → Nat → Option Nat
  | [], _ => none
  | j :: js, k => if j = k then some 0 else match posJ js k with
    | some i => some (i + 1)
    | none => none
def mapJ (js : List Nat) : List DV → Option (List DV)
  | [] => some []
  | .dat d :: r => match mapJ js r with
    | some t => some (.dat d :: t)
    | none => none
  | .cel k :: r => match posJ js k, mapJ js r with
    | some i, some t => some (.cel i :: t)
    | _, _ => none
theorem putJ_len : ∀ {js : List Nat} {mu ms : Mu}, (putJ mu js ms).length = mu.length
  | [], mu, ms => by cases ms <;> rfl
  | j :: js, mu, [] => rfl
  | j :: js, mu, m :: ms => by
    show (putJ (mu.set j m) js ms).length = _
    rw [putJ_len, List.length_set]
theorem putJ_ne : ∀ {js : List Nat} {mu ms : Mu} {k : Nat}, k ∉ js → (putJ mu js ms)[k]? = mu[k]?
  | [], mu, ms, k, _ => by cases ms <;> rfl
  | j :: js, mu, [], k, _ => rfl
  | j :: js, mu, m :: ms, k, h => by
    show (putJ (mu.set j m) js ms)[k]? = _
    rw [putJ_ne (fun z => h (List.mem_cons_of_mem _ z)), List.getElem?_set_ne (fun z : j = k => h (by rw [z]; exact List.mem_cons_self ..))]
theorem putJ_at : ∀ {js : List Nat} {mu ms : Mu} {k i : Nat}, js.Nodup → js[i]? = some k → k < mu.length → i < ms.length → (putJ mu js ms)[k]? = ms[i]?
  | [], _, _, _, i, _, h, _, _ => by simp at h
  | j :: js, mu, [], k, i, _, _, _, h => by simp at h
  | j :: js, mu, m :: ms, k, 0, nd, h, hk, _ => by
    have e : j = k := by simpa using h
    subst e
    show (putJ (mu.set j m) js ms)[j]? = _
    rw [putJ_ne (List.nodup_cons.mp nd).1, List.getElem?_set_self hk]
    rfl
  | j :: js, mu, m :: ms, k, i + 1, nd, h, hk, hi => by
    have h' : js[i]? = some k := by simpa using h
    show (putJ (mu.set j m) js ms)[k]? = _
    rw [putJ_at (List.nodup_cons.mp nd).2 h' (by rw [List.length_set]; exact hk) (by simpa using hi)]
    simp
theorem posJ_at : ∀ {js : List Nat} {k i : Nat}, posJ js k = some i → js[i]? = some k
  | [], _, _, h => by cases h
  | j :: js, k, i, h => by
    have h : (if j = k then some 0 else match posJ js k with
      | some i => some (i + 1)
      | none => none) = some i := h
    by_cases c : j = k
    · rw [if_pos c] at h
      cases h
      rw [c]
      rfl
    · rw [if_neg c] at h
      cases q : posJ js k with
      | none =>
        rw [q] at h
        cases h
      | some n =>
        rw [q] at h
        cases h
        rw [List.getElem?_cons_succ]
        exact posJ_at q
theorem pickC_at {mu : Mu} : ∀ {js : List Nat} {ms : Mu}, pickC mu js = some ms → ms.length = js.length ∧ ∀ (i j : Nat), js[i]? = some j → ∃ m : MC, mu[j]? = some m ∧ ms[i]? = some m
  | [], ms, h => by
    cases h
    exact ⟨rfl, fun i j z => by simp at z⟩
  | j :: js, ms, h => by
    have h : (match mu[j]?, pickC mu js with
      | some m, some r => some (m :: r)
      | _, _ => none) = some ms := h
    cases q : mu[j]? with
    | none =>
      rw [q] at h
      cases h
    | some m =>
      cases q2 : pickC mu js with
      | none =>
        rw [q, q2] at h
        cases h
      | some r =>
        rw [q, q2] at h
        cases h
        obtain ⟨l, ih⟩ := pickC_at q2
        refine ⟨by rw [List.length_cons, List.length_cons, l], fun i k z => ?_⟩
        cases i with
        | zero =>
          have e : j = k := by simpa using z
          subst e
          exact ⟨m, q, rfl⟩
        | succ i =>
          have z' : js[i]? = some k := by simpa using z
          obtain ⟨m', h1, h2⟩ := ih i k z'
          exact ⟨m', h1, by simpa using h2⟩
/-- the addresses of the cells handed on -/
structure SubA (al : List Addr) (js : List Nat) (as : List Addr) : Prop where
  len : as.length = js.length
  at' : ∀ (i j : Nat), js[i]? = some j → ∃ a : Addr, al[j]? = some a ∧ as[i]? = some a
theorem SubA.back {al : List Addr} {js : List Nat} {as : List Addr} (S : SubA al js as) {i : Nat} {a : Addr} (h : as[i]? = some a) : ∃ j, js[i]? = some j ∧ al[j]? = some a := by
  have hi := (List.getElem?_eq_some_iff.mp h).1
  have hj : js[i]? = some (js[i]'(by rw [← S.len]; exact hi)) := List.getElem?_eq_getElem _
  obtain ⟨b, h1, h2⟩ := S.at' i _ hj
  rw [h] at h2
  cases h2
  exact ⟨_, hj, h1⟩
theorem inj_at {l : List Addr} (nd : l.Nodup) {i j : Nat} {a : Addr} (h1 : l[i]? = some a) (h2 : l[j]? = some a) : i = j := by
  have e1 := List.getElem?_eq_some_iff.mp h1
  have e2 := List.getElem?_eq_some_iff.mp h2
  exact (List.getElem_inj nd).mp (e1.2.trans e2.2.symm)
theorem inj_js {l : List Nat} (nd : l.Nodup) {i j : Nat} {a : Nat} (h1 : l[i]? = some a) (h2 : l[j]? = some a) : i = j := by
  have e1 := List.getElem?_eq_some_iff.mp h1
  have e2 := List.getElem?_eq_some_iff.mp h2
  exact (List.getElem_inj nd).mp (e1.2.trans e2.2.symm)
theorem Cels.sub {F H : Hp} {al : List Addr} {mu ms : Mu} {js : List Nat} (C : Cels F al mu H) (nd : js.Nodup) (h : pickC mu js = some ms) : ∃ as, SubA al js as ∧ Cels F as ms H := by
  obtain ⟨lm, hm⟩ := pickC_at h
  have lt : ∀ i (hi : i < js.length), js[i] < al.length := fun i hi => by
    obtain ⟨m, h1, _⟩ := hm i _ (List.getElem?_eq_getElem hi)
    rw [C.len]
    exact (List.getElem?_eq_some_iff.mp h1).1
  obtain ⟨as, eas⟩ : ∃ as : List Addr, as = js.map fun j => al[j]?.getD 0 := ⟨_, rfl⟩
  have S : SubA al js as := by
    subst eas
    refine ⟨by rw [List.length_map], fun i j hj => ?_⟩
    have hi := (List.getElem?_eq_some_iff.mp hj)
    have hl : j < al.length := by
      have := lt i hi.1
      rw [hi.2] at this
      exact this
    refine ⟨al[j], List.getElem?_eq_getElem hl, ?_⟩
    rw [List.getElem?_map, hj]
    show some (al[j]?.getD 0) = _
    rw [List.getElem?_eq_getElem hl]
    rfl
  refine ⟨as, S, C.ex, C.nt, C.tb, by rw [S.len, lm], ?_, fun i a m h1 h2 => ?_⟩
  · refine List.pairwise_iff_getElem.mpr fun i k hi hk hik e => ?_
    have e1 : as[i]? = some as[i] := List.getElem?_eq_getElem hi
    have e2 : as[k]? = some as[i] := by rw [List.getElem?_eq_getElem hk, e]
    obtain ⟨j1, a1, b1⟩ := S.back e1
    obtain ⟨j2, a2, b2⟩ := S.back e2
    have := inj_at C.nd b1 b2
    subst this
    have := inj_js nd a1 a2
    omega
  · obtain ⟨j, h3, h4⟩ := S.back h1
    obtain ⟨m', h5, h6⟩ := hm i j h3
    rw [h2] at h6
    cases h6
    exact C.cel j a m h4 h5
theorem SubA.reps {F : Hp} {al as : List Addr} {js : List Nat} (S : SubA al js as) : ∀ {xs : List DV} {vs : List V} {ys : List DV}, RepVs F al xs vs → mapJ js xs = some ys → RepVs F as ys vs
  | [], _, ys, .nil, h => by
    cases h
    exact .nil
  | .dat d :: xs, _, ys, .cons r t, h => by
    have h : (match mapJ js xs with
      | some t => some (DV.dat d :: t)
      | none => none) = some ys := h
    cases q : mapJ js xs with
    | none =>
      rw [q] at h
      cases h
    | some zs =>
      rw [q] at h
      cases h
      exact .cons (show Rep F d _ from r) (S.reps t q)
  | .cel k :: xs, _, ys, .cons r t, h => by
    have h : (match posJ js k, mapJ js xs with
      | some i, some t => some (DV.cel i :: t)
      | _, _ => none) = some ys := h
    cases p : posJ js k with
    | none =>
      rw [p] at h
      cases h
    | some i =>
      cases q : mapJ js xs with
      | none =>
        rw [p, q] at h
        cases h
      | some zs =>
        rw [p, q] at h
        cases h
        refine .cons ?_ (S.reps t q)
        obtain ⟨a, ha, ev⟩ := r
        obtain ⟨b, h1, h2⟩ := S.at' i k (posJ_at p)
        rw [ha] at h1
        cases h1
        exact ⟨a, h2, ev⟩
theorem Cels.overJ {F H F' H' : Hp} {al as : List Addr} {mu ms' : Mu} {js : List Nat} (C : Cels F al mu H) (nd : js.Nodup) (S : SubA al js as) (E : Ext F as H F' as H') (C' : Cels F' as ms' H') :
    Cels F' al (putJ mu js ms') H' ∧ Ext F al H F' al H' := by
  have sub : ∀ b, b ∈ as → b ∈ al := fun b hb => by
    obtain ⟨i, hi, e⟩ := List.getElem_of_mem hb
    obtain ⟨j, _, h2⟩ := S.back (i := i) (a := b) (by rw [List.getElem?_eq_getElem hi, e])
    exact List.mem_of_getElem? h2
  have nf : ∀ b, b ∉ as → H b ≠ none → F b = none → F' b = none := fun b hb h1 h2 => by
    cases q : F' b with
    | none => rfl
    | some u =>
      rcases E.nf b (by rw [q]; exact fun z => nomatch z) with w | w | w
      · exact absurd h2 w
      · exact absurd w h1
      · exact absurd w hb
  refine ⟨⟨C'.ex, C'.nt, C'.tb, by rw [putJ_len]; exact C.len, C.nd, fun k b x h1 h2 => ?_⟩, ⟨E.ex, List.prefix_refl _, fun b h => ?_, fun b h => .inl h, fun b o hb h => E.kp b o (fun z => hb (sub b z)) h, E.dm⟩⟩
  · by_cases hj : k ∈ js
    · obtain ⟨i, hi, e⟩ := List.getElem_of_mem hj
      have hk : js[i]? = some k := by rw [List.getElem?_eq_getElem hi, e]
      obtain ⟨a, q1, q2⟩ := S.at' i k hk
      rw [h1] at q1
      cases q1
      have hl : k < mu.length := by rw [← C.len]; exact (List.getElem?_eq_some_iff.mp h1).1
      have hm : i < ms'.length := by rw [← C'.len, S.len]; exact hi
      rw [putJ_at nd hk hl hm] at h2
      exact C'.cel i b x q2 h2
    · rw [putJ_ne hj] at h2
      have hb : b ∉ as := fun z => by
        obtain ⟨i, hi, e⟩ := List.getElem_of_mem z
        obtain ⟨j, g1, g2⟩ := S.back (i := i) (a := b) (by rw [List.getElem?_eq_getElem hi, e])
        have := inj_at C.nd h1 g2
        subst this
        exact hj (List.mem_of_getElem? g1)
      have ok := C.cel k b x h1 h2
      exact ok.keep E.ex (nf b hb ok.there) (fun u q nt => E.kp b u hb q nt) (E.dm b)
  · rcases E.nf b h with w | w | w
    · exact .inl w
    · exact .inr (.inl w)
    · exact .inr (.inr (sub b w))
/-! ### calls that are handed some cells -/
def backJ (js : List Nat) (mu : Mu) (Q : DQ) : RV → Mu → Prop := fun rv mu' => match rv with
  | .dv (.dat d) => Q (.dat d) (putJ mu js mu')
  | .new m => Q (.dat m.toD) (putJ mu js mu')
  | _ => False
def callJ (S : FSY) (xc : YF) (xs : List DV) (mu : Mu) (Q : DQ) : Prop := ∃ js ms ys, (js.Nodup ∧ pickC mu js = some ms ∧ mapJ js xs = some ys) ∧ S ys ms (backJ js mu Q) fun C ns ds mu' => xc C ns ds (putJ mu js mu')
theorem LKJ {F1 H1 F' H' : Hp} {al1 as : List Addr} {mu1 mu' : Mu} {js : List Nat} {rv : RV} {v : V} {Q : DQ} {R : VK} (l : LK F1 al1 H1 Q R) (C1 : Cels F1 al1 mu1 H1) (nd : js.Nodup) (S : SubA al1 js as)
    (E' : Ext F1 as H1 F' as H') (C' : Cels F' as mu' H') (rr : RetV F' as H' rv v) (fr : Fresh H1 rv v) (q' : backJ js mu1 Q rv mu') : R v H' := by
  obtain ⟨C3, E3⟩ := C1.overJ nd S E' C'
  cases rv with
  | dv x =>
    cases x with
    | cel k => exact q'.elim
    | dat d => exact l F' al1 (.dat d) _ v H' E3 C3 rr q'
  | new m2 =>
    obtain ⟨p, ev, na, dd, ok⟩ := rr
    obtain ⟨o, ho, rep⟩ := ok.frz dd
    have h0 : H1 p = none := fr p ev
    have hn := ok.un dd
    subst ev
    exact l _ al1 (.dat m2.toD) _ (.ref p) H' (E3.frz hn h0) (C3.frz ho hn (C1.not_al h0) (ok.frzN dd ho)) (rep _ (ex_upd hn) upd_same) q'
section
variable {X : Cx} {W : WX} {o e : Expr} {es : List Expr} {to : DE} {tr : DA} {m x : Str} {pos p apos : Pos} {C f : Addr} {fd : FuncData} {k : Nat} {ps : List Str} {S : FSY} {S0 : FS} {te : TE} {ua : TA} {sp : Sp}
theorem callJ_gy {F al rho} {mu1 : Mu} {σ : L2.St} {H : Hp} {Q : DQ} {R : VK} {xc : YC} {xs : List DV} {vs : List V} (St1 : Sim F al rho mu1 σ H) (r : RepVs F al xs vs) (q : callJ S (fun C ns ds mu' => xc C ns ds rho mu') xs mu1 Q) (l : LK F al H Q R) (lx : LY F al H xc W) : spY S vs H R (WE W σ) := by
  obtain ⟨js, ms, ys, ⟨nd, hp, hy⟩, q⟩ := q
  obtain ⟨as, SA, C2⟩ := St1.toCels.sub nd hp
  refine ⟨F, as, ys, ms, _, _, C2, SA.reps r hy, q, fun F' mu' rv v H' E' C' rr fr q' => LKJ l St1.toCels nd SA E' C' rr fr q', fun F' mu' H' cls d C0 ns ds E' C' xr q' => ?_⟩
  obtain ⟨C3, E3⟩ := St1.toCels.overJ nd SA E' C'
  exact lx F' al rho _ σ H' cls d C0 ns ds E3 (St1.of C3 E3.ex E3.pf) xr q'
/-- o.m(..) -/
def dMethJ (C : Addr) (m : Str) (S : FSY) (to : DE) (ta : DA) : DEY := fun xc rho mu Q => to rho mu fun x mu1 => onIns x mu1 fun _ C' ns _ => (C' = C ∧ m ∉ ns) ∧ ta rho mu1 fun xs mu2 => callJ S (fun C ns ds mu' => xc C ns ds rho mu') (x :: xs) mu2 Q
/-- a method that may raise, of the class at C, bundled -/
structure CalMY (P : Program) (w : World) (K : PySem.W.Frag) (mg : Str → Option Value) (base : Heap) (k : Nat) (C : Addr) (m : Str) (ps : List Str) (S : FSY) : Prop where
  ok : ∃ f fd, FnOk P w K mg base (L2.CX P w) k f fd ps (spY S) ∧ Cls K C ∧ Meth K C m f ∧ Binds K fd ps []
theorem DfM.calY {P : Program} {w : World} {K : PySem.W.Frag} {mg : Str → Option Value} {base : Heap} {C : Addr} {m qual : Str} {st : Stmt} {N ps : List Str} {S : FSY} {t : DSY} (k : Nat) (D : DfM K C m qual st ps) (sc : FnScope N ps (defScope st))
    (len : ∀ xs mu Q xc, S xs mu Q xc → xs.length = ps.length) (rd : BodyY t N S)
    (body : ∀ (f : Addr) (cdv : Value) (A : Around) (outer : List Env) (s : Shared) (H : Hp) (E : XK), Room k (A.deeper (envOfC qual (defScope st) s.heap.objs.size f cdv)) →
      CSsY (cxOf (L2.CX P w) P w K mg base N qual (defScope st) f cdv A outer s H E) (fun cls d _ H => E cls d H) (defBody st) t) : CalMY P w K mg base (k + 1) C m ps S := by
  obtain ⟨f, fd, F, c, me, b⟩ := D.ok
  exact ⟨f, fd, dfnY F sc len fun cdv A outer s H E hr => ⟨t, body f cdv A outer s H E hr, rd⟩, c, me, b⟩
def tMethY (C : Addr) (m : Str) (sp : Sp) (E : L2.St → XK) (ta : TE) (t : TA) : TE := fun σ H Q => ta σ H fun y H1 => ∃ a dx fs, y = .ref a ∧ H1 a = some (.ins C dx fs) ∧ fs.lookup m = none ∧ t σ H1 fun vs H2 =>
  sp (y :: vs) H2 Q (E σ)
theorem pe_methY {pl : Sem Bool} (po : PE X o te) (cl : Cls X.K C) (me : Meth X.K C m f) (G : FnOk X.prog X.w X.K X.mg X.base (L2.CX X.prog X.w) k f fd ps sp) (hr : Room k X.A) (bd : Binds X.K fd ps []) (tk : Takes X W) (pa : PA X (e :: es) ua)
    (h1 : starEach (e :: es) X.env = (false, eval e X.env) :: starEach es X.env) (h2 : (backTo pos (starEach es X.env)).any (·.1) = false)
    (h3 : eval (.Call (.Attribute o m apos) (e :: es) [] pos) X.env = (do
      let ov ← eval o X.env
      PySem.standAt apos.atName
      let (g, first) ← holding [ov] (getMethod ov m pl)
      callWith pos g first (backTo pos (starEach (e :: es) X.env)) (backToKw pos (keywordEach [] X.env)))) :
    PE X (.Call (.Attribute o m apos) (e :: es) [] pos) (tMethY C m sp (WE W) te ua) := by
  refine ⟨fun pins s σ H Q I hq => PySem.W.methodCall_KW (pl := pl) (thn (po.run pins s σ H _ I hq) fun u s1 hh => ?_) h3⟩
  obtain ⟨y, H1, I1, ry, a, dx, fs, ey, ea, lk, q⟩ := hh
  cases ey
  cases (show u = Value.ref a from ry)
  refine getmeth_ok I1 ea cl me lk (PySem.W.callWith_K (first := [.ref a]) (h₀ := X.base) I.ok.mod.kin me.kp (thn (pa.run pos pins s1 σ H1 _ I1 q) fun us s2 hh2 => ?_) h1 h2)
  obtain ⟨vs, H2, I2, rs, q2⟩ := hh2
  exact ⟨I2.kIn, run_fnS (E := WE W) (us := .ref a :: us) (vs := .ref a :: vs) G hr bd (passAt tk σ) I2 (.cons rfl rs) q2⟩
theorem pe_methY0 {pl : Sem Bool} (po : PE X o te) (cl : Cls X.K C) (me : Meth X.K C m f) (G : FnOk X.prog X.w X.K X.mg X.base (L2.CX X.prog X.w) k f fd ps sp) (hr : Room k X.A) (bd : Binds X.K fd ps []) (tk : Takes X W)
    (h3 : eval (.Call (.Attribute o m apos) [] [] pos) X.env = (do
      let ov ← eval o X.env
      PySem.standAt apos.atName
      let (g, first) ← holding [ov] (getMethod ov m pl)
      callWith pos g first (backTo pos (starEach [] X.env)) (backToKw pos (keywordEach [] X.env)))) :
    PE X (.Call (.Attribute o m apos) [] [] pos) (tMethY C m sp (WE W) te tNil) := by
  refine ⟨fun pins s σ H Q I hq => PySem.W.methodCall_KW (pl := pl) (thn (po.run pins s σ H _ I hq) fun u s1 hh => ?_) h3⟩
  obtain ⟨y, H1, I1, ry, a, dx, fs, ey, ea, lk, q⟩ := hh
  cases ey
  cases (show u = Value.ref a from ry)
  exact getmeth_ok I1 ea cl me lk (PySem.W.callWith_K0 (first := [.ref a]) I1.kIn me.kp (run_fnS (E := WE W) (us := [.ref a]) (vs := [.ref a]) G hr bd (passAt tk σ) I1 (.cons rfl .nil) q))
theorem gey_methJ (go : GE te to) (ga : GA ua tr) : GEY W (tMethY C m (spY S) (WE W) te ua) (dMethJ C m S to tr) := fun F al rho mu σ H Q R xc St q l lx =>
  go F al rho mu σ H _ _ St q fun F1 al1 x mu1 v H1 E1 C1 r1 q1 => by
    obtain ⟨j0, a0, C', ns, ds, dx, vs0, ex, ev, ha0, hm0, hn, hH, hl, rl, ⟨ec, hm⟩, q2⟩ := onIns_out C1 r1 q1
    subst ec
    refine ⟨a0, dx, _, ev, hH, zip_none hm, ga F1 al1 rho mu1 σ H1 _ _ (St.of C1 E1.ex E1.pf) q2 fun F2 al2 xs mu2 vs H2 E2 C2 r2 q3 => ?_⟩
    have E12 := E1.trans E2
    exact callJ_gy (St.of C2 E12.ex E12.pf) (.cons (r1.mono E2.ex E2.pf) r2) q3 (l.trans E12) (lx.trans E12)
theorem cmJ (G : CalMY X.prog X.w X.K X.mg X.base k C m ps S) (hr : Room k X.A) (tk : Takes X W) (ho : CE X o to) (ha : CA X (e :: es) tr) {pl : Sem Bool}
    (hst : starEach (e :: es) X.env = (false, eval e X.env) :: starEach es X.env := by rfl) (hpl : (backTo pos (starEach es X.env)).any (·.1) = false := by rfl)
    (ht : eval (.Call (.Attribute o m apos) (e :: es) [] pos) X.env = (do
      let ov ← eval o X.env
      PySem.standAt apos.atName
      let (g, first) ← holding [ov] (getMethod ov m pl)
      callWith pos g first (backTo pos (starEach (e :: es) X.env)) (backToKw pos (keywordEach [] X.env))) := by rfl) :
    CEY X W (.Call (.Attribute o m apos) (e :: es) [] pos) (dMethJ C m S to tr) := by
  obtain ⟨f, fd, F, c, me, b⟩ := G.ok
  obtain ⟨_, po, go⟩ := ho.ok
  obtain ⟨_, pa, ga⟩ := ha.ok
  exact ⟨_, pe_methY po c me F hr b tk pa hst hpl ht, gey_methJ go ga⟩
theorem ga_nil : GA tNil aNil := fun F al rho mu σ H Q R S q l => l F al [] mu [] H Ext.refl S.toCels .nil q
theorem cmJn (G : CalMY X.prog X.w X.K X.mg X.base k C m ps S) (hr : Room k X.A) (tk : Takes X W) (ho : CE X o to) {pl : Sem Bool}
    (ht : eval (.Call (.Attribute o m apos) [] [] pos) X.env = (do
      let ov ← eval o X.env
      PySem.standAt apos.atName
      let (g, first) ← holding [ov] (getMethod ov m pl)
      callWith pos g first (backTo pos (starEach [] X.env)) (backToKw pos (keywordEach [] X.env))) := by rfl) :
    CEY X W (.Call (.Attribute o m apos) [] [] pos) (dMethJ C m S to aNil) := by
  obtain ⟨f, fd, F, c, me, b⟩ := G.ok
  obtain ⟨_, po, go⟩ := ho.ok
  exact ⟨_, pe_methY0 po c me F hr b tk ht, gey_methJ go ga_nil⟩
end
/-! ### what never raises where it is asked so -/
theorem fnPlainY {P : Program} {w : World} {K : PySem.W.Frag} {mg : Str → Option Value} {base : Heap} {k : Nat} {f : Addr} {fd : FuncData} {ps : List Str} {S : FSY} {S0 : FS} (F : FnOk P w K mg base (L2.CX P w) k f fd ps (spY S))
    (h : ∀ xs mu Q, S0 xs mu Q → S xs mu Q fun _ _ _ _ => False) : FnOk P w K mg base CX0 k f fd ps (spOf S0) := by
  have imp : ∀ vs H Q E, spOf S0 vs H Q E → spY S vs H Q fun _ _ _ => False := fun vs H Q E hq => by
    obtain ⟨F0, al, xs, mu, Qd, C, r, q, l⟩ := hq
    exact ⟨F0, al, xs, mu, Qd, _, C, r, h _ _ _ q, l, fun _ _ _ _ _ _ _ _ _ _ _ z => z⟩
  refine ⟨fun vs H Q E hq => F.len vs H Q _ (imp vs H Q E hq), fun A outer s H args us vs Q E hr he hb hv hs => codeAny_mono (F.run A outer s H args us vs Q _ hr he hb hv (imp vs H Q E hs)) fun r s' hq => ?_⟩
  cases r with
  | ok fl => cases fl <;> exact hq
  | error e =>
    obtain ⟨a, B, H', cls, d, _, _, _, _, _, _, _, z⟩ := hq
    exact z.elim
section
variable {P : Program} {w : World} {K : PySem.W.Frag} {mg : Str → Option Value} {base : Heap} {k : Nat} {x m : Str} {C : Addr} {ps : List Str} {S : FSY} {S0 : FS}
theorem CalY.plain (G : CalY P w K mg base k x ps S) (h : ∀ xs mu Q, S0 xs mu Q → S xs mu Q fun _ _ _ _ => False) : Cal P w K mg base k x ps S0 :=
  let ⟨f, fd, g, m, kp, b⟩ := G.ok; ⟨f, fd, fnPlainY g h, m, kp, b⟩
theorem CalMY.plain (G : CalMY P w K mg base k C m ps S) (h : ∀ xs mu Q, S0 xs mu Q → S xs mu Q fun _ _ _ _ => False) : CalM P w K mg base k C m ps S0 :=
  let ⟨f, fd, g, c, me, b⟩ := G.ok; ⟨f, fd, fnPlainY g h, c, me, b⟩
end
/-! ### a new list whose making may raise -/
def yLstN (t : DAY) : DEY := fun xc => dNew (fLst (t xc))
theorem cey_lstN {X : Cx} {W : WX} {es : List Expr} {pos : Pos} {t : DAY} (h : CAY X W es t) : CEY X W (.List es pos) (yLstN t) := by
  obtain ⟨_, p, g⟩ := h.ok
  refine ⟨_, pe_lst p, fun F al rho mu σ H Q R xc S q l lx => g F al rho mu σ H _ _ xc S q (fun F1 al1 xs mu1 vs H1 E1 C1 r1 q1 => ?_) lx⟩
  obtain ⟨ds, e, hl, q2⟩ := onDs_out q1
  have rl := r1.dats e
  refine ⟨by rw [rl.len]; exact line_of hl, fun p hp => ?_⟩
  have ok : CelOk F1 (upd H1 p (.lst vs)) p (.lst ds) := ⟨ex_none C1.ex hp, vs, upd_same, rl⟩
  have na := C1.not_al hp
  have C2 := (C1.loose (o := .lst vs) hp).grow ok na
  refine l F1 (al1 ++ [p]) (.cel mu1.length) (mu1 ++ [.lst ds]) (.ref p) _ (E1.trans ?_) C2 ⟨p, by rw [← C1.len, List.getElem?_append_right (Nat.le_refl _), Nat.sub_self]; rfl, rfl⟩ q2
  have E2 := Ext.loose (F := F1) (al := al1) (o := HO.lst vs) hp
  exact ⟨E2.ex, List.prefix_append _ _, E2.nf, fun a ha => by
    rcases List.mem_append.mp ha with z | z
    · exact .inl z
    · rw [List.mem_singleton] at z
      subst z
      exact .inr hp, E2.kp, E2.dm⟩
end Dx

namespace Dx
open PySem PySem.Spec PyProof.Rows L2
open Evl (Ex)
variable [Tb]
/-! ### a machine's text, row by row, told or refused -/
def rowAs (w r : List Nat) : Option (List (List Nat)) := match splitC 32 r with
  | u :: ws => if u = w then some ws else none
  | [] => none
def numsAs (w : List Nat) (many : Option Nat) (r : List Nat) : Option (List Nat) := match rowAs w r with
  | some ws => if ws.all isNumW = true ∧ (many = none ∨ many = some ws.length) then some (ws.map valS) else none
  | none => none
def letsAs (r : List Nat) : Option (List Nat) := match rowAs (lit "letters") r with
  | some [L] => if areLet L = true then some L else none
  | _ => none
def rowN (n i : Nat) (r : List Nat) : Option (List Nat) := if i = 1 then numsAs (lit "begin") (some 1) r else if i = 2 then numsAs (lit "ends") none r else numsAs (lit "room") (some n) r
abbrev RdM := Except Nat (List (List Nat))
def preM (l : List (List Nat)) : RdM → RdM
  | .ok m => .ok (l ++ m)
  | .error e => .error e
theorem preM_pre (l m : List (List Nat)) (x : RdM) : preM l (preM m x) = preM (l ++ m) x := by
  cases x with
  | error e => rfl
  | ok v =>
    show Except.ok (l ++ (m ++ v)) = Except.ok ((l ++ m) ++ v)
    rw [List.append_assoc]
theorem preM_nil (x : RdM) : preM [] x = x := by
  cases x <;> rfl
def scanM (n : Nat) : Nat → List (List Nat) → RdM
  | _, [] => .ok []
  | i, r :: rs => match rowN n i r with
    | none => .error i
    | some ns => preM [ns] (scanM n (i + 1) rs)
def finM (k : Nat) (L : List Nat) : RdM → Except Nat Mach
  | .error i => .error i
  | .ok (b :: e :: s :: ss) => .ok ⟨L, b.headD 0, e, s :: ss⟩
  | .ok _ => .error k
def readM (rows : List (List Nat)) : Except Nat Mach := match rows with
  | [] => .error 0
  | r0 :: t => match letsAs r0 with
    | none => .error 0
    | some L => finM (t.length + 1) L (scanM L.length 1 t)
theorem scan_bad {n i : Nat} {r : List Nat} {rs : List (List Nat)} (h : rowN n i r = none) : scanM n i (r :: rs) = .error i := by
  rw [scanM, h]
theorem scan_good {n i : Nat} {r ns : List Nat} {rs : List (List Nat)} (h : rowN n i r = some ns) : scanM n i (r :: rs) = preM [ns] (scanM n (i + 1) rs) := by
  rw [scanM, h]
def TxtB (n : Nat) (t : List Nat) : Prop := t.length ≤ n ∧ ∀ c ∈ t, c < 1114112
def RowsB (n : Nat) (rows : List (List Nat)) : Prop := rows.length ≤ 1000000 ∧ ∀ r ∈ rows, TxtB n r
def atX : List Str := [mkS (lit "at")]
theorem rowAs_some {w r : List Nat} {ws : List (List Nat)} (h : rowAs w r = some ws) : splitC 32 r = w :: ws := by
  unfold rowAs at h
  cases q : splitC 32 r with
  | nil =>
    rw [q] at h
    cases h
  | cons u vs =>
    rw [q] at h
    simp only at h
    by_cases c : u = w
    · rw [if_pos c] at h
      cases h
      rw [c]
    · rw [if_neg c] at h
      cases h
theorem rowAs_none {w r : List Nat} {u : List Nat} {ws : List (List Nat)} (h : splitC 32 r = u :: ws) (n : u ≠ w) : rowAs w r = none := by
  unfold rowAs
  rw [h]
  simp only
  rw [if_neg n]
theorem rowAs_of {w r : List Nat} {ws : List (List Nat)} (h : splitC 32 r = w :: ws) : rowAs w r = some ws := by
  unfold rowAs
  rw [h]
  exact if_pos rfl
theorem split_cons {r : List Nat} (c : Nat) : ∃ u ws, splitC c r = u :: ws := by
  cases q : splitC c r with
  | nil =>
    have e := spl_tot c r []
    unfold splitC at q
    rw [q] at e
    simp at e
  | cons u ws => exact ⟨u, ws, rfl⟩
/-- the pieces of a text -/
theorem split_B {c n : Nat} {t : List Nat} (h : TxtB n t) : (splitC c t).length ≤ n + 1 ∧ ∀ w ∈ splitC c t, TxtB n w := by
  have e := spl_tot c t []
  rw [List.length_nil] at e
  have e : ((splitC c t).map List.length).sum + (splitC c t).length = 0 + t.length + 1 := e
  have h1 : ∀ w ∈ splitC c t, ∀ x ∈ w, x < 1114112 := spl_mem c t [] (by intro x hx; cases hx) h.2
  have hl := h.1
  refine ⟨by omega, fun w hw => ⟨?_, h1 w hw⟩⟩
  have h2 := sum_mem hw
  have h3 : 0 < (splitC c t).length := List.length_pos_of_mem hw
  omega
def S_mt_wordsY (C N : Addr) : FSY := fun xs mu Q xc => ∃ (rows : List (List Nat)) (at' : Nat) (w : List Nat), xs = [.cel 0, .dat (.str w)] ∧ mu = [mtC C rows at'] ∧ RowsB 10000 rows ∧ at' ≤ rows.length ∧ (∀ c ∈ w, c < 1114112) ∧
  (∀ r ws, rows[at']? = some r → rowAs w r = some ws → Q (.new (.lst (ws.map D.str))) [mtC C rows (at' + 1)]) ∧ ((∀ r, rows[at']? = some r → rowAs w r = none) → xc N atX [natD at'] [mtC C rows at'])
theorem len_MachineText_words_behindY {C N : Addr} : ∀ xs mu Q xc, S_mt_wordsY C N xs mu Q xc → xs.length = 2 := fun xs mu Q xc h => by
  obtain ⟨_, _, _, rfl, _⟩ := h
  rfl
def t_MachineText_words_behindY (a_MachineText a_NoText a_NoMachine a_NoFit a_NoName a_NoRow a_SpreadError : Addr) : DSY :=
  (ySeq (yIf (dTest (dOp dEq (dFld a_MachineText "at" (dVar 0)) (dCB dLen (aCons (dFld a_MachineText "rows" (dVar 0)) aNil))))
  (yRaiseI a_NoText ["at"] (aCons (dFld a_MachineText "at" (dVar 0)) aNil))
  (fun _ => dNext))
  (ySeq (fun _ => (dSet 2 (dFrz (fSplit 32 (dOp dIx (dFld a_MachineText "rows" (dVar 0)) (dFld a_MachineText "at" (dVar 0))) (aCons (dC (.str (lit " "))) aNil)))))
  (ySeq (yIf (dTest (dOp dNe (dOp dIx (dVar 2) (dC (.int 0))) (dVar 1)))
  (yRaiseI a_NoText ["at"] (aCons (dFld a_MachineText "at" (dVar 0)) aNil))
  (fun _ => dNext))
  (fun _ => (dSeq (dFldAug a_MachineText "at" (dVar 0) (dC (.int 1)))
  (dRetF (fSl (dVar 2) (oSome (dC (.int 1))) oNone)))))))
theorem rd_MachineText_words_behindY {a_MachineText a_NoText a_NoMachine a_NoFit a_NoName a_NoRow a_SpreadError : Addr} : BodyY (t_MachineText_words_behindY a_MachineText a_NoText a_NoMachine a_NoFit a_NoName a_NoRow a_SpreadError) ["self", "word", "words"] (S_mt_wordsY a_MachineText a_NoText) := fun xs mu Q xc h => by
  obtain ⟨rows, at', w, rfl, rfl, hb, ha, hc, g, b⟩ := h
  refine ⟨rfl, ?_⟩
  refine on_some fld_at ?_
  refine ⟨rfl, ?_⟩
  refine on_some fld_rows ?_
  refine ⟨okD_int _ _, okD_int _ _, ?_⟩
  refine itI (fun h => ?_) (fun h => ?_)
  · refine ⟨rfl, ?_⟩
    refine on_some fld_at ?_
    refine ⟨⟨rfl, by show 1 ≤ 10; omega⟩, ?_⟩
    refine b fun r hr => ?_
    have := (List.getElem?_eq_some_iff.mp hr).1
    rw [List.length_map] at h
    omega
  · rw [List.length_map] at h
    have hlt : at' < rows.length := by omega
    obtain ⟨r, hr⟩ : ∃ r, rows[at']? = some r := ⟨_, List.getElem?_eq_getElem hlt⟩
    have rb := hb.2 r (List.mem_of_getElem? hr)
    obtain ⟨u, ws, hs⟩ := split_cons (r := r) 32
    have ub := (split_B (c := 32) rb).2 u (by rw [hs]; exact List.mem_cons_self ..)
    refine ⟨rfl, ?_⟩
    refine on_some fld_rows ?_
    refine ⟨rfl, ?_⟩
    refine on_some fld_at ?_
    refine on_some (a := D.str r) (L2.atI_nat (by rw [List.getElem?_map, hr]; rfl)) ?_
    refine ⟨rfl, ?_⟩
    refine ⟨⟨lit_sp, by decide, Nat.le_trans rb.1 (by decide)⟩, ?_⟩
    rw [hs]
    refine on_some (a := D.str u) (atI_head _ _) ?_
    refine ⟨okS ub.2, okS hc, ?_⟩
    rw [eqD_str]
    by_cases e : u = w
    · rw [decide_eq_true e]
      refine ⟨rfl, ?_⟩
      refine on_some fld_at ?_
      refine ⟨⟨rfl, by decide⟩, ?_⟩
      show retQ 1 Q (.new (.lst (cut (D.str u :: ws.map D.str) (some 1) none))) [MC.ins a_MachineText (putNs "at" ["rows", "at"]) (putDs "at" (.int ((at' : Int) + 1)) ["rows", "at"] [_, natD at'])]
      rw [put_at, cut_tail, natD_succ]
      exact g r ws hr (rowAs_of (e ▸ hs))
    · rw [decide_eq_false e]
      refine ⟨rfl, ?_⟩
      refine on_some fld_at ?_
      refine ⟨⟨rfl, by show 1 ≤ 10; omega⟩, ?_⟩
      refine b fun r' hr' => ?_
      rw [hr] at hr'
      cases hr'
      exact rowAs_none hs e
def S_mt_needY (C N : Addr) : FSY := fun xs mu Q xc => ∃ (rows : List (List Nat)) (at' : Nat) (b : Bool), xs = [.cel 0, .dat (.bl b)] ∧ mu = [mtC C rows (at' + 1)] ∧
  (b = true → Q (.dv (.dat .non)) [mtC C rows (at' + 1)]) ∧ (b = false → xc N atX [natD at'] [mtC C rows (at' + 1)])
theorem len_MachineText_needY {C N : Addr} : ∀ xs mu Q xc, S_mt_needY C N xs mu Q xc → xs.length = 2 := fun xs mu Q xc h => by
  obtain ⟨_, _, _, rfl, _⟩ := h
  rfl
def t_MachineText_needY (a_MachineText a_NoText a_NoMachine a_NoFit a_NoName a_NoRow a_SpreadError : Addr) : DSY :=
  (yIf (dNot (dTest (dVar 1)))
  (yRaiseI a_NoText ["at"] (aCons (dOp dSub (dFld a_MachineText "at" (dVar 0)) (dC (.int 1))) aNil))
  (fun _ => dNext))
theorem rd_MachineText_needY {a_MachineText a_NoText a_NoMachine a_NoFit a_NoName a_NoRow a_SpreadError : Addr} : BodyY (t_MachineText_needY a_MachineText a_NoText a_NoMachine a_NoFit a_NoName a_NoRow a_SpreadError) ["self", "fits"] (S_mt_needY a_MachineText a_NoText) := fun xs mu Q xc h => by
  obtain ⟨rows, at', b, rfl, rfl, g, x⟩ := h
  cases b with
  | true => exact g rfl
  | false =>
    refine ⟨rfl, ?_⟩
    refine on_some fld_at ?_
    refine ⟨⟨rfl, by show 1 ≤ 10; omega⟩, ?_⟩
    have e : D.int (((at' + 1 : Nat) : Int) - 1) = natD at' := by
      show D.int _ = D.int _
      congr 1
      omega
    have x2 := x rfl
    rw [← e] at x2
    exact x2
def S_mt_lettersY (C N : Addr) : FSY := fun xs mu Q xc => ∃ (rows : List (List Nat)) (at' : Nat), xs = [.cel 0] ∧ mu = [mtC C rows at'] ∧ RowsB 4000 rows ∧ at' ≤ rows.length ∧
  (∀ r L, rows[at']? = some r → letsAs r = some L → Q (.dv (.dat (.str L))) [mtC C rows (at' + 1)]) ∧ ((∀ r, rows[at']? = some r → letsAs r = none) → ∀ m, xc N atX [natD at'] [m])
theorem len_MachineText_lettersY {C N : Addr} : ∀ xs mu Q xc, S_mt_lettersY C N xs mu Q xc → xs.length = 1 := fun xs mu Q xc h => by
  obtain ⟨_, _, rfl, _⟩ := h
  rfl
theorem RowsB.up {n m : Nat} {rows : List (List Nat)} (h : RowsB n rows) (l : n ≤ m) : RowsB m rows := ⟨h.1, fun r hr => ⟨Nat.le_trans (h.2 r hr).1 l, (h.2 r hr).2⟩⟩
theorem lit_letters_ok : ∀ c ∈ lit "letters", c < 1114112 := by decide +kernel
theorem rowAs_B {n : Nat} {w r : List Nat} {ws : List (List Nat)} (hb : TxtB n r) (h : rowAs w r = some ws) : ws.length ≤ n ∧ ∀ v ∈ ws, TxtB n v := by
  have hs := rowAs_some h
  have q := split_B (c := 32) hb
  rw [hs] at q
  exact ⟨by have := q.1; rw [List.length_cons] at this; omega, fun v hv => q.2 v (List.mem_cons_of_mem _ hv)⟩
def t_MachineText_lettersY (a_MachineText a_NoText a_NoMachine a_NoFit a_NoName a_NoRow a_SpreadError : Addr) : DSY :=
  (ySeq (ySet 1 (dMethJ a_MachineText "words_behind" (S_mt_wordsY a_MachineText a_NoText) (dVar 0) (aCons (dC (.str (lit "letters"))) aNil)))
  (ySeq (yDrop (dMethJ a_MachineText "need" (S_mt_needY a_MachineText a_NoText) (dVar 0) (aCons (dAndV (dOp dEq (dCB dLen (aCons (dVar 1) aNil)) (dC (.int 1))) (dCall S_are_letters (aCons (dOp dIx (dVar 1) (dC (.int 0))) aNil))) aNil)))
  (fun _ => (dRet (dOp dIx (dVar 1) (dC (.int 0)))))))
theorem rd_MachineText_lettersY {a_MachineText a_NoText a_NoMachine a_NoFit a_NoName a_NoRow a_SpreadError : Addr} : BodyY (t_MachineText_lettersY a_MachineText a_NoText a_NoMachine a_NoFit a_NoName a_NoRow a_SpreadError) ["self", "words"] (S_mt_lettersY a_MachineText a_NoText) := fun xs mu Q xc h => by
  obtain ⟨rows, at', rfl, rfl, hb, ha, g, b⟩ := h
  refine ⟨⟨rfl, nd_words⟩, ?_⟩
  refine ⟨[0], _, _, ⟨by decide, rfl, rfl⟩, rows, at', lit "letters", rfl, rfl, hb.up (by decide), ha, lit_letters_ok, fun r ws hr hw => ?_, fun hn => ?_⟩
  · obtain ⟨wl, wb⟩ := rowAs_B (hb.2 r (List.mem_of_getElem? hr)) hw
    refine ⟨⟨rfl, nd_need⟩, ?_⟩
    have fin : ∀ bb : Bool, (bb = true → ∃ L, ws = [L] ∧ areLet L = true) → (bb = false → letsAs r = none) →
        callJ (S_mt_needY a_MachineText a_NoText) (fun C ns ds mu' => xc C ns ds (mu'.take 1)) [.cel 0, .dat (.bl bb)] [mtC a_MachineText rows (at' + 1)]
          (fun _ mu2 => dRet (dOp dIx (dVar 1) (dC (.int 0))) { nx := fun _ mu' => retQ 1 Q (.dv (.dat .non)) mu', rt := retQ 1 Q } [some (.cel 0), some (.dat (.lst (ws.map D.str)))] mu2) := fun bb h1 h2 => by
      refine ⟨[0], _, _, ⟨by decide, rfl, rfl⟩, rows, at', bb, rfl, rfl, fun hT => ?_, fun hF => ?_⟩
      · obtain ⟨L, rfl, hL⟩ := h1 hT
        refine g r L hr ?_
        unfold letsAs
        rw [hw]
        simp only
        rw [if_pos hL]
      · exact b (fun r' hr' => by rw [hr] at hr'; cases hr'; exact h2 hF) _
    refine ⟨okD_int _ _, okD_int _ _, ?_⟩
    rw [eqD_int, List.length_map]
    by_cases e : ((ws.length : Nat) : Int) = 1
    · rw [decide_eq_true e]
      obtain ⟨L, rfl⟩ : ∃ L, ws = [L] := by
        cases ws with
        | nil => simp at e
        | cons L t =>
          cases t with
          | nil => exact ⟨L, rfl⟩
          | cons x y => rw [List.length_cons, List.length_cons] at e; omega
      have Lb := wb L (List.mem_cons_self ..)
      refine ⟨rfl, L, rfl, rfl, Lb.1, Lb.2, ?_⟩
      refine fin (areLet L) (fun hL => ⟨L, rfl, hL⟩) fun hL => ?_
      unfold letsAs
      rw [hw]
      simp only
      rw [if_neg (by rw [hL]; decide)]
    · rw [decide_eq_false e]
      refine fin false (fun z => by cases z) fun _ => ?_
      unfold letsAs
      rw [hw]
      cases ws with
      | nil => rfl
      | cons x t =>
        cases t with
        | nil => exact absurd rfl e
        | cons y t => rfl
  · refine b (fun r hr => ?_) _
    unfold letsAs
    rw [hn r hr]
def manyD : Option Nat → D
  | none => .non
  | some n => natD n
def S_mt_numbersY (C N : Addr) : FSY := fun xs mu Q xc => ∃ (rows : List (List Nat)) (at' : Nat) (w : List Nat) (many : Option Nat), xs = [.cel 0, .dat (.str w), .dat (manyD many)] ∧ mu = [mtC C rows at'] ∧ RowsB 10000 rows ∧ at' ≤ rows.length ∧ (∀ c ∈ w, c < 1114112) ∧
  (∀ r ns, rows[at']? = some r → numsAs w many r = some ns → Q (.dv (.dat (.tup (ns.map natD)))) [mtC C rows (at' + 1)]) ∧ ((∀ r, rows[at']? = some r → numsAs w many r = none) → ∀ m, xc N atX [natD at'] [m])
theorem len_MachineText_numbersY {C N : Addr} : ∀ xs mu Q xc, S_mt_numbersY C N xs mu Q xc → xs.length = 3 := fun xs mu Q xc h => by
  obtain ⟨_, _, _, _, rfl, _⟩ := h
  rfl
theorem many_in (m : Option Nat) (k : Nat) : inD (manyD m) [.non, .int (k : Int)] = decide (m = none ∨ m = some k) := by
  cases m with
  | none => rfl
  | some n =>
    show (false || (((k : Nat) : Int) == ((n : Nat) : Int) || false)) = decide (some n = none ∨ some n = some k)
    rw [Bool.false_or, Bool.or_false, Bool.beq_eq_decide_eq, decide_eq_decide]
    refine ⟨fun h => .inr (congrArg some (by omega)), fun h => ?_⟩
    rcases h with z | z
    · cases z
    · have := Option.some.inj z
      omega
theorem isNum_parts {w : List Nat} (h : isNumW w = true) : w.all isFig = true ∧ w ≠ [] ∧ w.length ≤ 3 := by
  unfold isNumW at h
  rw [Bool.and_eq_true, Bool.and_eq_true, Bool.and_eq_true, decide_eq_true_eq, decide_eq_true_eq] at h
  obtain ⟨⟨⟨h1, h2⟩, h3⟩, _⟩ := h
  refine ⟨?_, fun z => ?_, h2⟩
  · rw [List.all_eq_true] at h3 ⊢
    exact fun c hc => by rw [← fig_iff]; exact h3 c hc
  · rw [z] at h1
    simp at h1
def t_MachineText_numbersY (a_MachineText a_NoText a_NoMachine a_NoFit a_NoName a_NoRow a_SpreadError : Addr) : DSY :=
  (ySeq (ySet 3 (dMethJ a_MachineText "words_behind" (S_mt_wordsY a_MachineText a_NoText) (dVar 0) (aCons (dVar 1) aNil)))
  (ySeq (yDrop (dMethJ a_MachineText "need" (S_mt_needY a_MachineText a_NoText) (dVar 0) (aCons (dAndV (dCB dAll (aCons (dFrz (fLc (iDat (dVar 3)) (dgN 4) dYes (dCall S_is_number (aCons (dVar 4) aNil)) [4])) aNil)) (dOp (dInQ false) (dVar 2) (dTup (aCons (dC .non) (aCons (dCB dLen (aCons (dVar 3) aNil)) aNil))))) aNil)))
  (fun _ => (dRet (dCB dTupOf (aCons (dFrz (fLc (iDat (dVar 3)) (dgN 4) dYes (dCB dIntS (aCons (dVar 4) aNil)) [4])) aNil))))))
theorem rd_MachineText_numbersY {a_MachineText a_NoText a_NoMachine a_NoFit a_NoName a_NoRow a_SpreadError : Addr} : BodyY (t_MachineText_numbersY a_MachineText a_NoText a_NoMachine a_NoFit a_NoName a_NoRow a_SpreadError) ["self", "word", "many", "words", "one"] (S_mt_numbersY a_MachineText a_NoText) := fun xs mu Q xc h => by
  obtain ⟨rows, at', w, many, rfl, rfl, hb, ha, hc, g, b⟩ := h
  refine ⟨⟨rfl, nd_words⟩, ?_⟩
  refine ⟨[0], _, _, ⟨by decide, rfl, rfl⟩, rows, at', w, rfl, rfl, hb, ha, hc, fun r ws hr hw => ?_, fun hn => ?_⟩
  · obtain ⟨wl, wb⟩ := rowAs_B (hb.2 r (List.mem_of_getElem? hr)) hw
    refine ⟨⟨rfl, nd_need⟩, ?_⟩
    have fin : ∀ bb : Bool, (bb = true → ws.all isNumW = true ∧ (many = none ∨ many = some ws.length)) → (bb = false → ¬ (ws.all isNumW = true ∧ (many = none ∨ many = some ws.length))) →
        callJ (S_mt_needY a_MachineText a_NoText) (fun C ns ds mu' => xc C ns ds (mu'.take 1)) [.cel 0, .dat (.bl bb)] [mtC a_MachineText rows (at' + 1)]
          (fun _ mu2 => dRet (dCB dTupOf (aCons (dFrz (fLc (iDat (dVar 3)) (dgN 4) dYes (dCB dIntS (aCons (dVar 4) aNil)) [4])) aNil)) { nx := fun _ mu' => retQ 1 Q (.dv (.dat .non)) mu', rt := retQ 1 Q } [some (.cel 0), some (.dat (.str w)), some (.dat (manyD many)), some (.dat (.lst (ws.map D.str))), none] mu2) := fun bb h1 h2 => by
      refine ⟨[0], _, _, ⟨by decide, rfl, rfl⟩, rows, at', bb, rfl, rfl, fun hT => ?_, fun hF => ?_⟩
      · obtain ⟨hN, hm⟩ := h1 hT
        have hnum : ∀ v ∈ ws, isNumW v = true := List.all_eq_true.mp hN
        refine comp_list (xs := ws) (v := fun v => natD (valS v)) (by omega) (fun v hv G k => ?_) ?_
        · obtain ⟨p1, p2, p3⟩ := isNum_parts (hnum v hv)
          exact ⟨⟨p1, p2, by omega⟩, k⟩
        have e : (ws.map fun v => natD (valS v)) = (ws.map valS).map natD := by rw [List.map_map]; rfl
        show retQ 1 Q (.dv (.dat (.tup (ws.map fun v => natD (valS v))))) _
        rw [e]
        refine g r (ws.map valS) hr ?_
        unfold numsAs
        rw [hw]
        simp only
        rw [if_pos ⟨hN, hm⟩]
      · refine b (fun r' hr' => ?_) _
        rw [hr] at hr'
        cases hr'
        unfold numsAs
        rw [hw]
        simp only
        rw [if_neg (h2 hF)]
    refine comp_list (xs := ws) (v := fun v => D.bl (isNumW v)) (by omega) (fun v hv G k => ?_) ?_
    · have vb := wb v hv
      exact ⟨rfl, v, rfl, rfl, Nat.le_trans vb.1 (by decide), vb.2, k⟩
    have e : (ws.map fun v => D.bl (isNumW v)) = (ws.map isNumW).map D.bl := by rw [List.map_map]; rfl
    show dAll [.dat (.lst (ws.map fun v => D.bl (isNumW v)))] _ _
    rw [e]
    refine all_bl (l := ws) (f := isNumW) ?_
    cases hN : ws.all isNumW with
    | false => exact fin false (fun z => by cases z) fun _ z => by rw [hN] at z; exact absurd z.1 (by decide)
    | true =>
      refine ⟨by show 2 ≤ 1000; omega, ?_⟩
      have q2 := fin (inD (manyD many) [.non, .int ((ws.map D.str).length : Nat)]) (fun z => by
        rw [List.length_map, many_in, decide_eq_true_eq] at z
        exact ⟨hN, z⟩) fun z y => by
        rw [List.length_map, many_in, decide_eq_false_iff_not] at z
        exact z y.2
      cases many with
      | none => exact ⟨rfl, rfl, q2⟩
      | some n => exact ⟨rfl, rfl, q2⟩
  · refine b (fun r hr => ?_) _
    unfold numsAs
    rw [hn r hr]
theorem scanM_at {n i : Nat} {rows : List (List Nat)} : rows[i]? = none → scanM n i (rows.drop i) = .ok [] := fun h => by
  rw [List.drop_eq_nil_of_le (List.getElem?_eq_none_iff.mp h)]
  rfl
def S_read_machineY (N : Addr) : FSY := fun xs mu Q xc => ∃ t : List Nat, xs = [.dat (.str t)] ∧ mu = [] ∧ t.length ≤ 10000 ∧ RowsB 4000 (splitC 10 t) ∧ (∀ M, readM (splitC 10 t) = .ok M → Q (.dv (.dat M.toD)) []) ∧ (∀ i, readM (splitC 10 t) = .error i → xc N atX [natD i] [])
theorem len_read_machineY {N : Addr} : ∀ xs mu Q xc, S_read_machineY N xs mu Q xc → xs.length = 1 := fun xs mu Q xc h => by
  obtain ⟨_, rfl, _⟩ := h
  rfl
theorem dropc {rows : List (List Nat)} {i : Nat} {r : List Nat} (h : rows[i]? = some r) : rows.drop i = r :: rows.drop (i + 1) := by
  have hl := (List.getElem?_eq_some_iff.mp h)
  rw [List.drop_eq_getElem_cons hl.1, hl.2]
theorem numsAs_one {w : List Nat} {r ns : List Nat} {n : Nat} (h : numsAs w (some n) r = some ns) : ns.length = n := by
  unfold numsAs at h
  cases q : rowAs w r with
  | none =>
    rw [q] at h
    cases h
  | some ws =>
    rw [q] at h
    simp only at h
    by_cases c : ws.all isNumW = true ∧ (some n = none ∨ some n = some ws.length)
    · rw [if_pos c] at h
      cases h
      rw [List.length_map]
      rcases c.2 with z | z
      · cases z
      · exact (Option.some.inj z).symm
    · rw [if_neg c] at h
      cases h
def t_read_machineY (a_MachineText a_NoText a_NoMachine a_NoFit a_NoName a_NoRow a_SpreadError : Addr) : DSY :=
  (ySeq (fun _ => (dSet 1 (dMake a_MachineText (S_mt_init a_MachineText) (aCons (dVar 0) aNil))))
  (ySeq (ySet 2 (dMethJ a_MachineText "letters" (S_mt_lettersY a_MachineText a_NoText) (dVar 1) aNil))
  (ySeq (ySet 3 (dMethJ a_MachineText "numbers" (S_mt_numbersY a_MachineText a_NoText) (dVar 1) (aCons (dC (.str (lit "begin"))) (aCons (dC (.int 1)) aNil))))
  (ySeq (ySet 4 (dMethJ a_MachineText "numbers" (S_mt_numbersY a_MachineText a_NoText) (dVar 1) (aCons (dC (.str (lit "ends"))) (aCons (dC .non) aNil))))
  (ySeq (ySet 5 (yLstN (yCons (dMethJ a_MachineText "numbers" (S_mt_numbersY a_MachineText a_NoText) (dVar 1) (aCons (dC (.str (lit "room"))) (aCons (dCB dLen (aCons (dVar 2) aNil)) aNil))) (fun _ => aNil))))
  (ySeq (yWhile (dTest (dOp dLt (dFld a_MachineText "at" (dVar 1)) (dCB dLen (aCons (dFld a_MachineText "rows" (dVar 1)) aNil))))
  (yDrop (yBM "list" dAppend (dVar 5) (yCons (dMethJ a_MachineText "numbers" (S_mt_numbersY a_MachineText a_NoText) (dVar 1) (aCons (dC (.str (lit "room"))) (aCons (dCB dLen (aCons (dVar 2) aNil)) aNil))) (fun _ => aNil)))))
  (fun _ => (dRet (dTup (aCons (dVar 2) (aCons (dOp dIx (dVar 3) (dC (.int 0))) (aCons (dVar 4) (aCons (dCB dTupOf (aCons (dVar 5) aNil)) aNil)))))))))))))
theorem rd_read_machineY {a_MachineText a_NoText a_NoMachine a_NoFit a_NoName a_NoRow a_SpreadError : Addr} : BodyY (t_read_machineY a_MachineText a_NoText a_NoMachine a_NoFit a_NoName a_NoRow a_SpreadError) ["text", "reading", "letters", "begin", "ends", "steps"] (S_read_machineY a_NoText) := fun xs mu Q xc h => by
  obtain ⟨t, rfl, rfl, hl, hb, g, b⟩ := h
  refine ⟨rfl, t, rfl, rfl, by omega, ?_⟩
  generalize splitC 10 t = rows at hb g b
  have hb1 : RowsB 10000 rows := hb.up (by decide)
  refine ⟨⟨rfl, nd_letters⟩, ?_⟩
  refine ⟨[0], _, _, ⟨by decide, rfl, rfl⟩, rows, 0, rfl, rfl, hb, Nat.zero_le _, fun r0 L h0 hL => ?_, fun hn m => ?_⟩
  rotate_left
  · refine b 0 ?_
    cases rows with
    | nil => rfl
    | cons r0 t =>
      show (match letsAs r0 with | none => _ | some L => _) = _
      rw [hn r0 rfl]
  obtain ⟨t0, rfl⟩ : ∃ t0, rows = r0 :: t0 := by
    cases rows with
    | nil => cases h0
    | cons r t0 => cases h0; exact ⟨t0, rfl⟩
  have hr : readM (r0 :: t0) = finM (t0.length + 1) L (scanM L.length 1 t0) := by
    show (match letsAs r0 with | none => _ | some L => _) = _
    rw [hL]
  rw [hr] at g b
  clear hr
  have ed : t0 = (r0 :: t0).drop 1 := rfl
  rw [ed] at g b
  have el : ((r0 :: t0).drop 1).length + 1 = (r0 :: t0).length := by simp
  rw [el] at g b
  generalize hrows : r0 :: t0 = rows at *
  clear ed el
  have l1 : 1 ≤ rows.length := by rw [← hrows]; simp
  -- a row that can't stand there, or none
  have bad : ∀ (i : Nat) (pre : List (List Nat)), scanM L.length 1 (rows.drop 1) = preM pre (scanM L.length i (rows.drop i)) → i ≤ rows.length → pre.length + 1 = i → i ≤ 3 → (∀ r, rows[i]? = some r → rowN L.length i r = none) → xc a_NoText atX [natD i] [] := fun i pre e hi hp h3 hn => by
    refine b i ?_
    rw [e]
    cases q : rows[i]? with
    | none =>
      have ei : i = rows.length := by have := List.getElem?_eq_none_iff.mp q; omega
      rw [scanM_at q]
      show finM rows.length L (.ok (pre ++ [])) = _
      rw [List.append_nil, ← ei]
      match pre, hp with
      | [], _ => rfl
      | [a], _ => rfl
      | [a, c], _ => rfl
      | a :: c :: d :: r, hp => rw [List.length_cons, List.length_cons, List.length_cons] at hp; omega
    | some r =>
      rw [dropc q, scan_bad (hn r q)]
      rfl
  refine ⟨⟨rfl, nd_numbers⟩, ?_⟩
  refine ⟨[0], _, _, ⟨by decide, rfl, rfl⟩, rows, 1, lit "begin", some 1, rfl, rfl, hb1, l1, small_lits.1, fun r1 ns1 h1 n1 => ?_, fun hn m => ?_⟩
  rotate_left
  · exact bad 1 [] (preM_nil _).symm l1 rfl (by decide) fun r hr => hn r hr
  have s1 : scanM L.length 1 (rows.drop 1) = preM [ns1] (scanM L.length 2 (rows.drop 2)) := by rw [dropc h1]; exact scan_good n1
  have l2 : 2 ≤ rows.length := (List.getElem?_eq_some_iff.mp h1).1
  refine ⟨⟨rfl, nd_numbers⟩, ?_⟩
  refine ⟨[0], _, _, ⟨by decide, rfl, rfl⟩, rows, 2, lit "ends", none, rfl, rfl, hb1, l2, small_lits.2.1, fun r2 ns2 h2 n2 => ?_, fun hn m => ?_⟩
  rotate_left
  · exact bad 2 [ns1] s1 l2 rfl (by decide) fun r hr => hn r hr
  have s2 : scanM L.length 1 (rows.drop 1) = preM [ns1, ns2] (scanM L.length 3 (rows.drop 3)) := by
    rw [s1, dropc h2, scan_good (show rowN L.length 2 r2 = some ns2 from n2), preM_pre]
    rfl
  have l3 : 3 ≤ rows.length := (List.getElem?_eq_some_iff.mp h2).1
  refine ⟨⟨rfl, nd_numbers⟩, ?_⟩
  have Lb : L.length ≤ 1000000 := by
    have r0b := hb.2 r0 (by rw [← hrows]; exact List.mem_cons_self ..)
    unfold letsAs at hL
    cases q : rowAs (lit "letters") r0 with
    | none =>
      rw [q] at hL
      cases hL
    | some ws =>
      rw [q] at hL
      match ws, q, hL with
      | [L'], q, hL =>
        simp only at hL
        by_cases c : areLet L' = true
        · rw [if_pos c] at hL
          cases hL
          exact Nat.le_trans ((rowAs_B r0b q).2 L (List.mem_cons_self ..)).1 (by decide)
        · rw [if_neg c] at hL
          cases hL
      | [], q, hL => cases hL
      | a :: c :: d, q, hL => cases hL
  refine ⟨by omega, ?_⟩
  refine ⟨[0], _, _, ⟨by decide, rfl, rfl⟩, rows, 3, lit "room", some L.length, rfl, rfl, hb1, l3, small_lits.2.2, fun r3 ns3 h3 n3 => ?_, fun hn m => ?_⟩
  rotate_left
  · exact bad 3 [ns1, ns2] s2 l3 rfl (by decide) fun r hr => hn r hr
  have s3 : scanM L.length 1 (rows.drop 1) = preM ([ns1, ns2] ++ [ns3]) (scanM L.length 4 (rows.drop 4)) := by
    rw [s2, dropc h3, scan_good (show rowN L.length 3 r3 = some ns3 from n3), preM_pre]
  have l4 : 4 ≤ rows.length := (List.getElem?_eq_some_iff.mp h3).1
  refine ⟨by show 1 ≤ 1000; omega, ?_⟩
  refine ⟨fun m rho mu => ∃ (k : Nat) (ss : List (List Nat)), ss ≠ [] ∧ k = 3 + ss.length ∧ k ≤ rows.length ∧ m = rows.length - k ∧ scanM L.length 1 (rows.drop 1) = preM ([ns1, ns2] ++ ss) (scanM L.length k (rows.drop k)) ∧ rho = [some (.dat (.str t)), some (.cel 0), some (.dat (.str L)), some (.dat (.tup (ns1.map natD))), some (.dat (.tup (ns2.map natD))), some (.cel 1)] ∧
    mu = [mtC a_MachineText rows k, .lst (ss.map rowD)], ⟨_, 4, [ns3], by simp, rfl, l4, rfl, s3, rfl, rfl⟩, fun m rho mu hw => ?_⟩
  obtain ⟨k, ss, hne, hk, hkl, rfl, hs, rfl, rfl⟩ := hw
  refine ⟨rfl, ?_⟩
  refine on_some fld_at ?_
  refine ⟨rfl, ?_⟩
  refine on_some fld_rows ?_
  show if decide (((k : Nat) : Int) < (((rows.map D.str).length : Nat) : Int)) = true then _ else _
  rw [List.length_map]
  have rl := hb.1
  refine itD (p := ((k : Nat) : Int) < ((rows.length : Nat) : Int)) (fun h => ?_) (fun h => ?_)
  · refine ⟨rfl, ?_⟩
    refine ⟨⟨rfl, nd_numbers⟩, ?_⟩
    refine ⟨by omega, ?_⟩
    refine ⟨[0], _, _, ⟨by decide, rfl, rfl⟩, rows, k, lit "room", some L.length, rfl, rfl, hb1, hkl, small_lits.2.2, fun r ns hr hn => ?_, fun hn m => ?_⟩
    · refine ⟨by rw [List.length_map]; omega, ?_⟩
      have rn : rowN L.length k r = some ns := by
        unfold rowN
        rw [if_neg (by omega), if_neg (by omega)]
        exact hn
      refine ⟨rows.length - (k + 1), by omega, k + 1, ss ++ [ns], by simp, by rw [List.length_append]; show k + 1 = 3 + (ss.length + 1); omega, by omega, rfl, ?_, rfl, ?_⟩
      · rw [hs, dropc hr, scan_good rn, preM_pre, List.append_assoc]
      · rw [List.map_append]
        rfl
    · refine b k ?_
      obtain ⟨r, hr⟩ : ∃ r, rows[k]? = some r := ⟨_, List.getElem?_eq_getElem (by omega)⟩
      have rn : rowN L.length k r = none := by
        unfold rowN
        rw [if_neg (by omega), if_neg (by omega)]
        exact hn r hr
      rw [hs, dropc hr, scan_bad rn]
      rfl
  · have ek : k = rows.length := by omega
    have e1 : ns1.length = 1 := numsAs_one n1
    obtain ⟨x, rfl⟩ : ∃ x, ns1 = [x] := by
      match ns1, e1 with
      | [x], _ => exact ⟨x, rfl⟩
    obtain ⟨s, ss', rfl⟩ := List.exists_cons_of_ne_nil hne
    refine ⟨by show 4 ≤ 1000; omega, ?_⟩
    refine g ⟨L, x, ns2, s :: ss'⟩ ?_
    rw [hs, List.drop_eq_nil_of_le (by omega)]
    show finM rows.length L (.ok (([[x], ns2] ++ s :: ss') ++ [])) = _
    rw [List.append_nil]
    rfl

end Dx

namespace Dx
open PySem PySem.Spec PyProof.Rows L2
open Evl (Ex)
variable [Tb]
/-! ### a machine's text, by the law; texts spoilt -/
def numR (w : List Nat) : D := if isNumW w = true then natD (valS w) else .non
def S_w_number_in : FS := fun xs mu Q => ∃ w : List Nat, xs = [.dat (.str w)] ∧ mu = [] ∧ TxtB 4000 w ∧ Q (.dv (.dat (numR w))) []
theorem len_w_number_in : ∀ xs mu Q, S_w_number_in xs mu Q → xs.length = 1 := fun xs mu Q h => by
  obtain ⟨_, rfl, _⟩ := h
  rfl
theorem numR_no {w : List Nat} (h : isNumW w = false) : numR w = .non := by
  unfold numR
  rw [if_neg (by rw [h]; decide)]
theorem numR_yes {w : List Nat} (h : isNumW w = true) : numR w = natD (valS w) := by
  unfold numR
  rw [if_pos h]
theorem figs_none (w : List Nat) : (w.filter fun c => !decide (c ∈ figs)) = [] ↔ w.all (fun c => decide (c ∈ figs)) = true := by
  rw [List.filter_eq_nil_iff, List.all_eq_true]
  constructor
  · intro h c hc
    have := h c hc
    simpa using this
  · intro h c hc
    have := h c hc
    simpa using this
def t_w_number_in : DS :=
  (dSeq (dIf (dOr (dNot (dTest (dChain dLt dLt (dC (.int 0)) (dCB dLen (aCons (dVar 0) aNil)) (dC (.int 4))))) (dTest (dOp dNe (dFrz (fLc (iStrD (dVar 0)) (dgN 1) (dTest (dOp (dInQ true) (dVar 1) (dC (.str (lit "0123456789"))))) (dVar 1) [1])) (dFrz (fLst aNil)))))
  (dRet (dC .non))
  dNext)
  (dSeq (dIf (dAnd (dTest (dOp dGt (dCB dLen (aCons (dVar 0) aNil)) (dC (.int 1)))) (dTest (dOp dEq (dOp dIx (dVar 0) (dC (.int 0))) (dC (.str (lit "0"))))))
  (dRet (dC .non))
  dNext)
  (dRet (dCB dIntS (aCons (dVar 0) aNil)))))
theorem rd_w_number_in : Body t_w_number_in ["_law_word", "_law_sign_here"] S_w_number_in := fun xs mu Q h => by
  obtain ⟨w, rfl, rfl, ⟨wl, wc⟩, q⟩ := h
  have bad : isNumW w = false → retQ 0 Q (.dv (.dat .non)) [] := fun e => by rw [numR_no e] at q; exact q
  refine ⟨by omega, ?_⟩
  refine itD (p := (0 : Int) < ((w.length : Nat) : Int)) (fun h1 => ?_) (fun h1 => ?_)
  rotate_left
  · exact bad (by unfold isNumW; rw [decide_eq_false (p := 1 ≤ w.length) (by omega), Bool.false_and, Bool.false_and, Bool.false_and])
  refine itN (p := ((w.length : Nat) : Int) < 4) (fun h2 => ?_) (fun h2 => ?_)
  · exact bad (by unfold isNumW; rw [decide_eq_false (p := w.length ≤ 3) (by omega), Bool.and_false, Bool.false_and, Bool.false_and])
  have e1 : (decide (1 ≤ w.length) && decide (w.length ≤ 3)) = true := by rw [decide_eq_true (p := 1 ≤ w.length) (by omega), decide_eq_true (p := w.length ≤ 3) (by omega)]; rfl
  refine comp_filt (xs := w) (v := fun c => D.str [c]) (p := fun c => !decide (c ∈ figs)) (by omega) (fun c hc G N g n => ?_) ?_
  · exact it2 (fun z => g z) (fun z => n z)
  refine ⟨by decide, ?_⟩
  have fl := List.length_filter_le (fun c => !decide (c ∈ figs)) w
  refine ⟨okD_signs (by omega) (fun c hc => wc c (List.mem_filter.mp hc).1), by decide, ?_⟩
  change if (!(eqD (.lst ((w.filter fun c => !decide (c ∈ figs)).map fun c => D.str [c])) (.lst []))) = true then _ else _
  rw [show eqD (.lst ((w.filter fun c => !decide (c ∈ figs)).map fun c => D.str [c])) (.lst []) = decide ((w.filter fun c => !decide (c ∈ figs)) = []) from eqD_signs _ []]
  refine itN (p := (w.filter fun c => !decide (c ∈ figs)) = []) (fun h3 => ?_) (fun h3 => ?_)
  · refine bad ?_
    have : w.all (fun c => decide (c ∈ figs)) = false := by
      cases q9 : w.all fun c => decide (c ∈ figs) with
      | false => rfl
      | true => exact absurd ((figs_none w).mpr q9) h3
    unfold isNumW
    rw [this, Bool.and_false, Bool.false_and]
  have ha := (figs_none w).mp h3
  have e2 : isNumW w = (decide (w = lit "0") || !decide (w.head? = some 48)) := by
    unfold isNumW
    rw [e1, ha]
    rfl
  have num : isNumW w = true → dCB dIntS (aCons (dVar 0) aNil) [some (.dat (.str w)), none] [] fun x mu1 => retQ 0 Q (.dv x) mu1 := fun z => by
    obtain ⟨p1, p2, p3⟩ := isNum_parts z
    rw [numR_yes z] at q
    exact ⟨⟨p1, p2, by omega⟩, q⟩
  refine ⟨by omega, ?_⟩
  obtain ⟨c, r, rfl⟩ : ∃ c r, w = c :: r := by
    cases w with
    | nil => simp at h1
    | cons c r => exact ⟨c, r, rfl⟩
  refine itD (p := (((c :: r).length : Nat) : Int) > 1) (fun h4 => ?_) (fun h4 => ?_)
  · refine ⟨by omega, ?_⟩
    refine on_some (a := c) (atI_head _ _) ?_
    refine ⟨okS (fun d hd => by rw [List.mem_singleton.mp hd]; exact wc c (List.mem_cons_self ..)), ok0 _, ?_⟩
    rw [eqD_str, lit_0]
    have n0 : ¬ c :: r = lit "0" := fun z => by rw [z, lit_0] at h4; simp at h4
    rw [decide_eq_false n0, Bool.false_or] at e2
    refine itD (p := [c] = [48]) (fun h5 => ?_) (fun h5 => ?_)
    · refine bad ?_
      rw [e2, decide_eq_true (by rw [List.cons.inj h5 |>.1]; rfl)]
      rfl
    · refine num ?_
      rw [e2, decide_eq_false (fun z => h5 (by simpa using z))]
      rfl
  · refine num ?_
    have r0 : r = [] := by
      cases r with
      | nil => rfl
      | cons d r => rw [List.length_cons, List.length_cons] at h4; omega
    subst r0
    rw [e2, lit_0]
    by_cases z : c = 48
    · rw [z]; rfl
    · rw [decide_eq_false (p := ([c] : List Nat).head? = some 48) (fun y => z (Option.some.inj y))]
      simp
def S_w_are_letters19 : FS := fun xs mu Q => ∃ w : List Nat, xs = [.dat (.str w)] ∧ mu = [] ∧ TxtB 4000 w ∧ Q (.dv (.dat (.bl (areLet w)))) []
theorem len_w_are_letters19 : ∀ xs mu Q, S_w_are_letters19 xs mu Q → xs.length = 1 := fun xs mu Q h => by
  obtain ⟨_, rfl, _⟩ := h
  rfl
theorem let19 {w l : List Nat} (h : SignsIn (w.filter fun c => decide (c ∈ abc)) l) (n : w ≠ []) : decide (l = w) = areLet w := by
  unfold areLet isWord
  rw [decide_eq_true (List.length_pos_iff.mpr n), Bool.true_and]
  refine Bool.eq_iff_iff.mpr ?_
  rw [Bool.and_eq_true, decide_eq_true_eq, decide_eq_true_eq, List.all_eq_true]
  constructor
  · rintro rfl
    exact ⟨fun c hc => decide_eq_true (of_decide_eq_true (List.mem_filter.mp ((h.2 c).mp hc)).2), h.1⟩
  · rintro ⟨h3, h4⟩
    have e : (w.filter fun c => decide (c ∈ abc)) = w := List.filter_eq_self.mpr h3
    rw [e] at h
    exact (signs_self h).mpr h4
def t_w_are_letters19 : DS :=
  (dSeq (dSet 1 (dFrz (fLc (iStrD (dVar 0)) (dgN 2) (dTest (dOp (dInQ false) (dVar 2) (dC (.str (lit "abcdefghijklmnopqrstuvwxyz"))))) (dVar 2) [2])))
  (dRet (dAndV (dOp dNe (dVar 0) (dC (.str (lit "")))) (dOp dEq (dBM "str" dJoin (dC (.str (lit ""))) (aCons (dFrz (fSortSetO (dVar 1))) aNil)) (dVar 0)))))
theorem rd_w_are_letters19 : Body t_w_are_letters19 ["_law_word", "_law_small", "_law_sign_here"] S_w_are_letters19 := fun xs mu Q h => by
  obtain ⟨w, rfl, rfl, ⟨wl, wc⟩, q⟩ := h
  unfold t_w_are_letters19
  generalize hz0 : lit "abcdefghijklmnopqrstuvwxyz" = z
  have hz : z = abc := hz0.symm
  refine comp_filt (xs := w) (v := fun c => D.str [c]) (p := fun c => decide (c ∈ z)) (by omega) (fun c hc G N g n => ?_) ?_
  · exact it2 (fun y => g y) (fun y => n y)
  subst hz
  have fl := List.length_filter_le (fun c => decide (c ∈ abc)) w
  refine ⟨okS wc, ok_e _, ?_⟩
  rw [eq_e]
  by_cases e : w = []
  · rw [decide_eq_true e]
    have ea : areLet w = false := by rw [e]; rfl
    rw [ea] at q
    exact q
  · rw [decide_eq_false e]
    refine ⟨rfl, ?_⟩
    refine on_some (a := (w.filter fun c => decide (c ∈ abc)).map fun c => [c]) (by show toSs _ = _; rw [map_str1, toSs_of]) ?_
    refine ⟨by rw [List.length_map]; omega, w.filter fun c => decide (c ∈ abc), rfl, fun l hl => ?_⟩
    have ll := signs_len hl
    refine join_signs (by omega) ?_
    refine ⟨okS fun c hc => wc c (List.mem_filter.mp ((hl.2 c).mp hc)).1, okS wc, ?_⟩
    rw [eqD_str, let19 hl e]
    exact q
def toldM (rows : List (List Nat)) : D := match readM rows with
  | .ok M => .tup [.str (lit "told"), M.toD]
  | .error i => .tup [.str (lit "refused"), natD i]
def S_w_read19 : FS := fun xs mu Q => ∃ t : List Nat, xs = [.dat (.str t)] ∧ mu = [] ∧ TxtB 3900 t ∧ Q (.dv (.dat (toldM (splitC 10 t)))) []
theorem len_w_read19 : ∀ xs mu Q, S_w_read19 xs mu Q → xs.length = 1 := fun xs mu Q h => by
  obtain ⟨_, rfl, _⟩ := h
  rfl
def headM (i : Nat) : List Nat := if i = 0 then lit "letters" else if i = 1 then lit "begin" else if i = 2 then lit "ends" else lit "room"
theorem headM_at (i : Nat) : L2.atI [D.str (lit "letters"), .str (lit "begin"), .str (lit "ends"), .str (lit "room")] (if (3 : Int) < ((0 + i : Nat) : Int) then 3 else ((0 + i : Nat) : Int)) = some (.str (headM i)) := by
  rw [Nat.zero_add]
  match i with
  | 0 => rfl
  | 1 => rfl
  | 2 => rfl
  | 3 => rfl
  | i + 4 =>
    rw [if_pos (by omega)]
    unfold headM
    rw [if_neg (by omega), if_neg (by omega), if_neg (by omega)]
    rfl
theorem headM_ok (i : Nat) : ∀ c ∈ headM i, c < 1114112 := by
  unfold headM
  split
  · exact lit_letters_ok
  · split
    · exact small_lits.1
    · split
      · exact small_lits.2.1
      · exact small_lits.2.2
theorem nums_non (ws : List (List Nat)) : inD .non (ws.map numR) = !ws.all isNumW := by
  induction ws with
  | nil => rfl
  | cons w r ih =>
    rw [List.map_cons, List.all_cons]
    cases h : isNumW w with
    | true =>
      rw [numR_yes h]
      show (false || inD .non (r.map numR)) = _
      rw [Bool.false_or, Bool.true_and]
      exact ih
    | false =>
      rw [numR_no h]
      rfl
theorem nums_flat (ws : List (List Nat)) : (ws.map numR).all flatD = true := by
  rw [List.all_map, List.all_eq_true]
  intro w _
  show flatD (numR w) = true
  unfold numR
  split <;> rfl
theorem nums_nat {ws : List (List Nat)} (h : ws.all isNumW = true) : ws.map numR = (ws.map valS).map natD := by
  rw [List.map_map]
  exact List.map_congr_left fun w hw => numR_yes (List.all_eq_true.mp h w hw)
/-- how far the rows are good -/
def Far (rows : List (List Nat)) (i : Nat) (L : List Nat) (nss : List (List Nat)) : Prop := (∃ r0, rows[0]? = some r0 ∧ letsAs r0 = some L) ∧ nss.length + 1 = i ∧ scanM L.length 1 (rows.drop 1) = preM nss (scanM L.length i (rows.drop i))
theorem Far.read {rows : List (List Nat)} {i : Nat} {L : List Nat} {nss : List (List Nat)} (h : Far rows i L nss) : readM rows = finM rows.length L (preM nss (scanM L.length i (rows.drop i))) := by
  obtain ⟨⟨r0, h0, hL⟩, hl, hs⟩ := h
  rw [← hs]
  cases rows with
  | nil => cases h0
  | cons a t =>
    have e : a = r0 := by simpa using h0
    show (match letsAs a with | none => _ | some L => _) = _
    rw [e, hL]
    simp
theorem Far.bad {rows : List (List Nat)} {i : Nat} {L r : List Nat} {nss : List (List Nat)} (h : Far rows i L nss) (hr : rows[i]? = some r) (hn : rowN L.length i r = none) : readM rows = .error i := by
  rw [h.read, dropc hr, scan_bad hn]
  rfl
theorem Far.next {rows : List (List Nat)} {i : Nat} {L r ns : List Nat} {nss : List (List Nat)} (h : Far rows i L nss) (hr : rows[i]? = some r) (hn : rowN L.length i r = some ns) : Far rows (i + 1) L (nss ++ [ns]) :=
  ⟨h.1, by rw [List.length_append]; show nss.length + 1 + 1 = _; rw [h.2.1], by rw [h.2.2, dropc hr, scan_good hn, preM_pre]⟩
theorem read_bad0 {rows : List (List Nat)} {r : List Nat} (hr : rows[0]? = some r) (hn : letsAs r = none) : readM rows = .error 0 := by
  cases rows with
  | nil => rfl
  | cons a t =>
    have e : a = r := by simpa using hr
    show (match letsAs a with | none => _ | some L => _) = _
    rw [e, hn]
theorem rowN_at {n i : Nat} {r : List Nat} (h : 0 < i) : rowN n i r = numsAs (headM i) (if i = 1 then some 1 else if i = 2 then none else some n) r := by
  unfold rowN headM
  rw [if_neg (by omega : ¬ i = 0)]
  by_cases h1 : i = 1
  · rw [if_pos h1, if_pos h1, if_pos h1]
  · rw [if_neg h1, if_neg h1, if_neg h1]
    by_cases h2 : i = 2
    · rw [if_pos h2, if_pos h2, if_pos h2]
    · rw [if_neg h2, if_neg h2, if_neg h2]
def t_w_read19 : DS :=
  (dSeq (dSet 1 (dFrz (fSplit 10 (dVar 0) (aCons (dC (.str (lit "\n"))) aNil))))
  (dSeq (dSet 2 (dC (.str (lit ""))))
  (dSeq (dSet 3 (dNew (fLst aNil)))
  (dSeq (dFor (iEnumL (dVar 1)) (dgTup 2 (dgCons (dgN 4) (dgCons (dgN 5) dgNil)))
  (dSeq (dSet 6 (dFrz (fSplit 32 (dVar 5) (aCons (dC (.str (lit " "))) aNil))))
  (dSeq (dSet 7 (dFrz (fLc (iDat (dFrz (fSl (dVar 6) (oSome (dC (.int 1))) oNone))) (dgN 8) dYes (dCall S_w_number_in (aCons (dVar 8) aNil)) [8])))
  (dSeq (dIf (dTest (dOp dNe (dOp dIx (dVar 6) (dC (.int 0))) (dOp dIx (dFrz (fLst (aCons (dC (.str (lit "letters"))) (aCons (dC (.str (lit "begin"))) (aCons (dC (.str (lit "ends"))) (aCons (dC (.str (lit "room"))) aNil)))))) (dCB dMin2 (aCons (dVar 4) (aCons (dC (.int 3)) aNil))))))
  (dRet (dTup (aCons (dC (.str (lit "refused"))) (aCons (dVar 4) aNil))))
  dNext)
  (dJn (dIf (dTest (dOp dEq (dVar 4) (dC (.int 0))))
  (dSeq (dSet 2 (dBM "str" dJoin (dC (.str (lit ""))) (aCons (dFrz (fSl (dVar 6) (oSome (dC (.int 1))) oNone)) aNil)))
  (dIf (dOr (dTest (dOp dNe (dCB dLen (aCons (dVar 6) aNil)) (dC (.int 2)))) (dNot (dTest (dCall S_w_are_letters19 (aCons (dVar 2) aNil)))))
  (dRet (dTup (aCons (dC (.str (lit "refused"))) (aCons (dC (.int 0)) aNil))))
  dNext))
  (dIf (dOr (dTest (dOp (dInQ false) (dC .non) (dVar 7))) (dOr (dAnd (dTest (dOp dEq (dVar 4) (dC (.int 1)))) (dTest (dOp dNe (dCB dLen (aCons (dVar 7) aNil)) (dC (.int 1))))) (dAnd (dTest (dOp dGt (dVar 4) (dC (.int 2)))) (dTest (dOp dNe (dCB dLen (aCons (dVar 7) aNil)) (dCB dLen (aCons (dVar 2) aNil)))))))
  (dRet (dTup (aCons (dC (.str (lit "refused"))) (aCons (dVar 4) aNil))))
  dNext))
  (dDrop (dBM "list" dAppend (dVar 3) (aCons (dCB dTupOf (aCons (dVar 7) aNil)) aNil))))))))
  (dSeq (dIf (dTest (dOp dLt (dCB dLen (aCons (dVar 1) aNil)) (dC (.int 4))))
  (dRet (dTup (aCons (dC (.str (lit "refused"))) (aCons (dCB dLen (aCons (dVar 1) aNil)) aNil))))
  dNext)
  (dRet (dTup (aCons (dC (.str (lit "told"))) (aCons (dTup (aCons (dVar 2) (aCons (dOp dIx (dOp dIx (dVar 3) (dC (.int 1))) (dC (.int 0))) (aCons (dOp dIx (dVar 3) (dC (.int 2))) (aCons (dCB dTupOf (aCons (dFrz (fSl (dVar 3) (oSome (dC (.int 3))) oNone)) aNil)) aNil))))) aNil)))))))))
theorem rd_w_read19 : Body t_w_read19 ["_law_text", "_law_rows", "_law_letters_here", "_law_found", "_law_at", "_law_row", "_law_words", "_law_numbers", "_law_word"] S_w_read19 := fun xs mu Q h => by
  obtain ⟨t, rfl, rfl, tb, q⟩ := h
  have tl := tb.1
  refine ⟨rfl, ?_⟩
  refine ⟨⟨lit_nl, by decide, by omega⟩, ?_⟩
  have rb := split_B (c := 10) tb
  have r0 : 0 < (splitC 10 t).length := by
    obtain ⟨u, ws, hs⟩ := split_cons (r := t) 10
    rw [hs, List.length_cons]
    omega
  generalize splitC 10 t = rows at q rb r0
  have rn : rows.length ≤ 3901 := rb.1
  refine ⟨by decide, ?_⟩
  have ref : ∀ i : Nat, readM rows = .error i → ∀ m : MC, retQ 0 Q (.dv (.dat (.tup [.str (lit "refused"), natD i]))) [m] := fun i e m => by
    unfold toldM at q
    rw [e] at q
    exact q
  refine for_inv (fun i rho mu => ∃ (n0 : D) (L : List Nat) (nss : List (List Nat)) (x4 x5 x6 x7 x8 : Option DV), (i = 0 → L = [] ∧ nss = []) ∧ (0 < i → Far rows i L nss ∧ L.length ≤ 4000) ∧ (∀ b, nss.head? = some b → b.length = 1) ∧
    mu = [.lst (if i = 0 then [] else n0 :: nss.map fun ns => D.tup (ns.map natD))] ∧ rho = [some (.dat (.str t)), some (.dat (.lst (rows.map D.str))), some (.dat (.str L)), some (.cel 0), x4, x5, x6, x7, x8])
    ⟨.non, [], [], _, _, _, _, _, fun _ => ⟨rfl, rfl⟩, fun z => absurd z (Nat.lt_irrefl 0), fun b z => (by cases z), rfl, rfl⟩ (fun i d rho mu K hd hp ke => ?_) (fun rho mu hp => ?_)
  · obtain ⟨n0, L, nss, x4, x5, x6, x7, x8, z0, z1, z2, rfl, rfl⟩ := hp
    obtain ⟨d', hd', rfl⟩ := enumD_at hd
    rw [List.getElem?_map] at hd'
    obtain ⟨r, hr, rfl⟩ := Option.map_eq_some_iff.mp hd'
    have hi := (List.getElem?_eq_some_iff.mp hr).1
    have rB := rb.2 r (List.mem_of_getElem? hr)
    obtain ⟨u, ws, hs⟩ := split_cons (r := r) 32
    have wB := split_B (c := 32) rB
    rw [hs] at wB
    have wl : ws.length ≤ 3900 := by have := wB.1; rw [List.length_cons] at this; omega
    have uB := wB.2 u (List.mem_cons_self ..)
    have wsB : ∀ w ∈ ws, TxtB 3900 w := fun w hw => wB.2 w (List.mem_cons_of_mem _ hw)
    refine ⟨rfl, ?_⟩
    refine ⟨rfl, ?_⟩
    refine ⟨⟨lit_sp, by decide, Nat.le_trans rB.1 (by decide)⟩, ?_⟩
    rw [hs]
    show dCompL _ _ _ _ _ (cut (D.str u :: ws.map D.str) (some 1) none) _ _
    rw [cut_tail]
    refine comp_list (xs := ws) (v := numR) (by omega) (fun w hw G g => ?_) ?_
    · exact ⟨rfl, w, rfl, rfl, ⟨Nat.le_trans (wsB w hw).1 (by decide), (wsB w hw).2⟩, g⟩
    refine on_some (a := D.str u) (atI_head _ _) ?_
    refine ⟨by show 4 ≤ 1000; omega, ?_⟩
    refine on_some (headM_at i) ?_
    refine ⟨okS uB.2, okS (headM_ok i), ?_⟩
    rw [eqD_str]
    have e0i : D.int ((0 + i : Nat) : Int) = natD i := by rw [Nat.zero_add]; rfl
    refine itN (p := u = headM i) (fun hu => ?_) (fun hu => ?_)
    · refine ⟨by show 2 ≤ 1000; omega, ?_⟩
      rw [e0i]
      refine ref i ?_ _
      by_cases hi0 : i = 0
      · subst hi0
        refine read_bad0 hr ?_
        unfold letsAs
        rw [show rowAs (lit "letters") r = none from rowAs_none hs hu]
      · refine (z1 (by omega)).1.bad hr ?_
        rw [rowN_at (by omega)]
        unfold numsAs
        rw [rowAs_none hs hu]
    subst hu
    refine jn_go ?_
    refine ⟨okD_int _ _, okD_int _ _, ?_⟩
    refine itI (fun hi0 => ?_) (fun hi0 => ?_)
    · have hi0 : i = 0 := by omega
      subst hi0
      refine ⟨rfl, ?_⟩
      show dJoin (.dat (.str (lit ""))) [.dat (.lst (cut (D.str (headM 0) :: ws.map D.str) (some 1) none))] _ _
      rw [cut_tail]
      have tot : (ws.map List.length).sum + ws.length ≤ 3901 := by
        have e := spl_tot 32 r []
        rw [List.length_nil] at e
        have e : ((splitC 32 r).map List.length).sum + (splitC 32 r).length = 0 + r.length + 1 := e
        rw [hs, List.map_cons, List.sum_cons, List.length_cons] at e
        have := rB.1
        omega
      refine join_run (s := lit "") (ws := ws) (by show _ + ws.length * 0 ≤ _; omega) ?_
      have hrow : rowAs (lit "letters") r = some ws := rowAs_of hs
      have bad : letsAs r = none → ∀ m : MC, retQ 0 Q (.dv (.dat (.tup [.str (lit "refused"), .int 0]))) [m] := fun e m => ref 0 (read_bad0 hr e) m
      refine ⟨okD_int _ _, okD_int _ _, ?_⟩
      rw [eqD_int]
      refine itN (p := (((D.str (headM 0) :: ws.map D.str).length : Nat) : Int) = 2) (fun h2 => ?_) (fun h2 => ?_)
      · refine ⟨by show 2 ≤ 1000; omega, bad ?_ _⟩
        unfold letsAs
        rw [hrow]
        rw [List.length_cons, List.length_map] at h2
        match ws, h2 with
        | [], _ => rfl
        | [L'], h2 => exact absurd rfl h2
        | a :: b :: c, _ => rfl
      · rw [List.length_cons, List.length_map] at h2
        obtain ⟨L', rfl⟩ : ∃ L', ws = [L'] := by
          match ws, h2 with
          | [L'], _ => exact ⟨L', rfl⟩
          | [], h2 => simp at h2
          | a :: b :: c, h2 => rw [List.length_cons, List.length_cons] at h2; omega
        have LB := wsB L' (List.mem_cons_self ..)
        refine ⟨rfl, L', rfl, rfl, ⟨Nat.le_trans LB.1 (by decide), LB.2⟩, ?_⟩
        cases hL : areLet L' with
        | false =>
          refine ⟨by show 2 ≤ 1000; omega, bad ?_ _⟩
          unfold letsAs
          rw [hrow]
          simp only
          rw [if_neg (by rw [hL]; decide)]
        | true =>
          obtain ⟨_, rfl⟩ := z0 rfl
          refine ⟨rfl, ?_⟩
          refine ⟨by rw [if_pos rfl]; decide, ?_⟩
          refine ke _ _ ⟨_, L', [], _, _, _, _, _, fun z => absurd z (by omega), fun _ => ⟨⟨⟨r, hr, ?_⟩, rfl, (preM_nil _).symm⟩, Nat.le_trans LB.1 (by decide)⟩, fun b z => (by cases z), rfl, rfl⟩
          unfold letsAs
          rw [hrow]
          simp only
          rw [if_pos hL]
    · have hi1 : 0 < i := by omega
      obtain ⟨far, lL⟩ := z1 hi1
      have hrow : rowAs (headM i) r = some ws := rowAs_of hs
      have bad : ¬ (ws.all isNumW = true ∧ ((if i = 1 then some 1 else if i = 2 then none else some L.length) = none ∨ (if i = 1 then some 1 else if i = 2 then none else some L.length) = some ws.length)) →
          ∀ m : MC, 2 ≤ 1000 ∧ retQ 0 Q (.dv (.dat (.tup [.str (lit "refused"), .int ((0 + i : Nat) : Int)]))) [m] := fun z m => by
        refine ⟨by omega, ?_⟩
        rw [e0i]
        refine ref i (far.bad hr ?_) m
        rw [rowN_at hi1]
        unfold numsAs
        rw [hrow]
        simp only
        rw [if_neg z]
      have nl : nss.length ≤ 3901 := by have := far.2.1; omega
      have good : ws.all isNumW = true → ((if i = 1 then some 1 else if i = 2 then none else some L.length) = none ∨ (if i = 1 then some 1 else if i = 2 then none else some L.length) = some ws.length) →
          dDrop (dBM "list" dAppend (dVar 3) (aCons (dCB dTupOf (aCons (dVar 7) aNil)) aNil)) { nx := K, rt := retQ 0 Q, ct := K } [some (.dat (.str t)), some (.dat (.lst (rows.map D.str))), some (.dat (.str L)), some (.cel 0), some (.dat (.int ((0 + i : Nat) : Int))), some (.dat (.str r)), some (.dat (.lst ((headM i :: ws).map D.str))), some (.dat (.lst (ws.map numR))), x8] [.lst (if i = 0 then [] else n0 :: nss.map fun ns => D.tup (ns.map natD))] := fun hN hm => by
        rw [if_neg (by omega : ¬ i = 0)]
        have rn : rowN L.length i r = some (ws.map valS) := by
          rw [rowN_at hi1]
          unfold numsAs
          rw [hrow]
          simp only
          rw [if_pos ⟨hN, hm⟩]
        refine ⟨rfl, ?_⟩
        refine ⟨by rw [List.length_cons, List.length_map]; omega, ?_⟩
        refine ke _ _ ⟨n0, L, nss ++ [ws.map valS], _, _, _, _, _, fun z => absurd z (by omega), fun _ => ⟨far.next hr rn, lL⟩, fun b hb => ?_, ?_, rfl⟩
        · cases nss with
          | cons c r => exact z2 b hb
          | nil =>
            have : i = 1 := by have := far.2.1; rw [List.length_nil] at this; omega
            subst this
            have eb : ws.map valS = b := Option.some.inj hb
            rw [← eb, List.length_map]
            rw [if_pos rfl] at hm
            rcases hm with z | z
            · cases z
            · exact (Option.some.inj z).symm
        · rw [if_neg (by omega : ¬ i + 1 = 0), List.map_append, nums_nat hN]
          rfl
      refine ⟨rfl, nums_flat ws, ?_⟩
      rw [nums_non]
      cases hN : ws.all isNumW with
      | false => exact bad (fun z => by rw [hN] at z; exact absurd z.1 (by decide)) _
      | true =>
        refine ⟨okD_int _ _, okD_int _ _, ?_⟩
        refine itI (fun h1 => ?_) (fun h1 => ?_)
        · have h1 : i = 1 := by omega
          refine ⟨okD_int _ _, okD_int _ _, ?_⟩
          rw [eqD_int]
          refine itN (p := (((ws.map numR).length : Nat) : Int) = 1) (fun h2 => ?_) (fun h2 => ?_)
          · rw [List.length_map] at h2
            refine bad (fun z => ?_) _
            rw [if_pos h1] at z
            rcases z.2 with y | y
            · cases y
            · have := Option.some.inj y; omega
          · rw [List.length_map] at h2
            refine itD (p := ((0 + i : Nat) : Int) > 2) (fun h3 => by omega) (fun _ => ?_)
            refine good hN ?_
            rw [if_pos h1]
            exact .inr (congrArg some (by omega))
        · have h1 : ¬ i = 1 := by omega
          refine itD (p := ((0 + i : Nat) : Int) > 2) (fun h3 => ?_) (fun h3 => ?_)
          · refine ⟨by omega, ?_⟩
            refine ⟨okD_int _ _, okD_int _ _, ?_⟩
            rw [eqD_int]
            refine itN (p := (((ws.map numR).length : Nat) : Int) = ((L.length : Nat) : Int)) (fun h2 => ?_) (fun h2 => ?_)
            · rw [List.length_map] at h2
              refine bad (fun z => ?_) _
              rw [if_neg h1, if_neg (by omega)] at z
              rcases z.2 with y | y
              · cases y
              · have := Option.some.inj y; omega
            · rw [List.length_map] at h2
              refine good hN ?_
              rw [if_neg h1, if_neg (by omega)]
              exact .inr (congrArg some (by omega))
          · refine good hN ?_
            rw [if_neg h1, if_pos (by omega)]
            exact .inl rfl
  · obtain ⟨n0, L, nss, x4, x5, x6, x7, x8, z0, z1, z2, rfl, rfl⟩ := hp
    rw [enumD_len, List.length_map] at z0 z1 ⊢
    obtain ⟨far, lL⟩ := z1 r0
    have hread : readM rows = finM rows.length L (.ok nss) := by
      rw [far.read, List.drop_eq_nil_of_le (Nat.le_refl _)]
      show finM rows.length L (.ok (nss ++ [])) = _
      rw [List.append_nil]
    have hl := far.2.1
    rw [if_neg (by omega : ¬ rows.length = 0)]
    refine itD (p := (((rows.map D.str).length : Nat) : Int) < 4) (fun h => ?_) (fun h => ?_)
    · rw [List.length_map] at h
      refine ⟨by show 2 ≤ 1000; omega, ?_⟩
      rw [List.length_map]
      refine ref rows.length ?_ _
      rw [hread]
      match nss, hl with
      | [], _ => rfl
      | [a], _ => rfl
      | [a, b], _ => rfl
      | a :: b :: c :: d, hl => rw [List.length_cons, List.length_cons, List.length_cons] at hl; omega
    · rw [List.length_map] at h
      match nss, hl, hread, z2 with
      | [], hl, _, _ => rw [List.length_nil] at hl; omega
      | [a], hl, _, _ => rw [List.length_cons, List.length_nil] at hl; omega
      | [a, b], hl, _, _ => rw [List.length_cons, List.length_cons, List.length_nil] at hl; omega
      | b :: e :: s :: ss, hl, hread, z2 =>
        have hb := z2 b rfl
        obtain ⟨x, rfl⟩ : ∃ x, b = [x] := by
          match b, hb with
          | [x], _ => exact ⟨x, rfl⟩
        refine on_some (a := D.tup ([x].map natD)) (L2.atI_nat (j := 1) rfl) ?_
        refine on_some (a := D.tup (e.map natD)) (L2.atI_nat (j := 2) rfl) ?_
        refine ⟨by show 4 ≤ 1000; omega, ?_⟩
        refine ⟨by show 2 ≤ 1000; omega, ?_⟩
        unfold toldM at q
        rw [hread] at q
        rw [show (3 : Int) = ((3 : Nat) : Int) from rfl, cut_from]
        exact q

end Dx

namespace Dx
open PySem PySem.Spec PyProof.Rows L2
open Evl (Ex)
variable [Tb]
/-! ### how long texts grow -/
def wt (ps : List (List Nat)) : Nat := (ps.map List.length).sum + ps.length
theorem wt_nil : wt [] = 0 := rfl
theorem wt_cons (p : List Nat) (ps : List (List Nat)) : wt (p :: ps) = p.length + 1 + wt ps := by
  unfold wt
  rw [List.map_cons, List.sum_cons, List.length_cons]
  omega
theorem wt_app (a b : List (List Nat)) : wt (a ++ b) = wt a + wt b := by
  unfold wt
  rw [List.map_append, List.sum_append, List.length_append]
  omega
theorem wt_split (c : Nat) (t : List Nat) : wt (splitC c t) = t.length + 1 := by
  have e := spl_tot c t []
  rw [List.length_nil] at e
  have e : ((splitC c t).map List.length).sum + (splitC c t).length = 0 + t.length + 1 := e
  unfold wt
  omega
theorem wt_td (ps : List (List Nat)) (i : Nat) : wt (ps.take i) + wt (ps.drop i) = wt ps := by
  rw [← wt_app, List.take_append_drop]
theorem wt_len (ps : List (List Nat)) : ps.length ≤ wt ps := by unfold wt; omega
theorem wt_at {ps : List (List Nat)} {i : Nat} {w : List Nat} (h : ps[i]? = some w) : wt (ps.drop i) = w.length + 1 + wt (ps.drop (i + 1)) := by
  rw [dropc h, wt_cons]
theorem wt_take1 {ps : List (List Nat)} {i : Nat} {w : List Nat} (h : ps[i]? = some w) : wt (ps.take (i + 1)) = wt (ps.take i) + w.length + 1 := by
  have h1 := wt_td ps i
  have h2 := wt_td ps (i + 1)
  have h3 := wt_at h
  omega
theorem joinC_wt (c : Nat) (ps : List (List Nat)) : (joinC c ps).length ≤ wt ps - 1 := by
  cases ps with
  | nil => exact Nat.le_refl _
  | cons p r =>
    have h := joinC_len c (p :: r)
    rw [join_flat, List.length_append, flat_len, List.map_map, wt_cons]
    have e : (r.map (List.length ∘ fun w => c :: w)).sum = wt r := by
      induction r with
      | nil => rfl
      | cons x r ih =>
        rw [List.map_cons, List.sum_cons, ih (joinC_len c (p :: r)), wt_cons]
        rfl
    omega
theorem wt_set {v w : List Nat} : ∀ {ps : List (List Nat)} {i : Nat}, ps[i]? = some w → wt (ps.set i v) + w.length = wt ps + v.length
  | [], i, h => by simp at h
  | p :: ps, 0, h => by
    cases h
    rw [List.set_cons_zero, wt_cons, wt_cons]
    omega
  | p :: ps, i + 1, h => by
    have h' : ps[i]? = some w := by simpa using h
    have ih := wt_set (v := v) h'
    rw [List.set_cons_succ, wt_cons, wt_cons]
    omega
def Chr (ps : List (List Nat)) : Prop := ∀ w ∈ ps, ∀ c ∈ w, c < 1114112
theorem Chr.app {a b : List (List Nat)} (h : Chr a) (k : Chr b) : Chr (a ++ b) := fun w hw => by
  rcases List.mem_append.mp hw with z | z
  · exact h w z
  · exact k w z
theorem Chr.take {a : List (List Nat)} (h : Chr a) (i : Nat) : Chr (a.take i) := fun w hw => h w (List.mem_of_mem_take hw)
theorem Chr.drop {a : List (List Nat)} (h : Chr a) (i : Nat) : Chr (a.drop i) := fun w hw => h w (List.mem_of_mem_drop hw)
theorem Chr.one {w : List Nat} (h : ∀ c ∈ w, c < 1114112) : Chr [w] := fun v hv => by rw [List.mem_singleton.mp hv]; exact h
theorem Chr.set {a : List (List Nat)} {i : Nat} {w : List Nat} (h : Chr a) (k : ∀ c ∈ w, c < 1114112) : Chr (a.set i w) := fun v hv => by
  rcases List.mem_or_eq_of_mem_set hv with z | z
  · exact h v z
  · rw [z]; exact k
theorem Chr.join {c : Nat} {a : List (List Nat)} (h : Chr a) (hc : c < 1114112) : ∀ x ∈ joinC c a, x < 1114112 := fun x hx => by
  rcases mem_joinC hx with e | ⟨p, hp, hp2⟩
  · omega
  · exact h p hp x hp2
theorem chr_split {c n : Nat} {t : List Nat} (h : TxtB n t) : Chr (splitC c t) := fun w hw => ((split_B h).2 w hw).2
theorem join_wt {c : Nat} {s : List Nat} (hs : s = [c]) {us : List (List Nat)} {mu : Mu} {Q : DQ} (h : wt us ≤ 1000000) (q : Q (.dat (.str (joinC c us))) mu) : dJoin (.dat (.str s)) [.dat (.lst (us.map D.str))] mu Q := by
  subst hs
  refine join_run (s := [c]) (ws := us) ?_ q
  unfold wt at h
  show _ + us.length * 1 ≤ _
  omega
/-! ### any machine that is written, its text not too long -/
def S_w_any_machineB : FS := fun xs mu Q => ∃ m, mu = [m] ∧ FlowOk m ∧ xs = [.cel 0] ∧ ∀ (M : Mach) m', FlowOk m' → MWr M → M.ends.length ≤ 4 → 5 * M.steps.length + 4 * (M.steps.length * M.L.length) ≤ 450 → Q (.dv (.dat M.toD)) [m']
theorem len_w_any_machineB : ∀ xs mu Q, S_w_any_machineB xs mu Q → xs.length = 1 := fun xs mu Q h => by
  obtain ⟨_, _, _, rfl, _⟩ := h
  rfl
def t_w_any_machineB : DS :=
  (dSeq (dSet 1 (dCallR S_w_pick (aCons (dVar 0) (aCons (dC (.int 8)) aNil))))
  (dSeq (dSet 2 (dOp dIx (dFrz (fLst (aCons (dOp dAdd (dC (.int 6)) (dCallR S_w_pick (aCons (dVar 0) (aCons (dC (.int 21)) aNil)))) (aCons (dC (.int 1)) (aCons (dOp dAdd (dC (.int 1)) (dCallR S_w_pick (aCons (dVar 0) (aCons (dC (.int 5)) aNil)))) aNil))))) (dCB dMin2 (aCons (dVar 1) (aCons (dC (.int 2)) aNil)))))
  (dSeq (dSet 3 (dOp dAdd (dC (.int 1)) (dCallR S_w_pick (aCons (dVar 0) (aCons (dOp dIx (dFrz (fLst (aCons (dC (.int 4)) (aCons (dC (.int 50)) (aCons (dC (.int 8)) aNil))))) (dCB dMin2 (aCons (dVar 1) (aCons (dC (.int 2)) aNil)))) aNil)))))
  (dSeq (dSet 4 (dCallR S_w_letters (aCons (dVar 0) (aCons (dVar 2) aNil))))
  (dSeq (dSet 5 (dCB dTupOf (aCons (dFrz (fLc (iRg1 (aCons (dCallR S_w_pick (aCons (dVar 0) (aCons (dC (.int 5)) aNil))) aNil)) (dgN 7) dYes (dCallR S_w_number (aCons (dVar 0) aNil)) [7])) aNil)))
  (dSeq (dSet 6 (dCallR S_w_number (aCons (dVar 0) aNil)))
  (dRet (dTup (aCons (dVar 4) (aCons (dVar 6) (aCons (dVar 5) (aCons (dCB dTupOf (aCons (dFrz (fLc (iRg1 (aCons (dVar 3) aNil)) (dgN 8) dYes (dCB dTupOf (aCons (dFrz (fLc (iStrD (dVar 4)) (dgN 7) dYes (dCallR S_w_number (aCons (dVar 0) aNil)) [7])) aNil)) [8])) aNil)) aNil))))))))))))
theorem rd_w_any_machineB : Body t_w_any_machineB ["_law_flow_here", "_law_way", "_law_many", "_law_rooms", "_law_letters_here", "_law_ends", "_law_begin", "_law_k", "_law_room"] S_w_any_machineB := fun xs mu Q h => by
  obtain ⟨m, rfl, fo, rfl, q⟩ := h
  refine ⟨fo.live, rfl, m, 8, rfl, fo, rfl, by omega, by omega, fun way m1 f1 w0 w1 => ?_⟩
  refine ⟨f1.live, rfl, m1, 21, rfl, f1, rfl, by omega, by omega, fun r21 m2 f2 r0 r1 => ?_⟩
  refine ⟨f2.live, rfl, m2, 5, rfl, f2, rfl, by omega, by omega, fun r5 m3 f3 s0 s1 => ?_⟩
  refine ⟨by show 3 ≤ 1000; omega, ?_⟩
  have hmin : (if (2 : Int) < way then (2 : Int) else way) = 0 ∨ (if (2 : Int) < way then (2 : Int) else way) = 1 ∨ (if (2 : Int) < way then (2 : Int) else way) = 2 := by split <;> omega
  have both : ∃ many w3 : Int, L2.atI [D.int (6 + r21), D.int 1, D.int (1 + r5)] (if (2 : Int) < way then (2 : Int) else way) = some (.int many) ∧ L2.atI [D.int 4, D.int 50, D.int 8] (if (2 : Int) < way then (2 : Int) else way) = some (.int w3) ∧
      0 < many ∧ many ≤ 26 ∧ 0 < w3 ∧ w3 ≤ 50 ∧ ((many ≤ 26 ∧ w3 ≤ 4) ∨ (many ≤ 1 ∧ w3 ≤ 50) ∨ (many ≤ 5 ∧ w3 ≤ 8)) := by
    rcases hmin with e | e | e <;> rw [e]
    · exact ⟨6 + r21, 4, rfl, rfl, by omega, by omega, by omega, by omega, by omega⟩
    · exact ⟨1, 50, rfl, rfl, by omega, by omega, by omega, by omega, by omega⟩
    · exact ⟨1 + r5, 8, rfl, rfl, by omega, by omega, by omega, by omega, by omega⟩
  obtain ⟨many, w3, a1, a2, n0, n1, v0, v1, hw⟩ := both
  refine on_some a1 ?_
  refine ⟨by show 3 ≤ 1000; omega, ?_⟩
  refine on_some a2 ?_
  refine ⟨f3.live, rfl, m3, w3, rfl, f3, rfl, v0, by omega, fun rr m4 f4 rr0 rr1 => ?_⟩
  refine ⟨f4.live, rfl, m4, many, rfl, f4, rfl, by omega, by omega, fun L m5 f5 hl ll => ?_⟩
  refine ⟨f5.live, rfl, m5, 5, rfl, f5, rfl, by omega, by omega, fun re m6 f6 e0 e1 => ?_⟩
  refine ⟨by omega, by omega, ?_⟩
  have rl : ∀ n : Nat, (rngD 0 n).length = n := fun n => by unfold rngD; rw [List.length_map, List.length_range]
  refine comp_flow (P := fun n : Nat => n < 1000) (g := natD) f6 (by rw [rl]; omega) (fun d m G f g => ⟨f.live, rfl, m, rfl, f, rfl, fun n m' f' hn => g n m' f' hn⟩) fun es m7 f7 le he => ?_
  rw [rl] at le
  refine ⟨f7.live, rfl, m7, rfl, f7, rfl, fun b m8 f8 hb => ?_⟩
  refine ⟨by omega, by omega, ?_⟩
  refine comp_flow (P := fun r : List Nat => r.length = L.length ∧ ∀ n ∈ r, n < 1000) (g := rowD) f8 (by rw [rl]; omega) (fun d m G f g => ?_) fun rows m9 f9 lr hr => ?_
  · refine comp_flow (P := fun n : Nat => n < 1000) (g := natD) f (by rw [List.length_map]; omega) (fun d m G f g => ⟨f.live, rfl, m, rfl, f, rfl, fun n m' f' hn => g n m' f' hn⟩) fun row m' f' lr hr => ?_
    rw [List.length_map] at lr
    exact g row m' f' ⟨lr, hr⟩
  rw [rl] at lr
  refine ⟨by show 4 ≤ 1000; omega, ?_⟩
  refine q ⟨L, b, es, rows⟩ m9 f9 ⟨hl, by show 0 < L.length ∧ L.length ≤ 26; omega, hb, he, by show es.length ≤ _; omega, hr, by show 0 < rows.length ∧ rows.length ≤ 4000; omega⟩ ?_ ?_
  · show es.length ≤ 4
    omega
  · show 5 * rows.length + 4 * (rows.length * L.length) ≤ 450
    rcases hw with ⟨h1, h2⟩ | ⟨h1, h2⟩ | ⟨h1, h2⟩
    · have := Nat.mul_le_mul (show rows.length ≤ 4 by omega) (show L.length ≤ 26 by omega)
      omega
    · have := Nat.mul_le_mul (show rows.length ≤ 50 by omega) (show L.length ≤ 1 by omega)
      omega
    · have := Nat.mul_le_mul (show rows.length ≤ 8 by omega) (show L.length ≤ 5 by omega)
      omega
theorem rowW_len3 {w ns : List Nat} (h : ∀ n ∈ ns, n < 1000) : (rowW w ns).length ≤ w.length + 4 * ns.length := by
  unfold rowW
  rw [join_flat, List.length_append, flat_len, List.map_map, List.map_map]
  have := sum_le (f := (List.length ∘ (fun w => 32 :: w)) ∘ numS) (k := 4) (l := ns) fun n hn => by
    show (numS n).length + 1 ≤ 4
    have := num_len3 (h n hn)
    omega
  omega
theorem rowsM_short {M : Mach} (wr : MWr M) (he : M.ends.length ≤ 4) : ∀ r ∈ rowsM M, r.length ≤ 108 := fun r hr => by
  have hl := wr.len
  unfold rowsM at hr
  rcases List.mem_cons.mp hr with e | hr
  · subst e
    rw [joinC_two, List.length_append, List.length_append, show (lit "letters").length = 7 by decide +kernel]
    show 7 + 1 + _ ≤ _
    omega
  rcases List.mem_cons.mp hr with e | hr
  · subst e
    have := rowW_len3 (w := lit "begin") (ns := [M.b]) fun n hn => by rw [List.mem_singleton.mp hn]; exact wr.b
    rw [show (lit "begin").length = 5 by decide +kernel] at this
    simp at this
    omega
  rcases List.mem_cons.mp hr with e | hr
  · subst e
    have := rowW_len3 (w := lit "ends") (ns := M.ends) wr.e
    rw [show (lit "ends").length = 4 by decide +kernel] at this
    omega
  obtain ⟨s, hs, rfl⟩ := List.mem_map.mp hr
  have := rowW_len3 (w := lit "room") (ns := s) (wr.s s hs).2
  rw [show (lit "room").length = 4 by decide +kernel, (wr.s s hs).1] at this
  omega
theorem mtext_short {M : Mach} (wr : MWr M) (he : M.ends.length ≤ 4) (hz : 5 * M.steps.length + 4 * (M.steps.length * M.L.length) ≤ 450) : (mtext M).length ≤ 515 := by
  have hl := wr.len
  have h := joinC_wt 10 (rowsM M)
  unfold mtext
  have e1 : wt (M.steps.map (rowW (lit "room"))) ≤ 5 * M.steps.length + 4 * (M.steps.length * M.L.length) := by
    unfold wt
    rw [List.map_map, List.length_map]
    have := sum_le (f := List.length ∘ rowW (lit "room")) (k := 4 + 4 * M.L.length) (l := M.steps) fun s hs => by
      show (rowW (lit "room") s).length ≤ _
      have := rowW_len3 (w := lit "room") (ns := s) (wr.s s hs).2
      rw [show (lit "room").length = 4 by decide +kernel, (wr.s s hs).1] at this
      omega
    have e : (4 + 4 * M.L.length) * M.steps.length = 4 * M.steps.length + 4 * (M.steps.length * M.L.length) := by
      rw [Nat.add_mul, Nat.mul_assoc, Nat.mul_comm M.L.length]
    omega
  have h0 := rowsM_short wr he (joinC 32 [lit "letters", M.L]) (List.mem_cons_self ..)
  have l0 : (joinC 32 [lit "letters", M.L]).length = 8 + M.L.length := by
    rw [joinC_two, List.length_append, List.length_append, show (lit "letters").length = 7 by decide +kernel]
    show 7 + 1 + _ = _
    omega
  have l1 := rowW_len3 (w := lit "begin") (ns := [M.b]) fun n hn => by rw [List.mem_singleton.mp hn]; exact wr.b
  rw [show (lit "begin").length = 5 by decide +kernel] at l1
  have l1 : (rowW (lit "begin") [M.b]).length ≤ 5 + 4 * 1 := l1
  have l2 := rowW_len3 (w := lit "ends") (ns := M.ends) wr.e
  rw [show (lit "ends").length = 4 by decide +kernel] at l2
  have e2 : wt (rowsM M) = (joinC 32 [lit "letters", M.L]).length + 1 + ((rowW (lit "begin") [M.b]).length + 1 + ((rowW (lit "ends") M.ends).length + 1 + wt (M.steps.map (rowW (lit "room"))))) := by
    unfold rowsM
    rw [wt_cons, wt_cons, wt_cons]
  omega
theorem mtext_chr {M : Mach} (h : IsLetters M.L) : ∀ c ∈ mtext M, c < 1114112 := by
  have := mtext_plain h
  rw [plainD] at this
  exact fun c hc => of_decide_eq_true (List.all_eq_true.mp this c hc)
/-! ### one thing otherwise -/
def S_w_sign : FS := fun xs mu Q => ∃ m, mu = [m] ∧ FlowOk m ∧ xs = [.cel 0] ∧ ∀ (c : Nat) m', FlowOk m' → c < 1114112 → Q (.dv (.dat (.str [c]))) [m']
theorem len_w_sign : ∀ xs mu Q, S_w_sign xs mu Q → xs.length = 1 := fun xs mu Q h => by
  obtain ⟨_, _, _, rfl, _⟩ := h
  rfl
def t_w_sign : DS :=
  (dSeq (dSet 1 (dOp dEq (dCallR S_w_pick (aCons (dVar 0) (aCons (dC (.int 2)) aNil))) (dC (.int 0))))
  (dSeq (dSet 2 (dC (.str (lit " \n0123456789abcdeglmnorst"))))
  (dSeq (dSet 3 (dC (.str (lit " !\"#$&'()*+,-./0123456789:;<=>?@ABCDEFGHIJKLMNOPQRSTUVWXYZ[\\]^_`{|}~\n"))))
  (dSeq (dSet 4 (dOp dIx (dFrz (fLst (aCons (dOp dAdd (dVar 3) (dC (.str (lit "abcdefghijklmnopqrstuvwxyz")))) (aCons (dVar 2) aNil)))) (dCB dInt (aCons (dVar 1) aNil))))
  (dRet (dOp dIx (dVar 4) (dCallR S_w_pick (aCons (dVar 0) (aCons (dCB dLen (aCons (dVar 4) aNil)) aNil)))))))))
theorem rd_w_sign : Body t_w_sign ["_law_flow_here", "_law_near", "_law_some", "_law_far", "_law_signs"] S_w_sign := fun xs mu Q h => by
  obtain ⟨m, rfl, fo, rfl, q⟩ := h
  unfold t_w_sign
  have h1 : (lit " !\"#$&'()*+,-./0123456789:;<=>?@ABCDEFGHIJKLMNOPQRSTUVWXYZ[\\]^_`{|}~\n").length ≤ 100 ∧ ∀ c ∈ lit " !\"#$&'()*+,-./0123456789:;<=>?@ABCDEFGHIJKLMNOPQRSTUVWXYZ[\\]^_`{|}~\n", c < 1114112 := by decide +kernel
  have h2 : (lit "abcdefghijklmnopqrstuvwxyz").length = 26 ∧ ∀ c ∈ lit "abcdefghijklmnopqrstuvwxyz", c < 1114112 := by decide +kernel
  have h3 : (0 < (lit " \n0123456789abcdeglmnorst").length ∧ (lit " \n0123456789abcdeglmnorst").length ≤ 100) ∧ ∀ c ∈ lit " \n0123456789abcdeglmnorst", c < 1114112 := by decide +kernel
  generalize lit " !\"#$&'()*+,-./0123456789:;<=>?@ABCDEFGHIJKLMNOPQRSTUVWXYZ[\\]^_`{|}~\n" = a at h1
  generalize lit "abcdefghijklmnopqrstuvwxyz" = b at h2
  generalize lit " \n0123456789abcdeglmnorst" = e at h3
  refine ⟨fo.live, rfl, m, 2, rfl, fo, rfl, by omega, by omega, fun r m1 f1 r0 r1 => ?_⟩
  refine ⟨okD_int _ _, okD_int _ _, ?_⟩
  refine ⟨by omega, ?_⟩
  refine ⟨by show 2 ≤ 1000; omega, ?_⟩
  have fin : ∀ (s : List Nat), 0 < s.length → s.length ≤ 200 → (∀ c ∈ s, c < 1114112) → dRet (dOp dIx (dVar 4) (dCallR S_w_pick (aCons (dVar 0) (aCons (dCB dLen (aCons (dVar 4) aNil)) aNil)))) { nx := fun _ mu' => retQ 1 Q (.dv (.dat .non)) mu', rt := retQ 1 Q } [some (.cel 0), some (.dat (.bl (eqD (.int r) (.int 0)))), some (.dat (.str e)), some (.dat (.str a)), some (.dat (.str s))] [m1] := fun s s0 s1 sc => by
    refine ⟨by omega, ?_⟩
    refine ⟨f1.live, rfl, m1, (s.length : Int), rfl, f1, rfl, by omega, by omega, fun z m2 f2 z0 z1 => ?_⟩
    obtain ⟨j, rfl⟩ := Int.eq_ofNat_of_zero_le z0
    obtain ⟨c, hc⟩ : ∃ c, s[j]? = some c := ⟨_, List.getElem?_eq_getElem (by omega)⟩
    refine ⟨by omega, ?_⟩
    refine on_some (a := c) (L2.atI_nat hc) ?_
    exact q c m2 f2 (sc c (List.mem_of_getElem? hc))
  cases hz : eqD (.int r) (.int 0) with
  | true =>
    have z := fin e h3.1.1 (by omega) h3.2
    rw [hz] at z
    exact z
  | false =>
    have z := fin (a ++ b) (by rw [List.length_append]; omega) (by rw [List.length_append]; omega) fun c hc => by
      rcases List.mem_append.mp hc with hc | hc
      · exact h1.2 c hc
      · exact h2.2 c hc
    rw [hz] at z
    exact z
def some19 : List (List Nat) := [lit "", lit "0", lit "00", lit "01", lit "-1", lit "+1", lit "1_0", lit "1.0", lit "999", lit "1000", lit "letters", lit "begin", lit "ends", lit "room", lit "Room"] ++ [lit "rooms", lit "a", lit "ab", lit "ba", lit "aa", lit "zA", lit "none"]
theorem some19_ok : ∀ w ∈ some19, w.length ≤ 7 ∧ ∀ c ∈ w, c < 1114112 := by decide +kernel
def S_w_row_otherwise19 : FS := fun xs mu Q => ∃ m r, mu = [m] ∧ FlowOk m ∧ xs = [.cel 0, .dat (.str r)] ∧ TxtB 5000 r ∧ ∀ (r' : List Nat) m', FlowOk m' → TxtB (2 * r.length + 10) r' → Q (.dv (.dat (.str r'))) [m']
theorem len_w_row_otherwise19 : ∀ xs mu Q, S_w_row_otherwise19 xs mu Q → xs.length = 2 := fun xs mu Q h => by
  obtain ⟨_, _, _, _, rfl, _⟩ := h
  rfl
def t_w_row_otherwise19 : DS :=
  (dSeq (dSet 2 (dCallR S_w_pick (aCons (dVar 0) (aCons (dC (.int 6)) aNil))))
  (dSeq (dSet 3 (dFrz (fSplit 32 (dVar 1) (aCons (dC (.str (lit " "))) aNil))))
  (dSeq (dSet 4 (dCallR S_w_pick (aCons (dVar 0) (aCons (dCB dLen (aCons (dVar 3) aNil)) aNil))))
  (dSeq (dSet 5 (dCallR S_w_pick (aCons (dVar 0) (aCons (dOp dAdd (dCB dLen (aCons (dVar 1) aNil)) (dC (.int 1))) aNil))))
  (dSeq (dSet 6 (dFrz (fLst (aCons (dC (.str (lit ""))) (aCons (dC (.str (lit "0"))) (aCons (dC (.str (lit "00"))) (aCons (dC (.str (lit "01"))) (aCons (dC (.str (lit "-1"))) (aCons (dC (.str (lit "+1"))) (aCons (dC (.str (lit "1_0"))) (aCons (dC (.str (lit "1.0"))) (aCons (dC (.str (lit "999"))) (aCons (dC (.str (lit "1000"))) (aCons (dC (.str (lit "letters"))) (aCons (dC (.str (lit "begin"))) (aCons (dC (.str (lit "ends"))) (aCons (dC (.str (lit "room"))) (aCons (dC (.str (lit "Room"))) aNil))))))))))))))))))
  (dSeq (dSet 6 (dFrz (fOp fCat (dVar 6) (dFrz (fLst (aCons (dC (.str (lit "rooms"))) (aCons (dC (.str (lit "a"))) (aCons (dC (.str (lit "ab"))) (aCons (dC (.str (lit "ba"))) (aCons (dC (.str (lit "aa"))) (aCons (dC (.str (lit "zA"))) (aCons (dC (.str (lit "none"))) aNil))))))))))))
  (dSeq (dIf (dTest (dOp dEq (dVar 2) (dC (.int 0))))
  (dRet (dBM "str" dJoin (dC (.str (lit " "))) (aCons (dFrz (fOp fCat (dFrz (fSl (dVar 3) oNone (oSome (dVar 4)))) (dFrz (fSl (dVar 3) (oSome (dOp dAdd (dVar 4) (dC (.int 1)))) oNone)))) aNil)))
  dNext)
  (dSeq (dIf (dTest (dOp dEq (dVar 2) (dC (.int 1))))
  (dRet (dBM "str" dJoin (dC (.str (lit " "))) (aCons (dFrz (fOp fCat (dFrz (fSl (dVar 3) oNone (oSome (dOp dAdd (dVar 4) (dC (.int 1)))))) (dFrz (fSl (dVar 3) (oSome (dVar 4)) oNone)))) aNil)))
  dNext)
  (dSeq (dIf (dTest (dOp dEq (dVar 2) (dC (.int 2))))
  (dRet (dBM "str" dJoin (dC (.str (lit " "))) (aCons (dFrz (fOp fCat (dFrz (fOp fCat (dFrz (fSl (dVar 3) oNone (oSome (dVar 4)))) (dFrz (fLst (aCons (dOp dIx (dVar 6) (dCallR S_w_pick (aCons (dVar 0) (aCons (dCB dLen (aCons (dVar 6) aNil)) aNil)))) aNil))))) (dFrz (fSl (dVar 3) (oSome (dOp dAdd (dVar 4) (dC (.int 1)))) oNone)))) aNil)))
  dNext)
  (dSeq (dIf (dTest (dOp dEq (dVar 2) (dC (.int 3))))
  (dRet (dBM "str" dJoin (dC (.str (lit " "))) (aCons (dFrz (fOp fCat (dFrz (fOp fCat (dFrz (fSl (dVar 3) oNone (oSome (dVar 4)))) (dFrz (fLst (aCons (dOp dIx (dVar 6) (dCallR S_w_pick (aCons (dVar 0) (aCons (dCB dLen (aCons (dVar 6) aNil)) aNil)))) aNil))))) (dFrz (fSl (dVar 3) (oSome (dVar 4)) oNone)))) aNil)))
  dNext)
  (dSeq (dIf (dTest (dOp dEq (dVar 2) (dC (.int 4))))
  (dRet (dOp dAdd (dSl dCut (dVar 1) oNone (oSome (dVar 5))) (dSl dCut (dVar 1) (oSome (dOp dAdd (dVar 5) (dC (.int 1)))) oNone)))
  dNext)
  (dRet (dOp dAdd (dOp dAdd (dSl dCut (dVar 1) oNone (oSome (dVar 5))) (dCallR S_w_sign (aCons (dVar 0) aNil))) (dSl dCut (dVar 1) (oSome (dOp dAdd (dVar 5) (dCallR S_w_pick (aCons (dVar 0) (aCons (dC (.int 2)) aNil))))) oNone))))))))))))))
theorem rd_w_row_otherwise19 : Body t_w_row_otherwise19 ["_law_flow_here", "_law_row", "_law_way", "_law_words", "_law_at", "_law_spot", "_law_some"] S_w_row_otherwise19 := fun xs mu Q h => by
  obtain ⟨m, r, rfl, fo, rfl, ⟨rl, rc⟩, q⟩ := h
  refine ⟨fo.live, rfl, m, 6, rfl, fo, rfl, by omega, by omega, fun wy m1 f1 w0 w6 => ?_⟩
  refine ⟨rfl, ?_⟩
  refine ⟨⟨lit_sp, by decide, by omega⟩, ?_⟩
  have sw := wt_split 32 r
  have sc : Chr (splitC 32 r) := chr_split (n := 5000) ⟨rl, rc⟩
  have s0 : 0 < (splitC 32 r).length := by
    obtain ⟨u, ws, hs⟩ := split_cons (r := r) 32
    rw [hs, List.length_cons]
    omega
  generalize splitC 32 r = ws at sw sc s0
  have wl := wt_len ws
  refine ⟨f1.live, rfl, m1, ((ws.map D.str).length : Int), rfl, f1, rfl, by rw [List.length_map]; omega, by rw [List.length_map]; omega, fun at' m2 f2 a0 a1 => ?_⟩
  rw [List.length_map] at a1
  obtain ⟨i, rfl⟩ := Int.eq_ofNat_of_zero_le a0
  have hi : i < ws.length := by omega
  obtain ⟨w, hw⟩ : ∃ w, ws[i]? = some w := ⟨_, List.getElem?_eq_getElem hi⟩
  have t1 := wt_td ws i
  have t2 := wt_at hw
  have t3 := wt_take1 hw
  refine ⟨by omega, ?_⟩
  refine ⟨f2.live, rfl, m2, ((r.length : Nat) : Int) + 1, rfl, f2, rfl, by omega, by omega, fun sp m3 f3 p0 p1 => ?_⟩
  obtain ⟨s, rfl⟩ := Int.eq_ofNat_of_zero_le p0
  refine ⟨by show 15 ≤ 1000; omega, ?_⟩
  refine ⟨by show 7 ≤ 1000; omega, ?_⟩
  refine ⟨by show 15 + 7 ≤ 1000000; omega, ?_⟩
  have tk : ∀ j : Nat, cut (ws.map D.str) none (some (j : Int)) = (ws.take j).map D.str := fun j => by rw [cut_to, List.map_take]
  have dp : ∀ j : Nat, cut (ws.map D.str) (some (j : Int)) none = (ws.drop j).map D.str := fun j => by rw [cut_from, List.map_drop]
  have i1 : ((i : Nat) : Int) + 1 = ((i + 1 : Nat) : Int) := by omega
  have fin : ∀ (us : List (List Nat)) (m' : MC), FlowOk m' → Chr us → wt us ≤ 2 * r.length + 11 → dJoin (.dat (.str (lit " "))) [.dat (.lst (us.map D.str))] [m'] fun x mu1 => retQ 1 Q (.dv x) mu1 := fun us m' f' hc hl => by
    refine join_wt lit_sp (by omega) ?_
    refine q (joinC 32 us) m' f' ⟨?_, hc.join (by omega)⟩
    have := joinC_wt 32 us
    omega
  have cl : ∀ lo hi, (cut (ws.map D.str) lo hi).length ≤ ws.length := fun lo hi => by
    have := cut_len (ws.map D.str) lo hi
    rw [List.length_map] at this
    exact this
  have c1 := cl none (some ((i : Nat) : Int))
  have c2 := cl (some (((i : Nat) : Int) + 1)) none
  have c3 := cl none (some (((i : Nat) : Int) + 1))
  have c4 := cl (some ((i : Nat) : Int)) none
  refine ⟨okD_int _ _, okD_int _ _, ?_⟩
  refine itI (fun h => ?_) (fun h => ?_)
  · refine ⟨rfl, ?_⟩
    refine ⟨by omega, ?_⟩
    rw [tk, i1, dp, ← List.map_append]
    exact fin _ m3 f3 ((sc.take _).app (sc.drop _)) (by rw [wt_app]; omega)
  refine ⟨okD_int _ _, okD_int _ _, ?_⟩
  refine itI (fun h => ?_) (fun h => ?_)
  · refine ⟨rfl, ?_⟩
    refine ⟨by omega, ?_⟩
    rw [i1, tk, dp, ← List.map_append]
    exact fin _ m3 f3 ((sc.take _).app (sc.drop _)) (by rw [wt_app]; omega)
  have pick : ∀ (z : Int), 0 ≤ z → z < 22 → ∃ v, L2.atI (some19.map D.str) z = some (.str v) ∧ v.length ≤ 7 ∧ ∀ c ∈ v, c < 1114112 := fun z z0 z1 => by
    obtain ⟨j, rfl⟩ := Int.eq_ofNat_of_zero_le z0
    have hlt : j < some19.length := by show j < 22; omega
    obtain ⟨v, hv⟩ : ∃ v, some19[j]? = some v := ⟨_, List.getElem?_eq_getElem hlt⟩
    exact ⟨v, stw_at hv, some19_ok v (List.mem_of_getElem? hv)⟩
  refine ⟨okD_int _ _, okD_int _ _, ?_⟩
  refine itI (fun h => ?_) (fun h => ?_)
  · refine ⟨rfl, ?_⟩
    refine ⟨f3.live, rfl, m3, 22, rfl, f3, rfl, by omega, by omega, fun z m4 f4 z0 z1 => ?_⟩
    obtain ⟨v, e, v1, v2⟩ := pick z z0 z1
    refine on_some e ?_
    refine ⟨by show 1 ≤ 1000; omega, ?_⟩
    refine ⟨by show _ + 1 ≤ 1000000; omega, ?_⟩
    refine ⟨by rw [List.length_append]; show _ + 1 + _ ≤ 1000000; omega, ?_⟩
    have z := fin (ws.take i ++ [v] ++ ws.drop (i + 1)) m4 f4 (((sc.take _).app (Chr.one v2)).app (sc.drop _)) (by rw [wt_app, wt_app, wt_cons, wt_nil]; omega)
    rw [List.map_append, List.map_append] at z
    rw [tk, i1, dp]
    exact z
  refine ⟨okD_int _ _, okD_int _ _, ?_⟩
  refine itI (fun h => ?_) (fun h => ?_)
  · refine ⟨rfl, ?_⟩
    refine ⟨f3.live, rfl, m3, 22, rfl, f3, rfl, by omega, by omega, fun z m4 f4 z0 z1 => ?_⟩
    obtain ⟨v, e, v1, v2⟩ := pick z z0 z1
    refine on_some e ?_
    refine ⟨by show 1 ≤ 1000; omega, ?_⟩
    refine ⟨by show _ + 1 ≤ 1000000; omega, ?_⟩
    refine ⟨by rw [List.length_append]; show _ + 1 + _ ≤ 1000000; omega, ?_⟩
    have z := fin (ws.take i ++ [v] ++ ws.drop i) m4 f4 (((sc.take _).app (Chr.one v2)).app (sc.drop _)) (by rw [wt_app, wt_app, wt_cons, wt_nil]; omega)
    rw [List.map_append, List.map_append] at z
    rw [tk, dp]
    exact z
  have s1 : ((s : Nat) : Int) + 1 = ((s + 1 : Nat) : Int) := by omega
  have ls : (r.take s).length ≤ r.length := by rw [List.length_take]; omega
  have ld : ∀ j, (r.drop j).length ≤ r.length := fun j => by rw [List.length_drop]; omega
  refine ⟨okD_int _ _, okD_int _ _, ?_⟩
  refine itI (fun h => ?_) (fun h => ?_)
  · refine ⟨by omega, ?_⟩
    rw [cut_to]
    refine ⟨by omega, ?_⟩
    rw [s1, cut_from]
    have := ld (s + 1)
    refine ⟨by omega, ?_⟩
    refine q _ m3 f3 ⟨by rw [List.length_append]; omega, fun c hc => ?_⟩
    rcases List.mem_append.mp hc with z | z
    · exact rc c (List.mem_of_mem_take z)
    · exact rc c (List.mem_of_mem_drop z)
  · refine ⟨by omega, ?_⟩
    rw [cut_to]
    refine ⟨f3.live, rfl, m3, rfl, f3, rfl, fun c m4 f4 hc => ?_⟩
    refine ⟨by show _ + 1 ≤ 1000000; omega, ?_⟩
    refine ⟨f4.live, rfl, m4, 2, rfl, f4, rfl, by omega, by omega, fun z m5 f5 z0 z1 => ?_⟩
    obtain ⟨j, rfl⟩ := Int.eq_ofNat_of_zero_le z0
    refine ⟨by omega, ?_⟩
    rw [show ((s : Nat) : Int) + ((j : Nat) : Int) = ((s + j : Nat) : Int) by omega, cut_from]
    have := ld (s + j)
    have l3 : (r.take s ++ [c]).length = (r.take s).length + 1 := by rw [List.length_append]; rfl
    refine ⟨by omega, ?_⟩
    refine q _ m5 f5 ⟨by rw [List.length_append]; omega, fun x hx => ?_⟩
    rcases List.mem_append.mp hx with z | z
    · rcases List.mem_append.mp z with z | z
      · exact rc x (List.mem_of_mem_take z)
      · rw [List.mem_singleton.mp z]; exact hc
    · exact rc x (List.mem_of_mem_drop z)
def rows19 : List (List Nat) := [lit "", lit "room", lit "room 0", lit "ends", lit "ends 0", lit "begin 0", lit "letters a", lit "letters ab", lit "room 0 0", lit "end", lit " "]
theorem rows19_ok : ∀ w ∈ rows19, w.length ≤ 10 ∧ ∀ c ∈ w, c < 1114112 := by decide +kernel
def S_w_otherwise19 : FS := fun xs mu Q => ∃ (m : MC) (t : List Nat) (R : Nat), mu = [m] ∧ FlowOk m ∧ xs = [.cel 0, .dat (.str t)] ∧ TxtB 4000 t ∧ (∀ r ∈ splitC 10 t, r.length ≤ R) ∧ R ≤ 4000 ∧ ∀ (t' : List Nat) m', FlowOk m' → TxtB (t.length + R + 11) t' → Q (.dv (.dat (.str t'))) [m']
theorem len_w_otherwise19 : ∀ xs mu Q, S_w_otherwise19 xs mu Q → xs.length = 2 := fun xs mu Q h => by
  obtain ⟨_, _, _, _, _, rfl, _⟩ := h
  rfl
def t_w_otherwise19 : DS :=
  (dSeq (dSet 2 (dCallR S_w_pick (aCons (dVar 0) (aCons (dC (.int 8)) aNil))))
  (dSeq (dSet 3 (dNew (fSplit 10 (dVar 1) (aCons (dC (.str (lit "\n"))) aNil))))
  (dSeq (dSet 4 (dCallR S_w_pick (aCons (dVar 0) (aCons (dCB dLen (aCons (dVar 3) aNil)) aNil))))
  (dSeq (dSet 5 (dCallR S_w_pick (aCons (dVar 0) (aCons (dCB dLen (aCons (dVar 3) aNil)) aNil))))
  (dSeq (dSet 6 (dFrz (fLst (aCons (dC (.str (lit ""))) (aCons (dC (.str (lit "room"))) (aCons (dC (.str (lit "room 0"))) (aCons (dC (.str (lit "ends"))) (aCons (dC (.str (lit "ends 0"))) (aCons (dC (.str (lit "begin 0"))) (aCons (dC (.str (lit "letters a"))) (aCons (dC (.str (lit "letters ab"))) (aCons (dC (.str (lit "room 0 0"))) (aCons (dC (.str (lit "end"))) (aCons (dC (.str (lit " "))) aNil))))))))))))))
  (dJn (dIf (dTest (dOp dLt (dVar 2) (dC (.int 4))))
  (dPutL (dVar 3) (dVar 4) (dCallR S_w_row_otherwise19 (aCons (dVar 0) (aCons (dOp dIx (dVar 3) (dVar 4)) aNil))))
  (dIf (dTest (dOp dEq (dVar 2) (dC (.int 4))))
  (dSet 3 (dNew (fOp fCat (dFrz (fSl (dVar 3) oNone (oSome (dVar 4)))) (dFrz (fSl (dVar 3) (oSome (dOp dAdd (dVar 4) (dC (.int 1)))) oNone)))))
  (dIf (dTest (dOp dEq (dVar 2) (dC (.int 5))))
  (dSet 3 (dNew (fOp fCat (dFrz (fSl (dVar 3) oNone (oSome (dOp dAdd (dVar 4) (dC (.int 1)))))) (dFrz (fSl (dVar 3) (oSome (dVar 4)) oNone)))))
  (dIf (dTest (dOp dEq (dVar 2) (dC (.int 6))))
  (dPut2L (dVar 3) (dVar 4) (dVar 3) (dVar 5) (aCons (dOp dIx (dVar 3) (dVar 5)) (aCons (dOp dIx (dVar 3) (dVar 4)) aNil)))
  (dSet 3 (dNew (fOp fCat (dFrz (fOp fCat (dFrz (fSl (dVar 3) oNone (oSome (dVar 4)))) (dFrz (fLst (aCons (dOp dIx (dVar 6) (dCallR S_w_pick (aCons (dVar 0) (aCons (dCB dLen (aCons (dVar 6) aNil)) aNil)))) aNil))))) (dFrz (fSl (dVar 3) (oSome (dOp dAdd (dVar 4) (dCallR S_w_pick (aCons (dVar 0) (aCons (dC (.int 2)) aNil))))) oNone)))))))))
  (dRet (dBM "str" dJoin (dC (.str (lit "\n"))) (aCons (dVar 3) aNil)))))))))
theorem rd_w_otherwise19 : Body t_w_otherwise19 ["_law_flow_here", "_law_text", "_law_way", "_law_rows", "_law_at", "_law_other", "_law_some"] S_w_otherwise19 := fun xs mu Q h => by
  obtain ⟨m, t, R, rfl, fo, rfl, ⟨tl, tc⟩, hR, hR4, q⟩ := h
  refine ⟨fo.live, rfl, m, 8, rfl, fo, rfl, by omega, by omega, fun wy m1 f1 w0 w6 => ?_⟩
  refine ⟨rfl, ?_⟩
  refine ⟨⟨lit_nl, by decide, by omega⟩, ?_⟩
  have sw := wt_split 10 t
  have sc : Chr (splitC 10 t) := chr_split (n := 4000) ⟨tl, tc⟩
  have s0 : 0 < (splitC 10 t).length := by
    obtain ⟨u, ws, hs⟩ := split_cons (r := t) 10
    rw [hs, List.length_cons]
    omega
  generalize splitC 10 t = ws at sw sc s0 hR
  have wl := wt_len ws
  refine ⟨f1.live, rfl, m1, ((ws.map D.str).length : Int), rfl, f1, rfl, by rw [List.length_map]; omega, by rw [List.length_map]; omega, fun at' m2 f2 a0 a1 => ?_⟩
  rw [List.length_map] at a1
  obtain ⟨i, rfl⟩ := Int.eq_ofNat_of_zero_le a0
  have hi : i < ws.length := by omega
  obtain ⟨w, hw⟩ : ∃ w, ws[i]? = some w := ⟨_, List.getElem?_eq_getElem hi⟩
  have wR := hR w (List.mem_of_getElem? hw)
  have wc := sc w (List.mem_of_getElem? hw)
  have t1 := wt_td ws i
  have t2 := wt_at hw
  have t3 := wt_take1 hw
  refine ⟨f2.live, rfl, m2, ((ws.map D.str).length : Int), rfl, f2, rfl, by rw [List.length_map]; omega, by rw [List.length_map]; omega, fun ot m3 f3 b0 b1 => ?_⟩
  rw [List.length_map] at b1
  obtain ⟨j, rfl⟩ := Int.eq_ofNat_of_zero_le b0
  have hj : j < ws.length := by omega
  obtain ⟨v, hv⟩ : ∃ v, ws[j]? = some v := ⟨_, List.getElem?_eq_getElem hj⟩
  have vR := hR v (List.mem_of_getElem? hv)
  refine ⟨by show 11 ≤ 1000; omega, ?_⟩
  have tk : ∀ j : Nat, cut (ws.map D.str) none (some (j : Int)) = (ws.take j).map D.str := fun j => by rw [cut_to, List.map_take]
  have dp : ∀ j : Nat, cut (ws.map D.str) (some (j : Int)) none = (ws.drop j).map D.str := fun j => by rw [cut_from, List.map_drop]
  have i1 : ((i : Nat) : Int) + 1 = ((i + 1 : Nat) : Int) := by omega
  have fin1 : ∀ (us : List (List Nat)) (m' : MC), FlowOk m' → Chr us → wt us ≤ t.length + R + 12 → dJoin (.dat (.str (lit "\n"))) [.cel 1] [m', .lst (us.map D.str)] fun x mu1 => retQ 1 Q (.dv x) mu1 := fun us m' f' hc hl => by
    rw [lit_nl]
    unfold dJoin
    refine on_some (a := us) (toSs_of us) ⟨?_, q (joinC 10 us) m' f' ⟨?_, hc.join (by omega)⟩⟩
    · unfold wt at hl
      show _ + us.length * 1 ≤ _
      omega
    · have := joinC_wt 10 us
      omega
  have fin2 : ∀ (us : List (List Nat)) (m' x : MC), FlowOk m' → Chr us → wt us ≤ t.length + R + 12 → dJoin (.dat (.str (lit "\n"))) [.cel 2] [m', x, .lst (us.map D.str)] fun x mu1 => retQ 1 Q (.dv x) mu1 := fun us m' x f' hc hl => by
    rw [lit_nl]
    unfold dJoin
    refine on_some (a := us) (toSs_of us) ⟨?_, q (joinC 10 us) m' f' ⟨?_, hc.join (by omega)⟩⟩
    · unfold wt at hl
      show _ + us.length * 1 ≤ _
      omega
    · have := joinC_wt 10 us
      omega
  have cl : ∀ lo hi, (cut (ws.map D.str) lo hi).length ≤ ws.length := fun lo hi => by
    have := cut_len (ws.map D.str) lo hi
    rw [List.length_map] at this
    exact this
  have c1 := cl none (some ((i : Nat) : Int))
  have c2 := cl (some (((i : Nat) : Int) + 1)) none
  have c3 := cl none (some (((i : Nat) : Int) + 1))
  have c4 := cl (some ((i : Nat) : Int)) none
  refine jn_go ?_
  refine itD (p := wy < 4) (fun h => ?_) (fun h => ?_)
  · refine on_some (a := D.str w) (stw_at hw) ?_
    refine ⟨f3.live, rfl, m3, w, rfl, f3, rfl, ⟨by omega, wc⟩, fun r' m4 f4 hB => ?_⟩
    refine on_some (a := i) (Evl.ixN_nat (by rw [List.length_map]; exact hi)) ?_
    refine ⟨rfl, ?_⟩
    have ws1 := wt_set (v := r') hw
    have z := fin1 (ws.set i r') m4 f4 (sc.set hB.2) (by have := hB.1; omega)
    rw [List.map_set] at z
    exact z
  refine ⟨okD_int _ _, okD_int _ _, ?_⟩
  refine itI (fun h => ?_) (fun h => ?_)
  · refine ⟨by omega, ?_⟩
    refine ⟨rfl, ?_⟩
    have z := fin2 (ws.take i ++ ws.drop (i + 1)) m3 (.lst (ws.map D.str)) f3 ((sc.take _).app (sc.drop _)) (by rw [wt_app]; omega)
    rw [List.map_append, ← tk, ← dp, ← i1] at z
    exact z
  refine ⟨okD_int _ _, okD_int _ _, ?_⟩
  refine itI (fun h => ?_) (fun h => ?_)
  · refine ⟨by omega, ?_⟩
    refine ⟨rfl, ?_⟩
    have z := fin2 (ws.take (i + 1) ++ ws.drop i) m3 (.lst (ws.map D.str)) f3 ((sc.take _).app (sc.drop _)) (by rw [wt_app]; omega)
    rw [List.map_append, ← tk, ← dp, ← i1] at z
    exact z
  refine ⟨okD_int _ _, okD_int _ _, ?_⟩
  refine itI (fun h => ?_) (fun h => ?_)
  · refine on_some (a := D.str v) (stw_at hv) ?_
    refine on_some (a := D.str w) (stw_at hw) ?_
    refine on_some (a := i) (Evl.ixN_nat (by rw [List.length_map]; exact hi)) ?_
    refine on_some (a := j) (Evl.ixN_nat (by rw [List.length_set, List.length_map]; exact hj)) ?_
    refine ⟨rfl, ?_⟩
    have e1 := wt_set (v := v) hw
    have hv' : (ws.set i v)[j]? = some v := by
      by_cases e : i = j
      · subst e
        rw [List.getElem?_set_self hi]
      · rw [List.getElem?_set_ne e, hv]
    have e2 := wt_set (v := w) hv'
    have z := fin1 ((ws.set i v).set j w) m3 f3 ((sc.set (sc v (List.mem_of_getElem? hv))).set wc) (by omega)
    rw [List.map_set, List.map_set] at z
    exact z
  · refine ⟨f3.live, rfl, m3, 11, rfl, f3, rfl, by omega, by omega, fun z m4 f4 z0 z1 => ?_⟩
    obtain ⟨k, rfl⟩ := Int.eq_ofNat_of_zero_le z0
    obtain ⟨x, hx⟩ : ∃ x, rows19[k]? = some x := ⟨_, List.getElem?_eq_getElem (by show k < 11; omega)⟩
    obtain ⟨x1, x2⟩ := rows19_ok x (List.mem_of_getElem? hx)
    refine on_some (a := D.str x) (stw_at hx) ?_
    refine ⟨by show 1 ≤ 1000; omega, ?_⟩
    refine ⟨by show _ + 1 ≤ 1000000; omega, ?_⟩
    refine ⟨f4.live, rfl, m4, 2, rfl, f4, rfl, by omega, by omega, fun y m5 f5 y0 y1 => ?_⟩
    obtain ⟨e, rfl⟩ := Int.eq_ofNat_of_zero_le y0
    have c5 := cl (some (((i : Nat) : Int) + ((e : Nat) : Int))) none
    refine ⟨by rw [List.length_append]; show _ + 1 + _ ≤ 1000000; omega, ?_⟩
    refine ⟨rfl, ?_⟩
    have de : wt (ws.drop (i + e)) ≤ wt (ws.drop i) := by
      have := wt_td (ws.drop i) e
      rw [List.drop_drop] at this
      omega
    have z := fin2 (ws.take i ++ [x] ++ ws.drop (i + e)) m5 (.lst (ws.map D.str)) f5 (((sc.take _).app (Chr.one x2)).app (sc.drop _)) (by rw [wt_app, wt_app, wt_cons, wt_nil]; omega)
    rw [List.map_append, List.map_append, ← tk, ← dp, Int.natCast_add] at z
    exact z
/-! ### what is told of a text -/
def S_w_asked19 (fam : List Addr) : FS := fun xs mu Q => ∃ t : List Nat, xs = [.dat (.str t)] ∧ mu = [] ∧ t.length ≤ 10000 ∧ RowsB 4000 (splitC 10 t) ∧ Q (.dv (.dat (toldM (splitC 10 t)))) []
theorem len_w_asked19 {fam : List Addr} : ∀ xs mu Q, S_w_asked19 fam xs mu Q → xs.length = 1 := fun xs mu Q h => by
  obtain ⟨_, rfl, _⟩ := h
  rfl
def t_w_asked19 (a_NoText a_NoMachine a_NoFit a_NoName a_NoRow a_SpreadError : Addr) : DS :=
  (dSeq (dSet 1 (dC .non))
  (dSeq (dTryK [a_NoText, a_NoMachine, a_NoFit, a_NoName, a_NoRow, a_SpreadError] 2 1 (yRet (yTup (yCons (fun _ => (dC (.str (lit "told")))) (yCons (dCallY (S_read_machineY a_NoText) (aCons (dVar 0) aNil)) (fun _ => aNil))))))
  (dSeq (dIf (dTest (dOp dNe (dCall (S_w_caught [a_NoText, a_NoMachine, a_NoFit, a_NoName, a_NoRow, a_SpreadError]) (aCons (dVar 1) aNil)) (dC (.int 0))))
  (dRet (dC (.str (lit "another refusal"))))
  dNext)
  (dRet (dTup (aCons (dC (.str (lit "refused"))) (aCons (dXFld a_NoText "at" (dVar 1)) aNil)))))))
theorem rd_w_asked19 {a_NoText a_NoMachine a_NoFit a_NoName a_NoRow a_SpreadError : Addr} : Body (t_w_asked19 a_NoText a_NoMachine a_NoFit a_NoName a_NoRow a_SpreadError) ["_law_text", "_law_caught_here", "_law_e"] (S_w_asked19 [a_NoText, a_NoMachine, a_NoFit, a_NoName, a_NoRow, a_SpreadError]) := fun xs mu Q h => by
  obtain ⟨t, rfl, rfl, tl, rb, q⟩ := h
  unfold toldM at q
  refine ⟨rfl, t, rfl, rfl, tl, rb, fun M hM => ?_, fun i hi => ?_⟩
  · rw [hM] at q
    exact ⟨by show 2 ≤ 1000; omega, q⟩
  · rw [hi] at q
    refine ⟨⟨0, rfl⟩, ⟨by show 2 < 3; omega, by show 1 < 3; omega⟩, ?_⟩
    refine ⟨rfl, 0, a_NoText, _, _, rfl, rfl, rfl, by decide, ?_⟩
    refine ⟨okD_int _ _, okD_int _ _, ?_⟩
    refine ⟨rfl, ?_⟩
    refine on_some (a := natD i) rfl ?_
    exact ⟨by show 2 ≤ 1000; omega, q⟩

end Dx

namespace Dx
open PySem PySem.Spec PyProof.Rows L2
open Evl (Ex)
variable [Tb]
/-! ### a machine's text: told and written again -/
theorem nb1 : ∀ a, a < 10 → numS (valS [48 + a]) = [48 + a] := by decide +kernel
theorem nb2 : ∀ a, a < 10 → ∀ b, b < 10 → a ≠ 0 → numS (valS [48 + a, 48 + b]) = [48 + a, 48 + b] := by decide +kernel
theorem nb3 : ∀ a, a < 10 → ∀ b, b < 10 → ∀ c, c < 10 → a ≠ 0 → numS (valS [48 + a, 48 + b, 48 + c]) = [48 + a, 48 + b, 48 + c] := by decide +kernel
theorem nv1 : ∀ a, a < 10 → valS [48 + a] < 1000 := by decide +kernel
theorem nv2 : ∀ a, a < 10 → ∀ b, b < 10 → valS [48 + a, 48 + b] < 1000 := by decide +kernel
theorem nv3 : ∀ a, a < 10 → ∀ b, b < 10 → ∀ c, c < 10 → valS [48 + a, 48 + b, 48 + c] < 1000 := by decide +kernel
theorem fig_of {c : Nat} (h : isFig c = true) : ∃ a, a < 10 ∧ c = 48 + a := by
  unfold isFig at h
  rw [Bool.and_eq_true, decide_eq_true_eq, decide_eq_true_eq] at h
  exact ⟨c - 48, by omega, by omega⟩
theorem isNum_back {w : List Nat} (h : isNumW w = true) : numS (valS w) = w ∧ valS w < 1000 := by
  obtain ⟨hf, hn, hl⟩ := isNum_parts h
  have hd : w = lit "0" ∨ ¬ w.head? = some 48 := by
    unfold isNumW at h
    rw [Bool.and_eq_true, Bool.or_eq_true, decide_eq_true_eq, Bool.not_eq_true', decide_eq_false_iff_not] at h
    exact h.2
  rw [lit_0] at hd
  rw [List.all_eq_true] at hf
  match w, hn, hl with
  | [x], _, _ =>
    obtain ⟨a, ha, rfl⟩ := fig_of (hf x (by simp))
    exact ⟨nb1 a ha, nv1 a ha⟩
  | [x, y], _, _ =>
    obtain ⟨a, ha, rfl⟩ := fig_of (hf x (by simp))
    obtain ⟨b, hb, rfl⟩ := fig_of (hf y (by simp))
    refine ⟨nb2 a ha b hb fun z => ?_, nv2 a ha b hb⟩
    rcases hd with e | e
    · have := congrArg List.length e
      simp at this
    · exact e (by rw [z]; rfl)
  | [x, y, u], _, _ =>
    obtain ⟨a, ha, rfl⟩ := fig_of (hf x (by simp))
    obtain ⟨b, hb, rfl⟩ := fig_of (hf y (by simp))
    obtain ⟨c, hc, rfl⟩ := fig_of (hf u (by simp))
    refine ⟨nb3 a ha b hb c hc fun z => ?_, nv3 a ha b hb c hc⟩
    rcases hd with e | e
    · have := congrArg List.length e
      simp at this
    · exact e (by rw [z]; rfl)
  | x :: y :: u :: v :: r, _, hl => rw [List.length_cons, List.length_cons, List.length_cons, List.length_cons] at hl; omega
theorem nums_row {w r ns : List Nat} {many : Option Nat} (h : numsAs w many r = some ns) : r = rowW w ns ∧ (∀ n ∈ ns, n < 1000) ∧ ns.length ≤ r.length := by
  unfold numsAs at h
  cases q : rowAs w r with
  | none =>
    rw [q] at h
    cases h
  | some ws =>
    rw [q] at h
    simp only at h
    by_cases c : ws.all isNumW = true ∧ (many = none ∨ many = some ws.length)
    · rw [if_pos c] at h
      cases h
      have hn := List.all_eq_true.mp c.1
      have e : (ws.map valS).map numS = ws := by
        rw [List.map_map]
        conv => rhs; rw [← List.map_id ws]
        exact List.map_congr_left fun v hv => (isNum_back (hn v hv)).1
      refine ⟨?_, fun n hm => ?_, ?_⟩
      · unfold rowW
        rw [e, ← rowAs_some q, join_split]
      · obtain ⟨v, hv, rfl⟩ := List.mem_map.mp hm
        exact (isNum_back (hn v hv)).2
      · have := wt_split 32 r
        rw [rowAs_some q, wt_cons] at this
        have := wt_len ws
        rw [List.length_map]
        omega
    · rw [if_neg c] at h
      cases h
theorem scan_rooms {n : Nat} : ∀ {rs : List (List Nat)} {i : Nat} {nss : List (List Nat)}, 3 ≤ i → scanM n i rs = .ok nss → rs = nss.map (rowW (lit "room")) ∧ ∀ ns ∈ nss, ns.length = n ∧ ∀ x ∈ ns, x < 1000
  | [], i, nss, _, h => by
    have e : nss = [] := (Except.ok.inj h).symm
    subst e
    exact ⟨rfl, fun ns hn => nomatch hn⟩
  | r :: rs, i, nss, hi, h => by
    cases q : rowN n i r with
    | none =>
      rw [scan_bad q] at h
      cases h
    | some ns =>
      rw [scan_good q] at h
      cases q2 : scanM n (i + 1) rs with
      | error e =>
        rw [q2] at h
        cases h
      | ok m =>
        rw [q2] at h
        have e : nss = [ns] ++ m := (Except.ok.inj h).symm
        subst e
        obtain ⟨e1, e2⟩ := scan_rooms (by omega) q2
        have qn : numsAs (lit "room") (some n) r = some ns := by
          unfold rowN at q
          rw [if_neg (by omega), if_neg (by omega)] at q
          exact q
        obtain ⟨a, b, _⟩ := nums_row qn
        refine ⟨by rw [List.singleton_append, List.map_cons, ← e1, ← a], fun x hx => ?_⟩
        rcases List.mem_cons.mp hx with z | z
        · rw [z]
          exact ⟨numsAs_one qn, b⟩
        · exact e2 x z
theorem lets_row {r L : List Nat} (h : letsAs r = some L) : r = joinC 32 [lit "letters", L] ∧ areLet L = true := by
  unfold letsAs at h
  cases q : rowAs (lit "letters") r with
  | none =>
    rw [q] at h
    cases h
  | some ws =>
    rw [q] at h
    match ws, q, h with
    | [L'], q, h =>
      simp only at h
      by_cases c : areLet L' = true
      · rw [if_pos c] at h
        cases h
        exact ⟨by rw [← rowAs_some q, join_split], c⟩
      · rw [if_neg c] at h
        cases h
    | [], q, h => cases h
    | a :: c :: d, q, h => cases h
/-- the machine whose text it is -/
theorem read_rows {rows : List (List Nat)} {M : Mach} (h : readM rows = .ok M) : rows = rowsM M ∧ areLet M.L = true ∧ M.b < 1000 ∧ (∀ n ∈ M.ends, n < 1000) ∧ M.steps ≠ [] ∧ (∀ r ∈ M.steps, r.length = M.L.length ∧ ∀ n ∈ r, n < 1000) ∧ M.ends.length ≤ (rowW (lit "ends") M.ends).length := by
  cases rows with
  | nil => cases h
  | cons r0 t =>
    have h : (match letsAs r0 with | none => Except.error 0 | some L => finM (t.length + 1) L (scanM L.length 1 t)) = Except.ok M := h
    cases hL : letsAs r0 with
    | none =>
      rw [hL] at h
      cases h
    | some L =>
      rw [hL] at h
      simp only at h
      obtain ⟨e0, aL⟩ := lets_row hL
      cases t with
      | nil => cases h
      | cons r1 t =>
        cases q1 : rowN L.length 1 r1 with
        | none =>
          rw [scan_bad q1] at h
          cases h
        | some b =>
          rw [scan_good q1] at h
          have q1 : numsAs (lit "begin") (some 1) r1 = some b := q1
          obtain ⟨e1, b1, _⟩ := nums_row q1
          cases t with
          | nil => cases h
          | cons r2 t =>
            cases q2 : rowN L.length 2 r2 with
            | none =>
              rw [scan_bad q2] at h
              cases h
            | some e =>
              rw [scan_good q2, preM_pre] at h
              have q2 : numsAs (lit "ends") none r2 = some e := q2
              obtain ⟨e2, b2, l2⟩ := nums_row q2
              cases q3 : scanM L.length 3 t with
              | error i =>
                rw [q3] at h
                cases h
              | ok nss =>
                rw [q3] at h
                obtain ⟨e3, b3⟩ := scan_rooms (Nat.le_refl 3) q3
                cases nss with
                | nil => cases h
                | cons s ss =>
                  have h : Except.ok (⟨L, b.headD 0, e, s :: ss⟩ : Mach) = Except.ok M := h
                  have h := Except.ok.inj h
                  subst h
                  obtain ⟨x, rfl⟩ : ∃ x, b = [x] := by
                    have := numsAs_one q1
                    match b, this with
                    | [x], _ => exact ⟨x, rfl⟩
                  refine ⟨?_, aL, b1 x (by simp), b2, List.cons_ne_nil _ _, b3, by rw [← e2]; exact l2⟩
                  unfold rowsM
                  rw [e0, e1, e2, e3]
                  rfl
theorem nums_good {w ns : List Nat} {many : Option Nat} (hw : 32 ∉ w) (hn : ∀ n ∈ ns, n < 1000) (hm : many = none ∨ many = some ns.length) : numsAs w many (rowW w ns) = some ns := by
  unfold numsAs
  rw [rowAs_of (row_split hw)]
  simp only
  rw [if_pos ⟨List.all_eq_true.mpr fun v hv => by
    obtain ⟨n, h1, rfl⟩ := List.mem_map.mp hv
    exact num_ok n (hn n h1), by rw [List.length_map]; exact hm⟩, List.map_map]
  conv => rhs; rw [← List.map_id ns]
  exact congrArg some (List.map_congr_left fun n _ => numS_val n)
theorem scan_all {n : Nat} : ∀ {ss : List (List Nat)} {i : Nat}, 3 ≤ i → (∀ r ∈ ss, r.length = n ∧ ∀ x ∈ r, x < 1000) → scanM n i (ss.map (rowW (lit "room"))) = .ok ss
  | [], i, _, _ => rfl
  | s :: ss, i, hi, h => by
    have q : rowN n i (rowW (lit "room") s) = some s := by
      unfold rowN
      rw [if_neg (by omega), if_neg (by omega)]
      exact nums_good no32.2.2 (h s (by simp)).2 (.inr (by rw [(h s (by simp)).1]))
    rw [List.map_cons, scan_good q, scan_all (by omega) fun r hr => h r (by simp [hr])]
    rfl
theorem read_good {M : Mach} (wr : MWr M) : readM (rowsM M) = .ok M := by
  have hL : letsAs (joinC 32 [lit "letters", M.L]) = some M.L := by
    unfold letsAs
    rw [rowAs_of (lets_split wr.letters)]
    simp only
    rw [if_pos (areLet_of wr.letters wr.len.1)]
  show (match letsAs (joinC 32 [lit "letters", M.L]) with | none => Except.error 0 | some L => finM _ L (scanM L.length 1 (rowW (lit "begin") [M.b] :: rowW (lit "ends") M.ends :: M.steps.map (rowW (lit "room"))))) = _
  rw [hL]
  simp only
  rw [scan_good (show rowN M.L.length 1 (rowW (lit "begin") [M.b]) = some [M.b] from nums_good (w := lit "begin") (ns := [M.b]) (many := some 1) no32.1 (fun n hn => by rw [List.mem_singleton.mp hn]; exact wr.b) (.inr rfl)),
    scan_good (show rowN M.L.length 2 (rowW (lit "ends") M.ends) = some M.ends from nums_good no32.2.1 wr.e (.inl rfl)), preM_pre, scan_all (Nat.le_refl 3) wr.s]
  obtain ⟨s, ss, e⟩ := List.exists_cons_of_ne_nil (fun z : M.steps = [] => by have := wr.sl.1; rw [z] at this; exact absurd this (Nat.lt_irrefl _))
  cases M with
  | mk L b en st =>
    simp only at e
    subst e
    rfl
theorem mach_plainN {n : Nat} {M : Mach} (hc : ∀ c ∈ M.L, c < 1114112) (he : M.ends.length ≤ 90000) (hs : M.steps.length ≤ 90000) (hr : ∀ r ∈ M.steps, r.length ≤ 90000) : plainD (n + 3) M.toD = true := by
  have hn : ∀ (k : Nat) (l : List Nat), plainDs k (l.map natD) = true := fun k l => plains_of fun d hd => by
    obtain ⟨j, _, rfl⟩ := List.mem_map.mp hd
    cases k <;> rfl
  unfold Mach.toD
  rw [plainD, plainDs, plainDs, plainDs, plainDs, plainDs, plainD, plainD, plainD, hn, Bool.and_eq_true_iff]
  refine ⟨decide_eq_true (by show 4 ≤ _; omega), ?_⟩
  have h1 : (M.L.all (· < 0x110000)) = true := List.all_eq_true.mpr fun c h => decide_eq_true (hc c h)
  have h2 : plainDs (n + 1) (M.steps.map rowD) = true := plains_of fun d hd => by
    obtain ⟨r, h, rfl⟩ := List.mem_map.mp hd
    have := hr r h
    unfold rowD
    rw [plainD, hn, Bool.and_true]
    exact decide_eq_true (by rw [List.length_map]; omega)
  rw [h1, h2, decide_eq_true (by rw [List.length_map]; omega : (M.ends.map natD).length ≤ 90000), decide_eq_true (by rw [List.length_map]; omega : (M.steps.map rowD).length ≤ 90000)]
  rfl
theorem told_plain {d : D} {s : List Nat} (hs : ∀ c ∈ s, c < 1114112) (h : plainD 4 d = true) : plainD 5 (.tup [.str s, d]) = true := by
  rw [plainD, plainDs, plainDs, plainDs, h, plainD, List.all_eq_true.mpr fun c hc => decide_eq_true (hs c hc)]
  rfl
/-- a machine that was read of a short text -/
theorem read_sm {t : List Nat} {M : Mach} (tb : TxtB 800 t) (h : readM (splitC 10 t) = .ok M) : mtext M = t ∧ MSm M ∧ (∀ c ∈ M.L, c < 1114112) := by
  obtain ⟨e, aL, b, en, sn, st, le⟩ := read_rows h
  have rb := split_B (c := 10) tb
  rw [e] at rb
  have l0 := rb.2 (joinC 32 [lit "letters", M.L]) (List.mem_cons_self ..)
  have l2 := (rb.2 (rowW (lit "ends") M.ends) (by unfold rowsM; simp)).1
  have lL : M.L.length ≤ 800 := by
    have := l0.1
    rw [joinC_two, List.length_append] at this
    omega
  have l3 := rb.1
  rw [rowsM_len] at l3
  unfold areLet at aL
  rw [Bool.and_eq_true, Bool.and_eq_true, decide_eq_true_eq, decide_eq_true_eq] at aL
  have hc : ∀ c ∈ M.L, c ∈ abc := fun c hc => of_decide_eq_true (List.all_eq_true.mp aL.2.1 c hc)
  have l26 : M.L.length ≤ 26 := by
    have := nodup_le (rise_nd aL.2.2) (m := abc) hc
    rw [abc_eq] at this
    exact this
  refine ⟨by unfold mtext; rw [← e, join_split], ⟨by omega, Nat.lt_trans b (by decide), fun n hn => Nat.lt_trans (en n hn) (by decide), by omega, fun r hr => ⟨by rw [(st r hr).1]; omega, fun n hn => Nat.lt_trans ((st r hr).2 n hn) (by decide)⟩, by omega⟩, fun c h => ?_⟩
  have := abc_range (hc c h)
  omega

end Dx

namespace Lw
open PySem PySem.Spec PyProof.Rows L2 Dx
open Evl (Ex)
variable [Tb]
def S_law (K : PySem.W.Frag) : FS := fun xs mu Q => ∃ ns : List Int, xs = [.dat (.scr K ns)] ∧ ns.length ≤ 63 ∧ mu = [] ∧ Q (.dv (.dat (.bl true))) []
theorem len_law {K : PySem.W.Frag} : ∀ xs mu Q, S_law K xs mu Q → xs.length = 1 := fun xs mu Q h => by
  obtain ⟨_, rfl, _⟩ := h
  rfl
def bnd : Nat → Nat
  | 0 => 515
  | 1 => 634
  | 2 => 1279
  | _ => 2569
theorem bnd_le (j : Nat) : bnd j ≤ 2569 := by
  match j with
  | 0 => decide
  | 1 => decide
  | 2 => decide
  | j + 3 => exact Nat.le_refl _
theorem bnd_step {j : Nat} (h1 : 1 ≤ j) (h2 : j < 3) : 2 * bnd j + 11 ≤ bnd (j + 1) := by
  match j, h1, h2 with
  | 1, _, _ => decide
  | 2, _, _ => decide
def t_law (K : PySem.W.Frag) (a_NoText a_NoMachine a_NoFit a_NoName a_NoRow a_SpreadError : Addr) : DS :=
  (dSeq (dSet 1 (dCallN (S_w_flow K) (aCons (dVar 0) aNil)))
  (dSeq (dSet 2 (dCallR S_w_any_machineB (aCons (dVar 1) aNil)))
  (dSeq (dSet 3 (dCall S_w_machine_text (aCons (dVar 2) aNil)))
  (dSeq (dSet 4 (dNew (fLst (aCons (dC (.str (lit ""))) aNil))))
  (dSeq (dFor (iRg1 (aCons (dC (.int 8)) aNil)) (dgN 5)
  (dSeq (dSet 6 (dVar 3))
  (dSeq (dFor (iRg1 (aCons (dOp dAdd (dC (.int 1)) (dCallR S_w_pick (aCons (dVar 1) (aCons (dC (.int 3)) aNil)))) aNil)) (dgN 7)
  (dSet 6 (dCallR S_w_otherwise19 (aCons (dVar 1) (aCons (dVar 6) aNil)))))
  (dDrop (dBM "list" dAppend (dVar 4) (aCons (dVar 6) aNil))))))
  (dFz 4 (dSeq (dFor (iDat (dVar 4)) (dgN 6)
  (dSeq (dSet 8 (dCall S_w_read19 (aCons (dVar 6) aNil)))
  (dSeq (dIf (dAnd (dTest (dOp dLt (dCB dLen (aCons (dVar 6) aNil)) (dC (.int 801)))) (dNot (dTest (dCall (S_w_alike 6) (aCons (dCall (S_w_asked19 [a_NoText, a_NoMachine, a_NoFit, a_NoName, a_NoRow, a_SpreadError]) (aCons (dVar 6) aNil)) (aCons (dVar 8) aNil))))))
  (dRet (dC (.bl false)))
  dNext)
  (dSeq (dIf (dAnd (dTest (dOp dLt (dCB dLen (aCons (dVar 6) aNil)) (dC (.int 801)))) (dAnd (dTest (dOp dEq (dOp dIx (dVar 8) (dC (.int 0))) (dC (.str (lit "told"))))) (dTest (dOp dNe (dCall S_show_machine (aCons (dOp dIx (dVar 8) (dC (.int 1))) aNil)) (dVar 6)))))
  (dRet (dC (.bl false)))
  dNext)
  (dIf (dNot (dTest (dCall (S_w_alike 6) (aCons (dCall (S_w_asked19 [a_NoText, a_NoMachine, a_NoFit, a_NoName, a_NoRow, a_SpreadError]) (aCons (dVar 3) aNil)) (aCons (dTup (aCons (dC (.str (lit "told"))) (aCons (dVar 2) aNil))) aNil)))))
  (dRet (dC (.bl false)))
  dNext)))))
  (dRet (dC (.bl true))))))))))
theorem rd_law {K : PySem.W.Frag} {a_NoText a_NoMachine a_NoFit a_NoName a_NoRow a_SpreadError : Addr} : Body (t_law K a_NoText a_NoMachine a_NoFit a_NoName a_NoRow a_SpreadError) ["_law_script", "_law_flow_here", "_law_machine", "_law_good", "_law_texts", "_law_k", "_law_text", "_law_turn", "_law_due"] (S_law K) := fun xs mu Q h => by
  obtain ⟨ns, rfl, h63, rfl, q⟩ := h
  refine ⟨rfl, ns, rfl, h63, rfl, ?_⟩
  have fo0 : FlowOk (.lst [.lst (ns.map D.int), .int 0, .int 0, .int 1, .int 0]) := ⟨ns, 0, 0, 1, 0, rfl, by omega, h63, by omega, by omega, by omega⟩
  generalize (MC.lst [.lst (ns.map D.int), .int 0, .int 0, .int 1, .int 0]) = m0 at fo0 ⊢
  refine ⟨fo0.live, rfl, m0, rfl, fo0, rfl, fun M m1 f1 wr he hz => ?_⟩
  refine ⟨rfl, M, rfl, rfl, wr.sm, ?_⟩
  have gs := mtext_split wr.letters
  have gl := mtext_short wr he hz
  have gc := mtext_chr wr.letters
  have gr := rowsM_short wr he
  have gg := read_good wr
  rw [← gs] at gr gg
  have gp : plainD 5 (.tup [.str (lit "told"), M.toD]) = true := told_plain (by decide +kernel) (mach_plainN (letters_lt wr.letters) (by omega) (by have := wr.sl.2; omega) fun r hr => by have := (wr.s r hr).1; have := wr.len.2; omega)
  generalize mtext M = good at gs gl gc gr gg
  clear gs
  refine ⟨by show 1 ≤ 1000; omega, ?_⟩
  refine ⟨by decide, by decide, ?_⟩
  refine for_inv (fun i rho mu => ∃ (ts : List (List Nat)) (m : MC) (x5 x6 x7 : Option DV), mu = [m, .lst (ts.map D.str)] ∧ FlowOk m ∧ ts.length = i + 1 ∧ (∀ t ∈ ts, TxtB 3900 t) ∧ rho = [some (.dat (.scr K ns)), some (.cel 0), some (.dat M.toD), some (.dat (.str good)), some (.cel 1), x5, x6, x7, none])
    ⟨[[]], m1, _, _, _, rfl, f1, rfl, fun t ht => by rw [List.mem_singleton.mp ht]; exact ⟨by decide, fun c hc => nomatch hc⟩, rfl⟩ (fun i d rho mu K1 hd hp ke => ?_) (fun rho mu hp => ?_)
  · obtain ⟨ts, m, x5, x6, x7, rfl, fo, lt, ht, rfl⟩ := hp
    obtain ⟨rfl, hi⟩ := rng_at hd
    have hi : i < 8 := hi
    refine ⟨fo.live, rfl, m, 3, rfl, fo, rfl, by omega, by omega, fun r m2 f2 r0 r1 => ?_⟩
    refine ⟨by omega, by omega, ?_⟩
    refine for_inv (fun j rho mu => ∃ (t : List Nat) (m : MC) (x5 x7 : Option DV), mu = [m, .lst (ts.map D.str)] ∧ FlowOk m ∧ (j = 0 → t = good) ∧ TxtB (bnd j) t ∧ rho = [some (.dat (.scr K ns)), some (.cel 0), some (.dat M.toD), some (.dat (.str good)), some (.cel 1), x5, some (.dat (.str t)), x7, none])
      ⟨good, m2, _, _, rfl, f2, fun _ => rfl, ⟨gl, gc⟩, rfl⟩ (fun j d rho mu K2 hd hp ke2 => ?_) (fun rho mu hp => ?_)
    · obtain ⟨t, m, x5, x7, rfl, fo, h0, tb, rfl⟩ := hp
      obtain ⟨rfl, hj⟩ := rng_at hd
      have hj : j < 3 := by omega
      have hb := bnd_le j
      by_cases j0 : j = 0
      · subst j0
        have := h0 rfl
        subst this
        refine ⟨fo.live, rfl, m, t, 108, rfl, fo, rfl, ⟨by omega, gc⟩, gr, by omega, fun t' m' f' tb' => ?_⟩
        exact ke2 _ _ ⟨t', m', _, _, rfl, f', fun z => absurd z (by omega), ⟨by have := tb'.1; show t'.length ≤ 634; omega, tb'.2⟩, rfl⟩
      · have b1 := tb.1
        refine ⟨fo.live, rfl, m, t, bnd j, rfl, fo, rfl, ⟨by omega, tb.2⟩, fun r hr => ((split_B tb).2 r hr).1, by omega, fun t' m' f' tb' => ?_⟩
        have := bnd_step (j := j) (by omega) hj
        exact ke2 _ _ ⟨t', m', _, _, rfl, f', fun z => absurd z (by omega), ⟨by have := tb'.1; omega, tb'.2⟩, rfl⟩
    · obtain ⟨t, m, x5, x7, rfl, fo, h0, tb, rfl⟩ := hp
      have hb := bnd_le (rngD 0 (1 + r).toNat).length
      refine ⟨rfl, ?_⟩
      refine ⟨by rw [List.length_map]; omega, ?_⟩
      refine ke _ _ ⟨ts ++ [t], m, _, _, _, by rw [List.map_append]; rfl, fo, by rw [List.length_append, lt]; rfl, fun u hu => ?_, rfl⟩
      rcases List.mem_append.mp hu with z | z
      · exact ht u z
      · rw [List.mem_singleton.mp z]
        exact ⟨by have := tb.1; omega, tb.2⟩
  · obtain ⟨ts, m, x5, x6, x7, rfl, fo, lt, ht, rfl⟩ := hp
    refine ⟨rfl, ?_⟩
    refine for_inv (fun i rho mu => ∃ (x5 x6 x7 x8 : Option DV), mu = [m, .dead] ∧ rho = [some (.dat (.scr K ns)), some (.cel 0), some (.dat M.toD), some (.dat (.str good)), some (.dat (.lst (ts.map D.str))), x5, x6, x7, x8]) ⟨_, _, _, _, rfl, rfl⟩ (fun i d rho mu K1 hd hp ke => ?_) (fun rho mu hp => ?_)
    · obtain ⟨x5, x6, x7, x8, rfl, rfl⟩ := hp
      rw [List.getElem?_map] at hd
      obtain ⟨t, hti, rfl⟩ := Option.map_eq_some_iff.mp hd
      have tb := ht t (List.mem_of_getElem? hti)
      have tl := tb.1
      refine ⟨rfl, t, rfl, rfl, tb, ?_⟩
      have gb : RowsB 4000 (splitC 10 good) := by
        have := split_B (c := 10) (n := 4000) (t := good) ⟨by omega, gc⟩
        exact ⟨by omega, this.2⟩
      have gtold : toldM (splitC 10 good) = .tup [.str (lit "told"), M.toD] := by
        unfold toldM
        rw [gg]
      have ok_s : ∀ (n : Nat) (s : List Nat), (∀ c ∈ s, c < 1114112) → okD n (.str s) = true := fun n s h => okS h
      have r1 : ∀ c ∈ lit "told", c < 1114112 := by decide +kernel
      have r2 : ∀ c ∈ lit "refused", c < 1114112 := by decide +kernel
      refine ⟨by omega, ?_⟩
      refine itD (p := ((t.length : Nat) : Int) < 801) (fun h => ?_) (fun h => ?_)
      · have t8 : TxtB 800 t := ⟨by omega, tb.2⟩
        have tr : RowsB 4000 (splitC 10 t) := by
          have := split_B (c := 10) t8
          exact ⟨by omega, fun r hr => ⟨Nat.le_trans (this.2 r hr).1 (by decide), (this.2 r hr).2⟩⟩
        refine ⟨rfl, t, rfl, rfl, by omega, tr, ?_⟩
        cases hM : readM (splitC 10 t) with
        | ok M' =>
          obtain ⟨em, sm, lc⟩ := read_sm t8 hM
          have et : toldM (splitC 10 t) = .tup [.str (lit "told"), M'.toD] := by
            unfold toldM
            rw [hM]
          rw [et]
          refine ⟨rfl, _, rfl, rfl, by decide, told_plain r1 (mach_plainN lc (by have := sm.el; omega) (by have := sm.sl; omega) fun r hr => by have := (sm.s r hr).1; omega), ?_⟩
          refine ⟨by omega, ?_⟩
          refine itD (p := ((t.length : Nat) : Int) < 801) (fun _ => ?_) (fun z => absurd h z)
          refine ⟨okS r1, okS r1, ?_⟩
          rw [eqD_str, decide_eq_true rfl]
          refine ⟨rfl, M', rfl, rfl, sm, ?_⟩
          refine ⟨okS (em ▸ tb.2), okS tb.2, ?_⟩
          rw [eqD_str, decide_eq_true em]
          refine ⟨rfl, good, rfl, rfl, by omega, gb, ?_⟩
          rw [gtold]
          refine ⟨by show 2 ≤ 1000; omega, ?_⟩
          refine ⟨rfl, _, rfl, rfl, by decide, gp, ?_⟩
          exact ke _ _ ⟨_, _, _, _, rfl, rfl⟩
        | error i =>
          have et : toldM (splitC 10 t) = .tup [.str (lit "refused"), natD i] := by
            unfold toldM
            rw [hM]
          rw [et]
          refine ⟨rfl, _, rfl, rfl, by decide, told_plain r2 rfl, ?_⟩
          refine ⟨by omega, ?_⟩
          refine itD (p := ((t.length : Nat) : Int) < 801) (fun _ => ?_) (fun z => absurd h z)
          refine ⟨okS r2, okS r1, ?_⟩
          rw [eqD_str, decide_eq_false (show ¬ lit "refused" = lit "told" by decide +kernel)]
          refine ⟨rfl, good, rfl, rfl, by omega, gb, ?_⟩
          rw [gtold]
          refine ⟨by show 2 ≤ 1000; omega, ?_⟩
          refine ⟨rfl, _, rfl, rfl, by decide, gp, ?_⟩
          exact ke _ _ ⟨_, _, _, _, rfl, rfl⟩
      · refine ⟨by omega, ?_⟩
        refine itD (p := ((t.length : Nat) : Int) < 801) (fun z => absurd z h) (fun _ => ?_)
        refine ⟨rfl, good, rfl, rfl, by omega, gb, ?_⟩
        rw [gtold]
        refine ⟨by show 2 ≤ 1000; omega, ?_⟩
        refine ⟨rfl, _, rfl, rfl, by decide, gp, ?_⟩
        exact ke _ _ ⟨_, _, _, _, rfl, rfl⟩
    · obtain ⟨x5, x6, x7, x8, rfl, rfl⟩ := hp
      exact q

end Lw

namespace Lw
open PySem PySem.Spec PyProof.Rows L2 Dx
open Evl (Ex)
def topS (i : Nat) : Stmt := PySem.Challenge.pw_spreadwords_k19_texts_of_no_machine.main.body.getD i (.Pass ⟨0, 0, 0, 0⟩)
section
variable [Tb]
abbrev s_is_word : Stmt := topS 9
theorem sc_is_word : FnScope ["text", "letter"] ["text"] (defScope s_is_word) := ⟨rfl, rfl, rfl, by decide +kernel, rfl, by decide +kernel, by decide +kernel⟩
abbrev s_row_text : Stmt := topS 12
theorem sc_row_text : FnScope ["word", "numbers", "number"] ["word", "numbers"] (defScope s_row_text) := ⟨rfl, rfl, rfl, by decide +kernel, rfl, by decide +kernel, by decide +kernel⟩
abbrev s_show_machine : Stmt := topS 13
theorem sc_show_machine : FnScope ["machine", "letters", "begin", "ends", "steps", "rows", "row"] ["machine"] (defScope s_show_machine) := ⟨rfl, rfl, rfl, by decide +kernel, rfl, by decide +kernel, by decide +kernel⟩
abbrev s_is_number : Stmt := topS 14
theorem sc_is_number : FnScope ["word", "sign"] ["word"] (defScope s_is_number) := ⟨rfl, rfl, rfl, by decide +kernel, rfl, by decide +kernel, by decide +kernel⟩
abbrev s_are_letters : Stmt := topS 15
theorem sc_are_letters : FnScope ["word"] ["word"] (defScope s_are_letters) := ⟨rfl, rfl, rfl, by decide +kernel, rfl, by decide +kernel, by decide +kernel⟩
abbrev s_MachineText___init__ : Stmt := (C8.clsBody (topS 16)).getD 0 (.Pass ⟨0, 0, 0, 0⟩)
theorem sc_MachineText___init__ : FnScope ["self", "text"] ["self", "text"] (defScope s_MachineText___init__) := ⟨rfl, rfl, rfl, by decide +kernel, rfl, by decide +kernel, by decide +kernel⟩
abbrev s_MachineText_words_behind : Stmt := (C8.clsBody (topS 16)).getD 1 (.Pass ⟨0, 0, 0, 0⟩)
theorem sc_MachineText_words_behind : FnScope ["self", "word", "words"] ["self", "word"] (defScope s_MachineText_words_behind) := ⟨rfl, rfl, rfl, by decide +kernel, rfl, by decide +kernel, by decide +kernel⟩
abbrev s_MachineText_need : Stmt := (C8.clsBody (topS 16)).getD 2 (.Pass ⟨0, 0, 0, 0⟩)
theorem sc_MachineText_need : FnScope ["self", "fits"] ["self", "fits"] (defScope s_MachineText_need) := ⟨rfl, rfl, rfl, by decide +kernel, rfl, by decide +kernel, by decide +kernel⟩
abbrev s_MachineText_letters : Stmt := (C8.clsBody (topS 16)).getD 3 (.Pass ⟨0, 0, 0, 0⟩)
theorem sc_MachineText_letters : FnScope ["self", "words"] ["self"] (defScope s_MachineText_letters) := ⟨rfl, rfl, rfl, by decide +kernel, rfl, by decide +kernel, by decide +kernel⟩
abbrev s_MachineText_numbers : Stmt := (C8.clsBody (topS 16)).getD 4 (.Pass ⟨0, 0, 0, 0⟩)
theorem sc_MachineText_numbers : FnScope ["self", "word", "many", "words", "one"] ["self", "word", "many"] (defScope s_MachineText_numbers) := ⟨rfl, rfl, rfl, by decide +kernel, rfl, by decide +kernel, by decide +kernel⟩
abbrev s_read_machine : Stmt := topS 17
theorem sc_read_machine : FnScope ["text", "reading", "letters", "begin", "ends", "steps"] ["text"] (defScope s_read_machine) := ⟨rfl, rfl, rfl, by decide +kernel, rfl, by decide +kernel, by decide +kernel⟩
abbrev s_w_flow : Stmt := topS 19
theorem sc_w_flow : FnScope ["_law_script"] ["_law_script"] (defScope s_w_flow) := ⟨rfl, rfl, rfl, by decide +kernel, rfl, by decide +kernel, by decide +kernel⟩
abbrev s_w_pick : Stmt := topS 20
theorem sc_w_pick : FnScope ["_law_flow_here", "_law_many", "_law_cell", "_law_digit"] ["_law_flow_here", "_law_many"] (defScope s_w_pick) := ⟨rfl, rfl, rfl, by decide +kernel, rfl, by decide +kernel, by decide +kernel⟩
abbrev s_w_alike : Stmt := topS 21
theorem sc_w_alike : FnScope ["_law_found", "_law_due", "_law_k"] ["_law_found", "_law_due"] (defScope s_w_alike) := ⟨rfl, rfl, rfl, by decide +kernel, rfl, by decide +kernel, by decide +kernel⟩
abbrev s_w_letters : Stmt := topS 22
theorem sc_w_letters : FnScope ["_law_flow_here", "_law_many", "_law_left", "_law_k"] ["_law_flow_here", "_law_many"] (defScope s_w_letters) := ⟨rfl, rfl, rfl, by decide +kernel, rfl, by decide +kernel, by decide +kernel⟩
abbrev s_w_caught : Stmt := topS 23
theorem sc_w_caught : FnScope ["_law_e", "_law_sorts"] ["_law_e"] (defScope s_w_caught) := ⟨rfl, rfl, rfl, by decide +kernel, rfl, by decide +kernel, by decide +kernel⟩
abbrev s_w_any_machineB : Stmt := topS 24
theorem sc_w_any_machineB : FnScope ["_law_flow_here", "_law_way", "_law_many", "_law_rooms", "_law_letters_here", "_law_ends", "_law_begin", "_law_k", "_law_room"] ["_law_flow_here"] (defScope s_w_any_machineB) := ⟨rfl, rfl, rfl, by decide +kernel, rfl, by decide +kernel, by decide +kernel⟩
abbrev s_w_number : Stmt := topS 25
theorem sc_w_number : FnScope ["_law_flow_here", "_law_wide"] ["_law_flow_here"] (defScope s_w_number) := ⟨rfl, rfl, rfl, by decide +kernel, rfl, by decide +kernel, by decide +kernel⟩
abbrev s_w_machine_text : Stmt := topS 26
theorem sc_w_machine_text : FnScope ["_law_machine", "_law_letters_here", "_law_begin", "_law_ends", "_law_steps", "_law_rows", "_law_room", "_law_row", "_law_to"] ["_law_machine"] (defScope s_w_machine_text) := ⟨rfl, rfl, rfl, by decide +kernel, rfl, by decide +kernel, by decide +kernel⟩
abbrev s_w_sign : Stmt := topS 27
theorem sc_w_sign : FnScope ["_law_flow_here", "_law_near", "_law_some", "_law_far", "_law_signs"] ["_law_flow_here"] (defScope s_w_sign) := ⟨rfl, rfl, rfl, by decide +kernel, rfl, by decide +kernel, by decide +kernel⟩
abbrev s_w_row_otherwise19 : Stmt := topS 28
theorem sc_w_row_otherwise19 : FnScope ["_law_flow_here", "_law_row", "_law_way", "_law_words", "_law_at", "_law_spot", "_law_some"] ["_law_flow_here", "_law_row"] (defScope s_w_row_otherwise19) := ⟨rfl, rfl, rfl, by decide +kernel, rfl, by decide +kernel, by decide +kernel⟩
abbrev s_w_otherwise19 : Stmt := topS 29
theorem sc_w_otherwise19 : FnScope ["_law_flow_here", "_law_text", "_law_way", "_law_rows", "_law_at", "_law_other", "_law_some"] ["_law_flow_here", "_law_text"] (defScope s_w_otherwise19) := ⟨rfl, rfl, rfl, by decide +kernel, rfl, by decide +kernel, by decide +kernel⟩
abbrev s_w_number_in : Stmt := topS 30
theorem sc_w_number_in : FnScope ["_law_word", "_law_sign_here"] ["_law_word"] (defScope s_w_number_in) := ⟨rfl, rfl, rfl, by decide +kernel, rfl, by decide +kernel, by decide +kernel⟩
abbrev s_w_are_letters19 : Stmt := topS 31
theorem sc_w_are_letters19 : FnScope ["_law_word", "_law_small", "_law_sign_here"] ["_law_word"] (defScope s_w_are_letters19) := ⟨rfl, rfl, rfl, by decide +kernel, rfl, by decide +kernel, by decide +kernel⟩
abbrev s_w_read19 : Stmt := topS 32
theorem sc_w_read19 : FnScope ["_law_text", "_law_rows", "_law_letters_here", "_law_found", "_law_at", "_law_row", "_law_words", "_law_numbers", "_law_word"] ["_law_text"] (defScope s_w_read19) := ⟨rfl, rfl, rfl, by decide +kernel, rfl, by decide +kernel, by decide +kernel⟩
abbrev s_w_asked19 : Stmt := topS 33
theorem sc_w_asked19 : FnScope ["_law_text", "_law_caught_here", "_law_e"] ["_law_text"] (defScope s_w_asked19) := ⟨rfl, rfl, rfl, by decide +kernel, rfl, by decide +kernel, by decide +kernel⟩
abbrev s_law : Stmt := topS 34
theorem sc_law : FnScope ["_law_script", "_law_flow_here", "_law_machine", "_law_good", "_law_texts", "_law_k", "_law_text", "_law_turn", "_law_due"] ["_law_script"] (defScope s_law) := ⟨rfl, rfl, rfl, by decide +kernel, rfl, by decide +kernel, by decide +kernel⟩
abbrev s_NoText___init__ : Stmt := (C8.clsBody (topS 2)).getD 0 (.Pass ⟨0, 0, 0, 0⟩)
theorem sc_NoText___init__ : FnScope ["self", "at"] ["self", "at"] (defScope s_NoText___init__) := ⟨rfl, rfl, rfl, by decide +kernel, rfl, by decide +kernel, by decide +kernel⟩
section
variable {P : Program} {w : World} {K : PySem.W.Frag} {mg : Str → Option Value} {base : Heap}
theorem okI_NoText {a_NoText f : Addr} {fd : FuncData} (F : Fun K "__init__" "NoText.__init__" s_NoText___init__ f fd) (T : OexC K a_NoText) (n0 : PySem.W.findIn K (.ref a_NoText) "at" = some none) : FnOk P w K mg base CX0 1 f fd ["self", "at"] (spI a_NoText ["at"]) :=
  F.ok sc_NoText___init__ len_spI1 fun cdv A outer s H vs Q E hr h => ⟨_, pss_one (ps_ost (pv 0) (pv 1)), init1_q T n0 h⟩
theorem ok_is_word (D : Df K mg "is_word" s_is_word ["text"]) (z_all : mg "all" = none) {u_SMALL : Tok} (g_SMALL : mg "SMALL" = some (.str "abcdefghijklmnopqrstuvwxyz" u_SMALL)) : Cal P w K mg base 1 "is_word" ["text"] S_is_word :=
  D.cal 0 sc_is_word len_is_word rd_is_word fun f cdv A outer s H E hr =>
    (css_one (cs_ret (ce_callB (cAll rfl) rfl z_all b_all (ca_cons (ce_frz (cf_lc [("letter", 1)] rfl sc_is_word.nd (show blkC ["text", "letter"] (defScope s_is_word) _ [("letter", 1)] = true by decide +kernel) (ci_str (cv 0)) (fun _ _ _ _ _ => (cg_name 1 sc_is_word.nd)) (fun _ _ _ _ _ => cts_nil) (fun _ _ _ _ _ => (ce_cmp oIn (cv 1) (ce_globS rfl g_SMALL))))) ca_nil))))
theorem ok_row_text (D : Df K mg "row_text" s_row_text ["word", "numbers"]) (z_str : mg "str" = none) : Cal P w K mg base 1 "row_text" ["word", "numbers"] S_row_text :=
  D.cal 0 sc_row_text len_row_text rd_row_text fun f cdv A outer s H E hr =>
    (css_one (cs_ret (ce_bm mJoin PySem.F.plainAttrs_str PySem.F.slot_str_join PySem.F.type_str_join ce_str (ca_cons (ce_frz (cf_cat (ce_frz (cf_lst (ca_cons (cv 0) ca_nil))) (ce_frz (cf_lc [("number", 2)] rfl sc_row_text.nd (show blkC ["word", "numbers", "number"] (defScope s_row_text) _ [("number", 2)] = true by decide +kernel) (ci_or (ci_list (cv 1)) (ci_tup (cv 1))) (fun _ _ _ _ _ => (cg_name 2 sc_row_text.nd)) (fun _ _ _ _ _ => cts_nil) (fun _ _ _ _ _ => (ce_callTy cStrI rfl z_str b_str (ca_cons (cv 2) ca_nil))))))) ca_nil))))
theorem ok_show_machine (D : Df K mg "show_machine" s_show_machine ["machine"]) (c_row_text : Cal P w K mg base 1 "row_text" ["word", "numbers"] S_row_text) : Cal P w K mg base 2 "show_machine" ["machine"] S_show_machine :=
  D.cal 1 sc_show_machine len_show_machine rd_show_machine fun f cdv A outer s H E hr =>
    (css_cons (cs_asg (cv 0) (cg_tup rfl (cgs_cons (cg_name 1 sc_show_machine.nd) (cgs_cons (cg_name 2 sc_show_machine.nd) (cgs_cons (cg_name 3 sc_show_machine.nd) (cgs_cons (cg_name 4 sc_show_machine.nd) cgs_nil))))))
      (css_cons (cs_set 5 sc_show_machine.nd (ce_frz (cf_lst (ca_cons (ce_op oAdd ce_str (cv 1)) (ca_cons (cc c_row_text (hr.mono (by decide)) (ca_cons ce_str (ca_cons (ce_frz (cf_lst (ca_cons (cv 2) ca_nil))) ca_nil))) (ca_cons (cc c_row_text (hr.mono (by decide)) (ca_cons ce_str (ca_cons (cv 3) ca_nil))) ca_nil))))))
      (css_one (cs_ret (ce_bm mJoin PySem.F.plainAttrs_str PySem.F.slot_str_join PySem.F.type_str_join ce_str (ca_cons (ce_frz (cf_cat (cv 5) (ce_frz (cf_lc [("row", 6)] rfl sc_show_machine.nd (show blkC ["machine", "letters", "begin", "ends", "steps", "rows", "row"] (defScope s_show_machine) _ [("row", 6)] = true by decide +kernel) (ci_tup (cv 4)) (fun _ _ _ _ _ => (cg_name 6 sc_show_machine.nd)) (fun _ _ _ _ _ => cts_nil) (fun _ _ _ _ _ => (cc c_row_text (hr.mono (by decide)) (ca_cons ce_str (ca_cons (cv 6) ca_nil)))))))) ca_nil))))))
theorem ok_is_number (D : Df K mg "is_number" s_is_number ["word"]) (z_all : mg "all" = none) (z_len : mg "len" = none) {u_FIGURES : Tok} (g_FIGURES : mg "FIGURES" = some (.str "0123456789" u_FIGURES)) : Cal P w K mg base 1 "is_number" ["word"] S_is_number :=
  D.cal 0 sc_is_number len_is_number rd_is_number fun f cdv A outer s H E hr =>
    (css_cons (cs_if (ct_w (cw_or (ct_not (ct_chain oLe oLe ce_int (ce_callB (cLen) rfl z_len b_len (ca_cons (cv 0) ca_nil)) ce_int)) (cw_or1 (ct_not (ct_val (ce_callB (cAll rfl) rfl z_all b_all (ca_cons (ce_frz (cf_lc [("sign", 1)] rfl sc_is_number.nd (show blkC ["word", "sign"] (defScope s_is_number) _ [("sign", 1)] = true by decide +kernel) (ci_str (cv 0)) (fun _ _ _ _ _ => (cg_name 1 sc_is_number.nd)) (fun _ _ _ _ _ => cts_nil) (fun _ _ _ _ _ => (ce_cmp oIn (cv 1) (ce_globS rfl g_FIGURES))))) ca_nil))))))) (css_one (cs_ret ce_bl)) css_nil)
      (css_one (cs_ret (ce_or (ce_cmp (oEq hr.units) (cv 0) ce_str) (ce_one (ce_cmp (oNe hr.units) (cix (cv 0) ce_int) ce_str))))))
theorem ok_are_letters (D : Df K mg "are_letters" s_are_letters ["word"]) (c_is_word : Cal P w K mg base 1 "is_word" ["text"] S_is_word) (z_len : mg "len" = none) (z_list : mg "list" = none) (z_set : mg "set" = none) (z_sorted : mg "sorted" = none) : Cal P w K mg base 2 "are_letters" ["word"] S_are_letters :=
  D.cal 1 sc_are_letters len_are_letters rd_are_letters fun f cdv A outer s H E hr =>
    (css_one (cs_ret (ce_and (ce_cmp oGt (ce_callB (cLen) rfl z_len b_len (ca_cons (cv 0) ca_nil)) ce_int) (ce_and (cc c_is_word (hr.mono (by decide)) (ca_cons (cv 0) ca_nil)) (ce_one (ce_cmp (oEq hr.units) (ce_frz (cf_callTy (cListS rfl) rfl z_list b_list (ca_cons (cv 0) ca_nil))) (ce_frz (cf_sortSet rfl z_sorted z_set (cv 0)))))))))
theorem ok_MachineText___init__ {a_MachineText : Addr} (D : DfI K mg a_MachineText "MachineText" "MachineText.__init__" s_MachineText___init__ ["self", "text"]) (F_MachineText_at : FldC K a_MachineText "at") (F_MachineText_rows : FldC K a_MachineText "rows") : CalI P w K mg base 1 a_MachineText "MachineText" ["self", "text"] (S_mt_init a_MachineText) :=
  D.cal 0 sc_MachineText___init__ len_MachineText___init__ (rd_MachineText___init__ (a_MachineText := a_MachineText)) fun f cdv A outer s H E hr =>
    (css_cons (cs_fldPut F_MachineText_rows (cv 0) (ce_frz (cf_split 10 (cv 1) (ca_cons ce_str ca_nil))))
      (css_one (cs_fldPut F_MachineText_at (cv 0) ce_int)))
theorem ok_MachineText_words_behind {a_MachineText : Addr} (D : DfM K a_MachineText "words_behind" "MachineText.words_behind" s_MachineText_words_behind ["self", "word"]) (F_MachineText_at : FldC K a_MachineText "at") (F_MachineText_rows : FldC K a_MachineText "rows") (z_len : mg "len" = none) : CalM P w K mg base 3 a_MachineText "words_behind" ["self", "word"] (S_mt_words a_MachineText) :=
  D.cal 2 sc_MachineText_words_behind len_MachineText_words_behind (rd_MachineText_words_behind (a_MachineText := a_MachineText)) fun f cdv A outer s H E hr =>
    (css_cons (cs_if (ct_cmp (oEq hr.units) (ce_fld F_MachineText_at (cv 0)) (ce_callB (cLen) rfl z_len b_len (ca_cons (ce_fld F_MachineText_rows (cv 0)) ca_nil))) (css_one cs_dead) css_nil)
      (css_cons (cs_set 2 sc_MachineText_words_behind.nd (ce_frz (cf_split 32 (cix (ce_fld F_MachineText_rows (cv 0)) (ce_fld F_MachineText_at (cv 0))) (ca_cons ce_str ca_nil))))
      (css_cons (cs_if (ct_cmp (oNe hr.units) (cix (cv 2) ce_int) (cv 1)) (css_one cs_dead) css_nil)
      (css_cons (cs_fldAug F_MachineText_at (cv 0) ce_int)
      (css_one (cs_retF (cf_cut (cv 2) (co_some ce_int) co_none)))))))
theorem okY_MachineText_words_behind {a_MachineText : Addr} (D : DfM K a_MachineText "words_behind" "MachineText.words_behind" s_MachineText_words_behind ["self", "word"]) {a_NoText a_NoMachine a_NoFit a_NoName a_NoRow a_SpreadError : Addr} (xi_NoText : XMkI P w K mg base "NoText" a_NoText ["self", "at"] ["at"]) (F_MachineText_at : FldC K a_MachineText "at") (F_MachineText_rows : FldC K a_MachineText "rows") (z_len : mg "len" = none) : CalMY P w K mg base 3 a_MachineText "words_behind" ["self", "word"] (S_mt_wordsY a_MachineText a_NoText) :=
  D.calY 2 sc_MachineText_words_behind len_MachineText_words_behindY (rd_MachineText_words_behindY (a_MachineText := a_MachineText) (a_NoText := a_NoText) (a_NoMachine := a_NoMachine) (a_NoFit := a_NoFit) (a_NoName := a_NoName) (a_NoRow := a_NoRow) (a_SpreadError := a_SpreadError)) fun f cdv A outer s H E hr =>
    (cssy_cons (csy_if (ct_cmp (oEq hr.units) (ce_fld F_MachineText_at (cv 0)) (ce_callB (cLen) rfl z_len b_len (ca_cons (ce_fld F_MachineText_rows (cv 0)) ca_nil))) (cssy_one (csy_raiseI xi_NoText rfl takesY (hr.mono (by decide)) (ca_cons (ce_fld F_MachineText_at (cv 0)) ca_nil))) (CSs.y css_nil))
      (cssy_cons (CS.y (cs_set 2 sc_MachineText_words_behind.nd (ce_frz (cf_split 32 (cix (ce_fld F_MachineText_rows (cv 0)) (ce_fld F_MachineText_at (cv 0))) (ca_cons ce_str ca_nil)))))
      (cssy_cons (csy_if (ct_cmp (oNe hr.units) (cix (cv 2) ce_int) (cv 1)) (cssy_one (csy_raiseI xi_NoText rfl takesY (hr.mono (by decide)) (ca_cons (ce_fld F_MachineText_at (cv 0)) ca_nil))) (CSs.y css_nil))
      (CSs.y (css_cons (cs_fldAug F_MachineText_at (cv 0) ce_int)
      (css_one (cs_retF (cf_cut (cv 2) (co_some ce_int) co_none))))))))
theorem ok_MachineText_need {a_MachineText : Addr} (D : DfM K a_MachineText "need" "MachineText.need" s_MachineText_need ["self", "fits"]) : CalM P w K mg base 3 a_MachineText "need" ["self", "fits"] (S_mt_need a_MachineText) :=
  D.cal 2 sc_MachineText_need len_MachineText_need (rd_MachineText_need (a_MachineText := a_MachineText)) fun f cdv A outer s H E hr =>
    (css_one (cs_if (ct_not (ct_val (cv 1))) (css_one cs_dead) css_nil))
theorem okY_MachineText_need {a_MachineText : Addr} (D : DfM K a_MachineText "need" "MachineText.need" s_MachineText_need ["self", "fits"]) {a_NoText a_NoMachine a_NoFit a_NoName a_NoRow a_SpreadError : Addr} (xi_NoText : XMkI P w K mg base "NoText" a_NoText ["self", "at"] ["at"]) (F_MachineText_at : FldC K a_MachineText "at") : CalMY P w K mg base 3 a_MachineText "need" ["self", "fits"] (S_mt_needY a_MachineText a_NoText) :=
  D.calY 2 sc_MachineText_need len_MachineText_needY (rd_MachineText_needY (a_MachineText := a_MachineText) (a_NoText := a_NoText) (a_NoMachine := a_NoMachine) (a_NoFit := a_NoFit) (a_NoName := a_NoName) (a_NoRow := a_NoRow) (a_SpreadError := a_SpreadError)) fun f cdv A outer s H E hr =>
    (cssy_one (csy_if (ct_not (ct_val (cv 1))) (cssy_one (csy_raiseI xi_NoText rfl takesY (hr.mono (by decide)) (ca_cons (ce_op oSub (ce_fld F_MachineText_at (cv 0)) ce_int) ca_nil))) (CSs.y css_nil)))
theorem ok_MachineText_letters {a_MachineText : Addr} (D : DfM K a_MachineText "letters" "MachineText.letters" s_MachineText_letters ["self"]) (c_MachineText_words_behind : CalM P w K mg base 3 a_MachineText "words_behind" ["self", "word"] (S_mt_words a_MachineText)) (c_MachineText_need : CalM P w K mg base 3 a_MachineText "need" ["self", "fits"] (S_mt_need a_MachineText)) (c_are_letters : Cal P w K mg base 2 "are_letters" ["word"] S_are_letters) (z_len : mg "len" = none) : CalM P w K mg base 4 a_MachineText "letters" ["self"] (S_mt_letters a_MachineText) :=
  D.cal 3 sc_MachineText_letters len_MachineText_letters (rd_MachineText_letters (a_MachineText := a_MachineText)) fun f cdv A outer s H E hr =>
    (css_cons (cs_set 1 sc_MachineText_letters.nd (cm c_MachineText_words_behind (hr.mono (by decide)) (cv 0) (ca_cons ce_str ca_nil)))
      (css_cons (cs_expr (cm c_MachineText_need (hr.mono (by decide)) (cv 0) (ca_cons (ce_and (ce_cmp (oEq hr.units) (ce_callB (cLen) rfl z_len b_len (ca_cons (cv 1) ca_nil)) ce_int) (ce_one (cc c_are_letters (hr.mono (by decide)) (ca_cons (cix (cv 1) ce_int) ca_nil)))) ca_nil)))
      (css_one (cs_ret (cix (cv 1) ce_int)))))
theorem okY_MachineText_letters {a_MachineText : Addr} (D : DfM K a_MachineText "letters" "MachineText.letters" s_MachineText_letters ["self"]) {a_NoText a_NoMachine a_NoFit a_NoName a_NoRow a_SpreadError : Addr} (cY_MachineText_need : CalMY P w K mg base 3 a_MachineText "need" ["self", "fits"] (S_mt_needY a_MachineText a_NoText)) (cY_MachineText_words_behind : CalMY P w K mg base 3 a_MachineText "words_behind" ["self", "word"] (S_mt_wordsY a_MachineText a_NoText)) (c_are_letters : Cal P w K mg base 2 "are_letters" ["word"] S_are_letters) (z_len : mg "len" = none) : CalMY P w K mg base 4 a_MachineText "letters" ["self"] (S_mt_lettersY a_MachineText a_NoText) :=
  D.calY 3 sc_MachineText_letters len_MachineText_lettersY (rd_MachineText_lettersY (a_MachineText := a_MachineText) (a_NoText := a_NoText) (a_NoMachine := a_NoMachine) (a_NoFit := a_NoFit) (a_NoName := a_NoName) (a_NoRow := a_NoRow) (a_SpreadError := a_SpreadError)) fun f cdv A outer s H E hr =>
    (cssy_cons (csy_set 1 sc_MachineText_letters.nd (cmJ cY_MachineText_words_behind (hr.mono (by decide)) takesY (cv 0) (ca_cons ce_str ca_nil)))
      (cssy_cons (csy_expr (cmJ cY_MachineText_need (hr.mono (by decide)) takesY (cv 0) (ca_cons (ce_and (ce_cmp (oEq hr.units) (ce_callB (cLen) rfl z_len b_len (ca_cons (cv 1) ca_nil)) ce_int) (ce_one (cc c_are_letters (hr.mono (by decide)) (ca_cons (cix (cv 1) ce_int) ca_nil)))) ca_nil)))
      (CSs.y (css_one (cs_ret (cix (cv 1) ce_int))))))
theorem ok_MachineText_numbers {a_MachineText : Addr} (D : DfM K a_MachineText "numbers" "MachineText.numbers" s_MachineText_numbers ["self", "word", "many"]) (c_MachineText_words_behind : CalM P w K mg base 3 a_MachineText "words_behind" ["self", "word"] (S_mt_words a_MachineText)) (c_MachineText_need : CalM P w K mg base 3 a_MachineText "need" ["self", "fits"] (S_mt_need a_MachineText)) (c_is_number : Cal P w K mg base 1 "is_number" ["word"] S_is_number) (z_all : mg "all" = none) (z_int : mg "int" = none) (z_len : mg "len" = none) (z_tuple : mg "tuple" = none) : CalM P w K mg base 4 a_MachineText "numbers" ["self", "word", "many"] (S_mt_numbers a_MachineText) :=
  D.cal 3 sc_MachineText_numbers len_MachineText_numbers (rd_MachineText_numbers (a_MachineText := a_MachineText)) fun f cdv A outer s H E hr =>
    (css_cons (cs_set 3 sc_MachineText_numbers.nd (cm c_MachineText_words_behind (hr.mono (by decide)) (cv 0) (ca_cons (cv 1) ca_nil)))
      (css_cons (cs_expr (cm c_MachineText_need (hr.mono (by decide)) (cv 0) (ca_cons (ce_and (ce_callB (cAll rfl) rfl z_all b_all (ca_cons (ce_frz (cf_lc [("one", 4)] rfl sc_MachineText_numbers.nd (show blkC ["self", "word", "many", "words", "one"] (defScope s_MachineText_numbers) _ [("one", 4)] = true by decide +kernel) (ci_list (cv 3)) (fun _ _ _ _ _ => (cg_name 4 sc_MachineText_numbers.nd)) (fun _ _ _ _ _ => cts_nil) (fun _ _ _ _ _ => (cc c_is_number (hr.mono (by decide)) (ca_cons (cv 4) ca_nil))))) ca_nil)) (ce_one (ce_cmp oIn (cv 2) (ce_tup (ca_cons ce_non (ca_cons (ce_callB (cLen) rfl z_len b_len (ca_cons (cv 3) ca_nil)) ca_nil)))))) ca_nil)))
      (css_one (cs_ret (ce_callTy (cTupOf) rfl z_tuple b_tuple (ca_cons (ce_frz (cf_lc [("one", 4)] rfl sc_MachineText_numbers.nd (show blkC ["self", "word", "many", "words", "one"] (defScope s_MachineText_numbers) _ [("one", 4)] = true by decide +kernel) (ci_list (cv 3)) (fun _ _ _ _ _ => (cg_name 4 sc_MachineText_numbers.nd)) (fun _ _ _ _ _ => cts_nil) (fun _ _ _ _ _ => (ce_callTy cIntS rfl z_int b_int (ca_cons (cv 4) ca_nil))))) ca_nil))))))
theorem okY_MachineText_numbers {a_MachineText : Addr} (D : DfM K a_MachineText "numbers" "MachineText.numbers" s_MachineText_numbers ["self", "word", "many"]) {a_NoText a_NoMachine a_NoFit a_NoName a_NoRow a_SpreadError : Addr} (cY_MachineText_need : CalMY P w K mg base 3 a_MachineText "need" ["self", "fits"] (S_mt_needY a_MachineText a_NoText)) (cY_MachineText_words_behind : CalMY P w K mg base 3 a_MachineText "words_behind" ["self", "word"] (S_mt_wordsY a_MachineText a_NoText)) (c_is_number : Cal P w K mg base 1 "is_number" ["word"] S_is_number) (z_all : mg "all" = none) (z_int : mg "int" = none) (z_len : mg "len" = none) (z_tuple : mg "tuple" = none) : CalMY P w K mg base 4 a_MachineText "numbers" ["self", "word", "many"] (S_mt_numbersY a_MachineText a_NoText) :=
  D.calY 3 sc_MachineText_numbers len_MachineText_numbersY (rd_MachineText_numbersY (a_MachineText := a_MachineText) (a_NoText := a_NoText) (a_NoMachine := a_NoMachine) (a_NoFit := a_NoFit) (a_NoName := a_NoName) (a_NoRow := a_NoRow) (a_SpreadError := a_SpreadError)) fun f cdv A outer s H E hr =>
    (cssy_cons (csy_set 3 sc_MachineText_numbers.nd (cmJ cY_MachineText_words_behind (hr.mono (by decide)) takesY (cv 0) (ca_cons (cv 1) ca_nil)))
      (cssy_cons (csy_expr (cmJ cY_MachineText_need (hr.mono (by decide)) takesY (cv 0) (ca_cons (ce_and (ce_callB (cAll rfl) rfl z_all b_all (ca_cons (ce_frz (cf_lc [("one", 4)] rfl sc_MachineText_numbers.nd (show blkC ["self", "word", "many", "words", "one"] (defScope s_MachineText_numbers) _ [("one", 4)] = true by decide +kernel) (ci_list (cv 3)) (fun _ _ _ _ _ => (cg_name 4 sc_MachineText_numbers.nd)) (fun _ _ _ _ _ => cts_nil) (fun _ _ _ _ _ => (cc c_is_number (hr.mono (by decide)) (ca_cons (cv 4) ca_nil))))) ca_nil)) (ce_one (ce_cmp oIn (cv 2) (ce_tup (ca_cons ce_non (ca_cons (ce_callB (cLen) rfl z_len b_len (ca_cons (cv 3) ca_nil)) ca_nil)))))) ca_nil)))
      (CSs.y (css_one (cs_ret (ce_callTy (cTupOf) rfl z_tuple b_tuple (ca_cons (ce_frz (cf_lc [("one", 4)] rfl sc_MachineText_numbers.nd (show blkC ["self", "word", "many", "words", "one"] (defScope s_MachineText_numbers) _ [("one", 4)] = true by decide +kernel) (ci_list (cv 3)) (fun _ _ _ _ _ => (cg_name 4 sc_MachineText_numbers.nd)) (fun _ _ _ _ _ => cts_nil) (fun _ _ _ _ _ => (ce_callTy cIntS rfl z_int b_int (ca_cons (cv 4) ca_nil))))) ca_nil)))))))
theorem ok_read_machine (D : Df K mg "read_machine" s_read_machine ["text"]) {a_MachineText : Addr} (F_MachineText_at : FldC K a_MachineText "at") (F_MachineText_rows : FldC K a_MachineText "rows") (c_MachineText___init__ : CalI P w K mg base 1 a_MachineText "MachineText" ["self", "text"] (S_mt_init a_MachineText)) (c_MachineText_letters : CalM P w K mg base 4 a_MachineText "letters" ["self"] (S_mt_letters a_MachineText)) (c_MachineText_numbers : CalM P w K mg base 4 a_MachineText "numbers" ["self", "word", "many"] (S_mt_numbers a_MachineText)) (z_len : mg "len" = none) (z_tuple : mg "tuple" = none) : Cal P w K mg base 5 "read_machine" ["text"] S_read_machine :=
  D.cal 4 sc_read_machine len_read_machine (rd_read_machine (a_MachineText := a_MachineText)) fun f cdv A outer s H E hr =>
    (css_cons (cs_set 1 sc_read_machine.nd (cmk c_MachineText___init__ (hr.mono (by decide)) (ca_cons (cv 0) ca_nil)))
      (css_cons (cs_set 2 sc_read_machine.nd (cm0 c_MachineText_letters (hr.mono (by decide)) (cv 1)))
      (css_cons (cs_set 3 sc_read_machine.nd (cm c_MachineText_numbers (hr.mono (by decide)) (cv 1) (ca_cons ce_str (ca_cons ce_int ca_nil))))
      (css_cons (cs_set 4 sc_read_machine.nd (cm c_MachineText_numbers (hr.mono (by decide)) (cv 1) (ca_cons ce_str (ca_cons ce_non ca_nil))))
      (css_cons (cs_set 5 sc_read_machine.nd (ce_new (cf_lst (ca_cons (cm c_MachineText_numbers (hr.mono (by decide)) (cv 1) (ca_cons ce_str (ca_cons (ce_callB (cLen) rfl z_len b_len (ca_cons (cv 2) ca_nil)) ca_nil))) ca_nil))))
      (css_cons (cs_while PassesOwn.never (ct_cmp oLt (ce_fld F_MachineText_at (cv 1)) (ce_callB (cLen) rfl z_len b_len (ca_cons (ce_fld F_MachineText_rows (cv 1)) ca_nil)))
      (css_one (cs_expr (ce_bm mAppend PySem.F.plainAttrs_list PySem.F.slot_list_append PySem.F.type_list_append (cv 5) (ca_cons (cm c_MachineText_numbers (hr.mono (by decide)) (cv 1) (ca_cons ce_str (ca_cons (ce_callB (cLen) rfl z_len b_len (ca_cons (cv 2) ca_nil)) ca_nil))) ca_nil)))))
      (css_one (cs_ret (ce_tup (ca_cons (cv 2) (ca_cons (cix (cv 3) ce_int) (ca_cons (cv 4) (ca_cons (ce_callTy (cTupOf) rfl z_tuple b_tuple (ca_cons (cv 5) ca_nil)) ca_nil)))))))))))))
theorem okY_read_machine {a_MachineText : Addr} (D : Df K mg "read_machine" s_read_machine ["text"]) {a_NoText a_NoMachine a_NoFit a_NoName a_NoRow a_SpreadError : Addr} (cY_MachineText_letters : CalMY P w K mg base 4 a_MachineText "letters" ["self"] (S_mt_lettersY a_MachineText a_NoText)) (cY_MachineText_numbers : CalMY P w K mg base 4 a_MachineText "numbers" ["self", "word", "many"] (S_mt_numbersY a_MachineText a_NoText)) (F_MachineText_at : FldC K a_MachineText "at") (F_MachineText_rows : FldC K a_MachineText "rows") (c_MachineText___init__ : CalI P w K mg base 1 a_MachineText "MachineText" ["self", "text"] (S_mt_init a_MachineText)) (z_len : mg "len" = none) (z_tuple : mg "tuple" = none) : CalY P w K mg base 5 "read_machine" ["text"] (S_read_machineY a_NoText) :=
  D.calY 4 sc_read_machine len_read_machineY (rd_read_machineY (a_MachineText := a_MachineText) (a_NoText := a_NoText) (a_NoMachine := a_NoMachine) (a_NoFit := a_NoFit) (a_NoName := a_NoName) (a_NoRow := a_NoRow) (a_SpreadError := a_SpreadError)) fun f cdv A outer s H E hr =>
    (cssy_cons (CS.y (cs_set 1 sc_read_machine.nd (cmk c_MachineText___init__ (hr.mono (by decide)) (ca_cons (cv 0) ca_nil))))
      (cssy_cons (csy_set 2 sc_read_machine.nd (cmJn cY_MachineText_letters (hr.mono (by decide)) takesY (cv 1)))
      (cssy_cons (csy_set 3 sc_read_machine.nd (cmJ cY_MachineText_numbers (hr.mono (by decide)) takesY (cv 1) (ca_cons ce_str (ca_cons ce_int ca_nil))))
      (cssy_cons (csy_set 4 sc_read_machine.nd (cmJ cY_MachineText_numbers (hr.mono (by decide)) takesY (cv 1) (ca_cons ce_str (ca_cons ce_non ca_nil))))
      (cssy_cons (csy_set 5 sc_read_machine.nd (cey_lstN (cay_cons (cmJ cY_MachineText_numbers (hr.mono (by decide)) takesY (cv 1) (ca_cons ce_str (ca_cons (ce_callB (cLen) rfl z_len b_len (ca_cons (cv 2) ca_nil)) ca_nil))) (CA.y ca_nil))))
      (cssy_cons (csy_while ownY (ct_cmp oLt (ce_fld F_MachineText_at (cv 1)) (ce_callB (cLen) rfl z_len b_len (ca_cons (ce_fld F_MachineText_rows (cv 1)) ca_nil))) (cssy_one (csy_expr (cey_bm mAppend PySem.F.plainAttrs_list PySem.F.slot_list_append PySem.F.type_list_append (cv 5) (cay_cons (cmJ cY_MachineText_numbers (hr.mono (by decide)) takesY (cv 1) (ca_cons ce_str (ca_cons (ce_callB (cLen) rfl z_len b_len (ca_cons (cv 2) ca_nil)) ca_nil))) (CA.y ca_nil))))))
      (CSs.y (css_one (cs_ret (ce_tup (ca_cons (cv 2) (ca_cons (cix (cv 3) ce_int) (ca_cons (cv 4) (ca_cons (ce_callTy (cTupOf) rfl z_tuple b_tuple (ca_cons (cv 5) ca_nil)) ca_nil))))))))))))))
theorem ok_w_flow (D : Df K mg "_law_flow" s_w_flow ["_law_script"]) (z_list : mg "list" = none) : Cal P w K mg base 1 "_law_flow" ["_law_script"] (S_w_flow K) :=
  D.cal 0 sc_w_flow len_w_flow rd_w_flow fun f cdv A outer s H E hr =>
    (css_one (cs_retF (cf_lst (ca_cons (ce_frz (cf_callTy cListScr rfl z_list b_list (ca_cons (cv 0) ca_nil))) (ca_cons ce_int (ca_cons ce_int (ca_cons ce_int (ca_cons ce_int ca_nil))))))))
theorem ok_w_pick (D : Df K mg "_law_pick" s_w_pick ["_law_flow_here", "_law_many"]) (z_len : mg "len" = none) : Cal P w K mg base 1 "_law_pick" ["_law_flow_here", "_law_many"] S_w_pick :=
  D.cal 0 sc_w_pick len_w_pick rd_w_pick fun f cdv A outer s H E hr =>
    (css_cons (cs_if (ct_w (cw_and (ct_cmp (oEq hr.units) (cix (cv 0) ce_int) ce_int) (cw_and1 (ct_cmp oLt (cix (cv 0) ce_int) (ce_callB (cLen) rfl z_len b_len (ca_cons (cix (cv 0) ce_int) ca_nil)))))) (css_cons (cs_set 2 sc_w_pick.nd (cix (cix (cv 0) ce_int) (cix (cv 0) ce_int)))
      (css_cons (cs_putL (ce_op oAdd (cix (cv 0) ce_int) ce_int) (cv 0) ce_int)
      (css_one (cs_if (ct_cmp oGe (cv 2) (ce_op oPow ce_int ce_int)) (css_one (cs_putL (cv 2) (cv 0) ce_int)) (css_one (cs_putL (ce_op oMod (ce_op oAdd (ce_op oAdd (ce_op oMul (cix (cv 0) ce_int) ce_int) (ce_op oMod (cv 2) ce_int)) ce_int) ce_int) (cv 0) ce_int)))))) css_nil)
      (css_cons (cs_if (ct_cmp oGt (cix (cv 0) ce_int) ce_int) (css_cons (cs_set 3 sc_w_pick.nd (ce_op oMod (cix (cv 0) ce_int) (cv 1)))
      (css_cons (cs_putL (ce_op oFdiv (cix (cv 0) ce_int) (cv 1)) (cv 0) ce_int)
      (css_one (cs_ret (cv 3))))) css_nil)
      (css_cons (cs_putL (ce_op oAdd (cix (cv 0) ce_int) ce_int) (cv 0) ce_int)
      (css_cons (cs_putL (ce_op oMod (ce_op oAdd (ce_op oAdd (ce_op oMul (cix (cv 0) ce_int) ce_int) ce_int) (cix (cv 0) ce_int)) ce_int) (cv 0) ce_int)
      (css_one (cs_ret (ce_op oMod (ce_op oFdiv (ce_op oMod (ce_op oMul (ce_op oAdd (ce_op oMod (cix (cv 0) ce_int) ce_int) ce_int) (ce_op oAdd (ce_op oFdiv (cix (cv 0) ce_int) ce_int) ce_int)) ce_int) ce_int) (cv 1))))))))
theorem ok_w_alike (D : Df K mg "_law_alike" s_w_alike ["_law_found", "_law_due"]) (z_all : mg "all" = none) (z_bool : mg "bool" = none) (z_isinstance : mg "isinstance" = none) (z_len : mg "len" = none) (z_list : mg "list" = none) (z_range : mg "range" = none) (z_tuple : mg "tuple" = none) : ∀ n : Nat, Cal P w K mg base (n) "_law_alike" ["_law_found", "_law_due"] (S_w_alike n)
  | 0 => D.never fun _ _ _ h => h
  | n + 1 => D.cal (n) sc_w_alike len_w_alike rd_w_alike fun f cdv A outer s H E hr =>
    (css_cons (cs_if (ct_val (ce_isi2 (T := "list") (T' := "tuple") z_isinstance z_list z_tuple b_list b_tuple (cv 1))) (css_cons (cs_if (ct_cmp (oNe hr.units) (ce_isi (T := "list") z_isinstance z_list b_list (cv 0)) (ce_isi (T := "list") z_isinstance z_list b_list (cv 1))) (css_one (cs_ret ce_bl)) css_nil)
      (css_cons (cs_if (ct_cmp (oNe hr.units) (ce_isi (T := "tuple") z_isinstance z_tuple b_tuple (cv 0)) (ce_isi (T := "tuple") z_isinstance z_tuple b_tuple (cv 1))) (css_one (cs_ret ce_bl)) css_nil)
      (css_cons (cs_if (ct_cmp (oNe hr.units) (ce_callB (cLen) rfl z_len b_len (ca_cons (cv 0) ca_nil)) (ce_callB (cLen) rfl z_len b_len (ca_cons (cv 1) ca_nil))) (css_one (cs_ret ce_bl)) css_nil)
      (css_one (cs_ret (ce_callB (cAll rfl) rfl z_all b_all (ca_cons (ce_frz (cf_lc [("_law_k", 2)] rfl sc_w_alike.nd (show blkC ["_law_found", "_law_due", "_law_k"] (defScope s_w_alike) _ [("_law_k", 2)] = true by decide +kernel) (ci_rg1 z_range (ca_cons (ce_callB (cLen) rfl z_len b_len (ca_cons (cv 1) ca_nil)) ca_nil)) (fun _ _ _ _ _ => (cg_name 2 sc_w_alike.nd)) (fun _ _ _ _ _ => cts_nil) (fun _ _ _ _ _ => (cc (ok_w_alike D z_all z_bool z_isinstance z_len z_list z_range z_tuple n) hr (ca_cons (cix (cv 0) (cv 2)) (ca_cons (cix (cv 1) (cv 2)) ca_nil)))))) ca_nil))))))) css_nil)
      (css_one (cs_ret (ce_and (ce_cmp (oEq hr.units) (ce_isi (T := "bool") z_isinstance z_bool b_bool (cv 0)) (ce_isi (T := "bool") z_isinstance z_bool b_bool (cv 1))) (ce_one (ce_cmp (oEq hr.units) (cv 0) (cv 1)))))))
theorem ok_w_letters (D : Df K mg "_law_letters" s_w_letters ["_law_flow_here", "_law_many"]) (c_w_pick : Cal P w K mg base 1 "_law_pick" ["_law_flow_here", "_law_many"] S_w_pick) (z_len : mg "len" = none) (z_list : mg "list" = none) (z_range : mg "range" = none) (z_sorted : mg "sorted" = none) : Cal P w K mg base 2 "_law_letters" ["_law_flow_here", "_law_many"] S_w_letters :=
  D.cal 1 sc_w_letters len_w_letters rd_w_letters fun f cdv A outer s H E hr =>
    (css_cons (cs_set 2 sc_w_letters.nd (ce_new (cf_callTy (cListS rfl) rfl z_list b_list (ca_cons ce_str ca_nil))))
      (css_one (cs_ret (ce_bm mJoin PySem.F.plainAttrs_str PySem.F.slot_str_join PySem.F.type_str_join ce_str (ca_cons (ce_frz (cf_callB cSortedS rfl z_sorted b_sorted (ca_cons (ce_frz (cf_lc [("_law_k", 3)] rfl sc_w_letters.nd (show blkC ["_law_flow_here", "_law_many", "_law_left", "_law_k"] (defScope s_w_letters) _ [("_law_k", 3)] = true by decide +kernel) (ci_rg1 z_range (ca_cons (cv 1) ca_nil)) (fun _ _ _ _ _ => (cg_name 3 sc_w_letters.nd)) (fun _ _ _ _ _ => cts_nil) (fun _ _ _ _ _ => (ce_bm mPopAt PySem.F.plainAttrs_list PySem.F.slot_list_pop PySem.F.type_list_pop (cv 2) (ca_cons (ccR c_w_pick (hr.mono (by decide)) (ca_cons (cv 0) (ca_cons (ce_callB (cLen) rfl z_len b_len (ca_cons (cv 2) ca_nil)) ca_nil))) ca_nil))))) ca_nil))) ca_nil)))))
theorem ok_w_caught (D : Df K mg "_law_caught" s_w_caught ["_law_e"]) {a_NoText a_NoMachine a_NoFit a_NoName a_NoRow a_SpreadError : Addr} (XF : XFam K [a_NoText, a_NoMachine, a_NoFit, a_NoName, a_NoRow, a_SpreadError]) (gx_NoFit : mg "NoFit" = some (.ref a_NoFit)) (gx_NoMachine : mg "NoMachine" = some (.ref a_NoMachine)) (gx_NoName : mg "NoName" = some (.ref a_NoName)) (gx_NoRow : mg "NoRow" = some (.ref a_NoRow)) (gx_NoText : mg "NoText" = some (.ref a_NoText)) (z_ValueError : mg "ValueError" = none) (z_isinstance : mg "isinstance" = none) : Cal P w K mg base 1 "_law_caught" ["_law_e"] (S_w_caught [a_NoText, a_NoMachine, a_NoFit, a_NoName, a_NoRow, a_SpreadError]) :=
  D.cal 0 sc_w_caught len_w_caught (rd_w_caught (a_NoText := a_NoText) (a_NoMachine := a_NoMachine) (a_NoFit := a_NoFit) (a_NoName := a_NoName) (a_NoRow := a_NoRow) (a_SpreadError := a_SpreadError)) fun f cdv A outer s H E hr =>
    (css_cons (cs_set 1 sc_w_caught.nd (ce_frz (cf_lst (ca_cons (ce_isX XF 0 rfl gx_NoText z_isinstance (cv 0)) (ca_cons (ce_isX XF 1 rfl gx_NoMachine z_isinstance (cv 0)) (ca_cons (ce_isX XF 2 rfl gx_NoFit z_isinstance (cv 0)) ca_nil))))))
      (css_cons (cs_set 1 sc_w_caught.nd (ce_frz (cf_cat (cv 1) (ce_frz (cf_lst (ca_cons (ce_isX XF 3 rfl gx_NoName z_isinstance (cv 0)) (ca_cons (ce_isX XF 4 rfl gx_NoRow z_isinstance (cv 0)) ca_nil)))))))
      (css_cons (cs_if (ct_w (cw_or (ct_cmp (oNe hr.units) (ce_bm (mCountB (hu65 hr)) PySem.F.plainAttrs_list PySem.F.slot_list_count PySem.F.type_list_count (cv 1) (ca_cons ce_bl ca_nil)) ce_int) (cw_or1 (ct_not (ct_val (ce_isVE XF z_isinstance z_ValueError (cv 0))))))) (css_one (cs_ret (ce_neg ce_int))) css_nil)
      (css_one (cs_ret (ce_bm mIndexB PySem.F.plainAttrs_list PySem.F.slot_list_index PySem.F.type_list_index (cv 1) (ca_cons ce_bl ca_nil)))))))
theorem ok_w_number (D : Df K mg "_law_number" s_w_number ["_law_flow_here"]) (c_w_pick : Cal P w K mg base 1 "_law_pick" ["_law_flow_here", "_law_many"] S_w_pick) : Cal P w K mg base 2 "_law_number" ["_law_flow_here"] S_w_number :=
  D.cal 1 sc_w_number len_w_number rd_w_number fun f cdv A outer s H E hr =>
    (css_cons (cs_set 1 sc_w_number.nd (cix (ce_frz (cf_lst (ca_cons ce_int (ca_cons ce_int (ca_cons ce_int (ca_cons ce_int ca_nil)))))) (ccR c_w_pick (hr.mono (by decide)) (ca_cons (cv 0) (ca_cons ce_int ca_nil)))))
      (css_one (cs_ret (ccR c_w_pick (hr.mono (by decide)) (ca_cons (cv 0) (ca_cons (cv 1) ca_nil))))))
theorem ok_w_any_machineB (D : Df K mg "_law_any_machine" s_w_any_machineB ["_law_flow_here"]) (c_w_pick : Cal P w K mg base 1 "_law_pick" ["_law_flow_here", "_law_many"] S_w_pick) (c_w_letters : Cal P w K mg base 2 "_law_letters" ["_law_flow_here", "_law_many"] S_w_letters) (c_w_number : Cal P w K mg base 2 "_law_number" ["_law_flow_here"] S_w_number) (z_min : mg "min" = none) (z_range : mg "range" = none) (z_tuple : mg "tuple" = none) : Cal P w K mg base 3 "_law_any_machine" ["_law_flow_here"] S_w_any_machineB :=
  D.cal 2 sc_w_any_machineB len_w_any_machineB rd_w_any_machineB fun f cdv A outer s H E hr =>
    (css_cons (cs_set 1 sc_w_any_machineB.nd (ccR c_w_pick (hr.mono (by decide)) (ca_cons (cv 0) (ca_cons ce_int ca_nil))))
      (css_cons (cs_set 2 sc_w_any_machineB.nd (cix (ce_frz (cf_lst (ca_cons (ce_op oAdd ce_int (ccR c_w_pick (hr.mono (by decide)) (ca_cons (cv 0) (ca_cons ce_int ca_nil)))) (ca_cons ce_int (ca_cons (ce_op oAdd ce_int (ccR c_w_pick (hr.mono (by decide)) (ca_cons (cv 0) (ca_cons ce_int ca_nil)))) ca_nil))))) (ce_callB (cMin2 rfl) rfl z_min b_min (ca_cons (cv 1) (ca_cons ce_int ca_nil)))))
      (css_cons (cs_set 3 sc_w_any_machineB.nd (ce_op oAdd ce_int (ccR c_w_pick (hr.mono (by decide)) (ca_cons (cv 0) (ca_cons (cix (ce_frz (cf_lst (ca_cons ce_int (ca_cons ce_int (ca_cons ce_int ca_nil))))) (ce_callB (cMin2 rfl) rfl z_min b_min (ca_cons (cv 1) (ca_cons ce_int ca_nil)))) ca_nil)))))
      (css_cons (cs_set 4 sc_w_any_machineB.nd (ccR c_w_letters (hr.mono (by decide)) (ca_cons (cv 0) (ca_cons (cv 2) ca_nil))))
      (css_cons (cs_set 5 sc_w_any_machineB.nd (ce_callTy (cTupOf) rfl z_tuple b_tuple (ca_cons (ce_frz (cf_lc [("_law_k", 7)] rfl sc_w_any_machineB.nd (show blkC ["_law_flow_here", "_law_way", "_law_many", "_law_rooms", "_law_letters_here", "_law_ends", "_law_begin", "_law_k", "_law_room"] (defScope s_w_any_machineB) _ [("_law_k", 7)] = true by decide +kernel) (ci_rg1 z_range (ca_cons (ccR c_w_pick (hr.mono (by decide)) (ca_cons (cv 0) (ca_cons ce_int ca_nil))) ca_nil)) (fun _ _ _ _ _ => (cg_name 7 sc_w_any_machineB.nd)) (fun _ _ _ _ _ => cts_nil) (fun _ _ _ _ _ => (ccR c_w_number (hr.mono (by decide)) (ca_cons (cv 0) ca_nil))))) ca_nil)))
      (css_cons (cs_set 6 sc_w_any_machineB.nd (ccR c_w_number (hr.mono (by decide)) (ca_cons (cv 0) ca_nil)))
      (css_one (cs_ret (ce_tup (ca_cons (cv 4) (ca_cons (cv 6) (ca_cons (cv 5) (ca_cons (ce_callTy (cTupOf) rfl z_tuple b_tuple (ca_cons (ce_frz (cf_lc [("_law_room", 8)] rfl sc_w_any_machineB.nd (show blkC ["_law_flow_here", "_law_way", "_law_many", "_law_rooms", "_law_letters_here", "_law_ends", "_law_begin", "_law_k", "_law_room"] (defScope s_w_any_machineB) _ [("_law_room", 8)] = true by decide +kernel) (ci_rg1 z_range (ca_cons (cv 3) ca_nil)) (fun _ _ _ _ _ => (cg_name 8 sc_w_any_machineB.nd)) (fun _ _ _ _ _ => cts_nil) (fun _ _ _ _ _ => (ce_callTy (cTupOf) rfl z_tuple b_tuple (ca_cons (ce_frz (cf_lc [("_law_k", 7)] rfl sc_w_any_machineB.nd (by rfl) (ci_str (cv 4)) (fun _ _ _ _ _ => (cg_name 7 sc_w_any_machineB.nd)) (fun _ _ _ _ _ => cts_nil) (fun _ _ _ _ _ => (ccR c_w_number (hr.mono (by decide)) (ca_cons (cv 0) ca_nil))))) ca_nil))))) ca_nil)) ca_nil)))))))))))))
theorem ok_w_machine_text (D : Df K mg "_law_machine_text" s_w_machine_text ["_law_machine"]) (z_str : mg "str" = none) : Cal P w K mg base 1 "_law_machine_text" ["_law_machine"] S_w_machine_text :=
  D.cal 0 sc_w_machine_text len_w_machine_text rd_w_machine_text fun f cdv A outer s H E hr =>
    (css_cons (cs_asg (cv 0) (cg_tup rfl (cgs_cons (cg_name 1 sc_w_machine_text.nd) (cgs_cons (cg_name 2 sc_w_machine_text.nd) (cgs_cons (cg_name 3 sc_w_machine_text.nd) (cgs_cons (cg_name 4 sc_w_machine_text.nd) cgs_nil))))))
      (css_cons (cs_set 5 sc_w_machine_text.nd (ce_frz (cf_lst (ca_cons (ce_op oAdd ce_str (cv 1)) (ca_cons (ce_op oAdd ce_str (ce_callTy cStrI rfl z_str b_str (ca_cons (cv 2) ca_nil))) (ca_cons (ce_bm mJoin PySem.F.plainAttrs_str PySem.F.slot_str_join PySem.F.type_str_join ce_str (ca_cons (ce_frz (cf_cat (ce_frz (cf_lst (ca_cons ce_str ca_nil))) (ce_frz (cf_lc [("_law_room", 6)] rfl sc_w_machine_text.nd (show blkC ["_law_machine", "_law_letters_here", "_law_begin", "_law_ends", "_law_steps", "_law_rows", "_law_room", "_law_row", "_law_to"] (defScope s_w_machine_text) _ [("_law_room", 6)] = true by decide +kernel) (ci_tup (cv 3)) (fun _ _ _ _ _ => (cg_name 6 sc_w_machine_text.nd)) (fun _ _ _ _ _ => cts_nil) (fun _ _ _ _ _ => (ce_callTy cStrI rfl z_str b_str (ca_cons (cv 6) ca_nil))))))) ca_nil)) ca_nil))))))
      (css_one (cs_ret (ce_bm mJoin PySem.F.plainAttrs_str PySem.F.slot_str_join PySem.F.type_str_join ce_str (ca_cons (ce_frz (cf_cat (cv 5) (ce_frz (cf_lc [("_law_row", 7)] rfl sc_w_machine_text.nd (show blkC ["_law_machine", "_law_letters_here", "_law_begin", "_law_ends", "_law_steps", "_law_rows", "_law_room", "_law_row", "_law_to"] (defScope s_w_machine_text) _ [("_law_row", 7)] = true by decide +kernel) (ci_tup (cv 4)) (fun _ _ _ _ _ => (cg_name 7 sc_w_machine_text.nd)) (fun _ _ _ _ _ => cts_nil) (fun _ _ _ _ _ => (ce_bm mJoin PySem.F.plainAttrs_str PySem.F.slot_str_join PySem.F.type_str_join ce_str (ca_cons (ce_frz (cf_cat (ce_frz (cf_lst (ca_cons ce_str ca_nil))) (ce_frz (cf_lc [("_law_to", 8)] rfl sc_w_machine_text.nd (by rfl) (ci_tup (cv 7)) (fun _ _ _ _ _ => (cg_name 8 sc_w_machine_text.nd)) (fun _ _ _ _ _ => cts_nil) (fun _ _ _ _ _ => (ce_callTy cStrI rfl z_str b_str (ca_cons (cv 8) ca_nil))))))) ca_nil))))))) ca_nil))))))
theorem ok_w_sign (D : Df K mg "_law_sign" s_w_sign ["_law_flow_here"]) (c_w_pick : Cal P w K mg base 1 "_law_pick" ["_law_flow_here", "_law_many"] S_w_pick) (z_int : mg "int" = none) (z_len : mg "len" = none) : Cal P w K mg base 2 "_law_sign" ["_law_flow_here"] S_w_sign :=
  D.cal 1 sc_w_sign len_w_sign rd_w_sign fun f cdv A outer s H E hr =>
    (css_cons (cs_set 1 sc_w_sign.nd (ce_cmp (oEq hr.units) (ccR c_w_pick (hr.mono (by decide)) (ca_cons (cv 0) (ca_cons ce_int ca_nil))) ce_int))
      (css_cons (cs_set 2 sc_w_sign.nd ce_str)
      (css_cons (cs_set 3 sc_w_sign.nd ce_str)
      (css_cons (cs_set 4 sc_w_sign.nd (cix (ce_frz (cf_lst (ca_cons (ce_op oAdd (cv 3) ce_str) (ca_cons (cv 2) ca_nil)))) (ce_callTy (cInt) rfl z_int b_int (ca_cons (cv 1) ca_nil))))
      (css_one (cs_ret (cix (cv 4) (ccR c_w_pick (hr.mono (by decide)) (ca_cons (cv 0) (ca_cons (ce_callB (cLen) rfl z_len b_len (ca_cons (cv 4) ca_nil)) ca_nil))))))))))
theorem ok_w_row_otherwise19 (D : Df K mg "_law_row_otherwise" s_w_row_otherwise19 ["_law_flow_here", "_law_row"]) (c_w_pick : Cal P w K mg base 1 "_law_pick" ["_law_flow_here", "_law_many"] S_w_pick) (c_w_sign : Cal P w K mg base 2 "_law_sign" ["_law_flow_here"] S_w_sign) (z_len : mg "len" = none) : Cal P w K mg base 3 "_law_row_otherwise" ["_law_flow_here", "_law_row"] S_w_row_otherwise19 :=
  D.cal 2 sc_w_row_otherwise19 len_w_row_otherwise19 rd_w_row_otherwise19 fun f cdv A outer s H E hr =>
    (css_cons (cs_set 2 sc_w_row_otherwise19.nd (ccR c_w_pick (hr.mono (by decide)) (ca_cons (cv 0) (ca_cons ce_int ca_nil))))
      (css_cons (cs_set 3 sc_w_row_otherwise19.nd (ce_frz (cf_split 32 (cv 1) (ca_cons ce_str ca_nil))))
      (css_cons (cs_set 4 sc_w_row_otherwise19.nd (ccR c_w_pick (hr.mono (by decide)) (ca_cons (cv 0) (ca_cons (ce_callB (cLen) rfl z_len b_len (ca_cons (cv 3) ca_nil)) ca_nil))))
      (css_cons (cs_set 5 sc_w_row_otherwise19.nd (ccR c_w_pick (hr.mono (by decide)) (ca_cons (cv 0) (ca_cons (ce_op oAdd (ce_callB (cLen) rfl z_len b_len (ca_cons (cv 1) ca_nil)) ce_int) ca_nil))))
      (css_cons (cs_set 6 sc_w_row_otherwise19.nd (ce_frz (cf_lst (ca_cons ce_str (ca_cons ce_str (ca_cons ce_str (ca_cons ce_str (ca_cons ce_str (ca_cons ce_str (ca_cons ce_str (ca_cons ce_str (ca_cons ce_str (ca_cons ce_str (ca_cons ce_str (ca_cons ce_str (ca_cons ce_str (ca_cons ce_str (ca_cons ce_str ca_nil))))))))))))))))))
      (css_cons (cs_set 6 sc_w_row_otherwise19.nd (ce_frz (cf_cat (cv 6) (ce_frz (cf_lst (ca_cons ce_str (ca_cons ce_str (ca_cons ce_str (ca_cons ce_str (ca_cons ce_str (ca_cons ce_str (ca_cons ce_str ca_nil))))))))))))
      (css_cons (cs_if (ct_cmp (oEq hr.units) (cv 2) ce_int) (css_one (cs_ret (ce_bm mJoin PySem.F.plainAttrs_str PySem.F.slot_str_join PySem.F.type_str_join ce_str (ca_cons (ce_frz (cf_cat (ce_frz (cf_cut (cv 3) co_none (co_some (cv 4)))) (ce_frz (cf_cut (cv 3) (co_some (ce_op oAdd (cv 4) ce_int)) co_none)))) ca_nil)))) css_nil)
      (css_cons (cs_if (ct_cmp (oEq hr.units) (cv 2) ce_int) (css_one (cs_ret (ce_bm mJoin PySem.F.plainAttrs_str PySem.F.slot_str_join PySem.F.type_str_join ce_str (ca_cons (ce_frz (cf_cat (ce_frz (cf_cut (cv 3) co_none (co_some (ce_op oAdd (cv 4) ce_int)))) (ce_frz (cf_cut (cv 3) (co_some (cv 4)) co_none)))) ca_nil)))) css_nil)
      (css_cons (cs_if (ct_cmp (oEq hr.units) (cv 2) ce_int) (css_one (cs_ret (ce_bm mJoin PySem.F.plainAttrs_str PySem.F.slot_str_join PySem.F.type_str_join ce_str (ca_cons (ce_frz (cf_cat (ce_frz (cf_cat (ce_frz (cf_cut (cv 3) co_none (co_some (cv 4)))) (ce_frz (cf_lst (ca_cons (cix (cv 6) (ccR c_w_pick (hr.mono (by decide)) (ca_cons (cv 0) (ca_cons (ce_callB (cLen) rfl z_len b_len (ca_cons (cv 6) ca_nil)) ca_nil)))) ca_nil))))) (ce_frz (cf_cut (cv 3) (co_some (ce_op oAdd (cv 4) ce_int)) co_none)))) ca_nil)))) css_nil)
      (css_cons (cs_if (ct_cmp (oEq hr.units) (cv 2) ce_int) (css_one (cs_ret (ce_bm mJoin PySem.F.plainAttrs_str PySem.F.slot_str_join PySem.F.type_str_join ce_str (ca_cons (ce_frz (cf_cat (ce_frz (cf_cat (ce_frz (cf_cut (cv 3) co_none (co_some (cv 4)))) (ce_frz (cf_lst (ca_cons (cix (cv 6) (ccR c_w_pick (hr.mono (by decide)) (ca_cons (cv 0) (ca_cons (ce_callB (cLen) rfl z_len b_len (ca_cons (cv 6) ca_nil)) ca_nil)))) ca_nil))))) (ce_frz (cf_cut (cv 3) (co_some (cv 4)) co_none)))) ca_nil)))) css_nil)
      (css_cons (cs_if (ct_cmp (oEq hr.units) (cv 2) ce_int) (css_one (cs_ret (ce_op oAdd (ce_cut (cv 1) co_none (co_some (cv 5))) (ce_cut (cv 1) (co_some (ce_op oAdd (cv 5) ce_int)) co_none)))) css_nil)
      (css_one (cs_ret (ce_op oAdd (ce_op oAdd (ce_cut (cv 1) co_none (co_some (cv 5))) (ccR c_w_sign (hr.mono (by decide)) (ca_cons (cv 0) ca_nil))) (ce_cut (cv 1) (co_some (ce_op oAdd (cv 5) (ccR c_w_pick (hr.mono (by decide)) (ca_cons (cv 0) (ca_cons ce_int ca_nil))))) co_none)))))))))))))))
theorem ok_w_otherwise19 (D : Df K mg "_law_otherwise" s_w_otherwise19 ["_law_flow_here", "_law_text"]) (c_w_pick : Cal P w K mg base 1 "_law_pick" ["_law_flow_here", "_law_many"] S_w_pick) (c_w_row_otherwise19 : Cal P w K mg base 3 "_law_row_otherwise" ["_law_flow_here", "_law_row"] S_w_row_otherwise19) (z_len : mg "len" = none) : Cal P w K mg base 4 "_law_otherwise" ["_law_flow_here", "_law_text"] S_w_otherwise19 :=
  D.cal 3 sc_w_otherwise19 len_w_otherwise19 rd_w_otherwise19 fun f cdv A outer s H E hr =>
    (css_cons (cs_set 2 sc_w_otherwise19.nd (ccR c_w_pick (hr.mono (by decide)) (ca_cons (cv 0) (ca_cons ce_int ca_nil))))
      (css_cons (cs_set 3 sc_w_otherwise19.nd (ce_new (cf_split 10 (cv 1) (ca_cons ce_str ca_nil))))
      (css_cons (cs_set 4 sc_w_otherwise19.nd (ccR c_w_pick (hr.mono (by decide)) (ca_cons (cv 0) (ca_cons (ce_callB (cLen) rfl z_len b_len (ca_cons (cv 3) ca_nil)) ca_nil))))
      (css_cons (cs_set 5 sc_w_otherwise19.nd (ccR c_w_pick (hr.mono (by decide)) (ca_cons (cv 0) (ca_cons (ce_callB (cLen) rfl z_len b_len (ca_cons (cv 3) ca_nil)) ca_nil))))
      (css_cons (cs_set 6 sc_w_otherwise19.nd (ce_frz (cf_lst (ca_cons ce_str (ca_cons ce_str (ca_cons ce_str (ca_cons ce_str (ca_cons ce_str (ca_cons ce_str (ca_cons ce_str (ca_cons ce_str (ca_cons ce_str (ca_cons ce_str (ca_cons ce_str ca_nil))))))))))))))
      (css_join (cs_if (ct_cmp oLt (cv 2) ce_int) (css_one (cs_putL (ccR c_w_row_otherwise19 (hr.mono (by decide)) (ca_cons (cv 0) (ca_cons (cix (cv 3) (cv 4)) ca_nil))) (cv 3) (cv 4))) (css_one (cs_if (ct_cmp (oEq hr.units) (cv 2) ce_int) (css_one (cs_set 3 sc_w_otherwise19.nd (ce_new (cf_cat (ce_frz (cf_cut (cv 3) co_none (co_some (cv 4)))) (ce_frz (cf_cut (cv 3) (co_some (ce_op oAdd (cv 4) ce_int)) co_none)))))) (css_one (cs_if (ct_cmp (oEq hr.units) (cv 2) ce_int) (css_one (cs_set 3 sc_w_otherwise19.nd (ce_new (cf_cat (ce_frz (cf_cut (cv 3) co_none (co_some (ce_op oAdd (cv 4) ce_int)))) (ce_frz (cf_cut (cv 3) (co_some (cv 4)) co_none)))))) (css_one (cs_if (ct_cmp (oEq hr.units) (cv 2) ce_int) (css_one (cs_put2L rfl (ca_cons (cix (cv 3) (cv 5)) (ca_cons (cix (cv 3) (cv 4)) ca_nil)) (cv 3) (cv 4) (cv 3) (cv 5))) (css_one (cs_set 3 sc_w_otherwise19.nd (ce_new (cf_cat (ce_frz (cf_cat (ce_frz (cf_cut (cv 3) co_none (co_some (cv 4)))) (ce_frz (cf_lst (ca_cons (cix (cv 6) (ccR c_w_pick (hr.mono (by decide)) (ca_cons (cv 0) (ca_cons (ce_callB (cLen) rfl z_len b_len (ca_cons (cv 6) ca_nil)) ca_nil)))) ca_nil))))) (ce_frz (cf_cut (cv 3) (co_some (ce_op oAdd (cv 4) (ccR c_w_pick (hr.mono (by decide)) (ca_cons (cv 0) (ca_cons ce_int ca_nil))))) co_none)))))))))))))
      (css_one (cs_ret (ce_bm mJoin PySem.F.plainAttrs_str PySem.F.slot_str_join PySem.F.type_str_join ce_str (ca_cons (cv 3) ca_nil))))))))))
theorem ok_w_number_in (D : Df K mg "_law_number_in" s_w_number_in ["_law_word"]) (z_int : mg "int" = none) (z_len : mg "len" = none) : Cal P w K mg base 1 "_law_number_in" ["_law_word"] S_w_number_in :=
  D.cal 0 sc_w_number_in len_w_number_in rd_w_number_in fun f cdv A outer s H E hr =>
    (css_cons (cs_if (ct_w (cw_or (ct_not (ct_chain oLt oLt ce_int (ce_callB (cLen) rfl z_len b_len (ca_cons (cv 0) ca_nil)) ce_int)) (cw_or1 (ct_cmp (oNe hr.units) (ce_frz (cf_lc [("_law_sign_here", 1)] rfl sc_w_number_in.nd (show blkC ["_law_word", "_law_sign_here"] (defScope s_w_number_in) _ [("_law_sign_here", 1)] = true by decide +kernel) (ci_str (cv 0)) (fun _ _ _ _ _ => (cg_name 1 sc_w_number_in.nd)) (fun _ _ _ _ _ => (cts_one (ct_cmp oNotIn (cv 1) ce_str))) (fun _ _ _ _ _ => (cv 1)))) (ce_frz (cf_lst ca_nil)))))) (css_one (cs_ret ce_non)) css_nil)
      (css_cons (cs_if (ct_w (cw_and (ct_cmp oGt (ce_callB (cLen) rfl z_len b_len (ca_cons (cv 0) ca_nil)) ce_int) (cw_and1 (ct_cmp (oEq hr.units) (cix (cv 0) ce_int) ce_str)))) (css_one (cs_ret ce_non)) css_nil)
      (css_one (cs_ret (ce_callTy cIntS rfl z_int b_int (ca_cons (cv 0) ca_nil))))))
theorem ok_w_are_letters19 (D : Df K mg "_law_are_letters" s_w_are_letters19 ["_law_word"]) (z_set : mg "set" = none) (z_sorted : mg "sorted" = none) : Cal P w K mg base 1 "_law_are_letters" ["_law_word"] S_w_are_letters19 :=
  D.cal 0 sc_w_are_letters19 len_w_are_letters19 rd_w_are_letters19 fun f cdv A outer s H E hr =>
    (css_cons (cs_setLc 1 [("_law_sign_here", 2)] rfl sc_w_are_letters19.nd (show blkC ["_law_word", "_law_small", "_law_sign_here"] (defScope s_w_are_letters19) _ [("_law_sign_here", 2)] = true by decide +kernel) (ci_str (cv 0)) (fun _ _ _ _ _ => (cg_name 2 sc_w_are_letters19.nd)) (fun _ _ _ _ _ => (cts_one (ct_cmp oIn (cv 2) ce_str))) (fun _ _ _ _ _ => (cv 2)))
      (css_one (cs_ret (ce_and (ce_cmp (oNe hr.units) (cv 0) ce_str) (ce_one (ce_cmp (oEq hr.units) (ce_bm mJoin PySem.F.plainAttrs_str PySem.F.slot_str_join PySem.F.type_str_join ce_str (ca_cons (ce_frz (cf_sortSetO rfl z_sorted z_set (cv 1))) ca_nil)) (cv 0)))))))
theorem ok_w_read19 (D : Df K mg "_law_read" s_w_read19 ["_law_text"]) (c_w_number_in : Cal P w K mg base 1 "_law_number_in" ["_law_word"] S_w_number_in) (c_w_are_letters19 : Cal P w K mg base 1 "_law_are_letters" ["_law_word"] S_w_are_letters19) (z_enumerate : mg "enumerate" = none) (z_len : mg "len" = none) (z_min : mg "min" = none) (z_tuple : mg "tuple" = none) : Cal P w K mg base 2 "_law_read" ["_law_text"] S_w_read19 :=
  D.cal 1 sc_w_read19 len_w_read19 rd_w_read19 fun f cdv A outer s H E hr =>
    (css_cons (cs_set 1 sc_w_read19.nd (ce_frz (cf_split 10 (cv 0) (ca_cons ce_str ca_nil))))
      (css_cons (cs_set 2 sc_w_read19.nd ce_str)
      (css_cons (cs_set 3 sc_w_read19.nd (ce_new (cf_lst ca_nil)))
      (css_cons (cs_for PassesOwn.never rfl (ci_enumL z_enumerate (cv 1)) (cg_tup rfl (cgs_cons (cg_name 4 sc_w_read19.nd) (cgs_cons (cg_name 5 sc_w_read19.nd) cgs_nil)))
      (css_cons (cs_set 6 sc_w_read19.nd (ce_frz (cf_split 32 (cv 5) (ca_cons ce_str ca_nil))))
      (css_cons (cs_setLc 7 [("_law_word", 8)] rfl sc_w_read19.nd (show blkC ["_law_text", "_law_rows", "_law_letters_here", "_law_found", "_law_at", "_law_row", "_law_words", "_law_numbers", "_law_word"] (defScope s_w_read19) _ [("_law_word", 8)] = true by decide +kernel) (ci_list (ce_frz (cf_cut (cv 6) (co_some ce_int) co_none))) (fun _ _ _ _ _ => (cg_name 8 sc_w_read19.nd)) (fun _ _ _ _ _ => cts_nil) (fun _ _ _ _ _ => (cc c_w_number_in (hr.mono (by decide)) (ca_cons (cv 8) ca_nil))))
      (css_cons (cs_if (ct_cmp (oNe hr.units) (cix (cv 6) ce_int) (cix (ce_frz (cf_lst (ca_cons ce_str (ca_cons ce_str (ca_cons ce_str (ca_cons ce_str ca_nil)))))) (ce_callB (cMin2 rfl) rfl z_min b_min (ca_cons (cv 4) (ca_cons ce_int ca_nil))))) (css_one (cs_ret (ce_tup (ca_cons ce_str (ca_cons (cv 4) ca_nil))))) css_nil)
      (css_join (cs_if (ct_cmp (oEq hr.units) (cv 4) ce_int) (css_cons (cs_set 2 sc_w_read19.nd (ce_bm mJoin PySem.F.plainAttrs_str PySem.F.slot_str_join PySem.F.type_str_join ce_str (ca_cons (ce_frz (cf_cut (cv 6) (co_some ce_int) co_none)) ca_nil)))
      (css_one (cs_if (ct_w (cw_or (ct_cmp (oNe hr.units) (ce_callB (cLen) rfl z_len b_len (ca_cons (cv 6) ca_nil)) ce_int) (cw_or1 (ct_not (ct_val (cc c_w_are_letters19 (hr.mono (by decide)) (ca_cons (cv 2) ca_nil))))))) (css_one (cs_ret (ce_tup (ca_cons ce_str (ca_cons ce_int ca_nil))))) css_nil))) (css_one (cs_if (ct_w (cw_or (ct_cmp oIn ce_non (cv 7)) (cw_or (ct_w (cw_and (ct_cmp (oEq hr.units) (cv 4) ce_int) (cw_and1 (ct_cmp (oNe hr.units) (ce_callB (cLen) rfl z_len b_len (ca_cons (cv 7) ca_nil)) ce_int)))) (cw_or1 (ct_w (cw_and (ct_cmp oGt (cv 4) ce_int) (cw_and1 (ct_cmp (oNe hr.units) (ce_callB (cLen) rfl z_len b_len (ca_cons (cv 7) ca_nil)) (ce_callB (cLen) rfl z_len b_len (ca_cons (cv 2) ca_nil)))))))))) (css_one (cs_ret (ce_tup (ca_cons ce_str (ca_cons (cv 4) ca_nil))))) css_nil)))
      (css_one (cs_expr (ce_bm mAppend PySem.F.plainAttrs_list PySem.F.slot_list_append PySem.F.type_list_append (cv 3) (ca_cons (ce_callTy (cTupOf) rfl z_tuple b_tuple (ca_cons (cv 7) ca_nil)) ca_nil)))))))))
      (css_cons (cs_if (ct_cmp oLt (ce_callB (cLen) rfl z_len b_len (ca_cons (cv 1) ca_nil)) ce_int) (css_one (cs_ret (ce_tup (ca_cons ce_str (ca_cons (ce_callB (cLen) rfl z_len b_len (ca_cons (cv 1) ca_nil)) ca_nil))))) css_nil)
      (css_one (cs_ret (ce_tup (ca_cons ce_str (ca_cons (ce_tup (ca_cons (cv 2) (ca_cons (cix (cix (cv 3) ce_int) ce_int) (ca_cons (cix (cv 3) ce_int) (ca_cons (ce_callTy (cTupOf) rfl z_tuple b_tuple (ca_cons (ce_frz (cf_cut (cv 3) (co_some ce_int) co_none)) ca_nil)) ca_nil))))) ca_nil))))))))))
theorem ok_w_asked19 (D : Df K mg "_law_asked" s_w_asked19 ["_law_text"]) {a_NoText a_NoMachine a_NoFit a_NoName a_NoRow a_SpreadError : Addr} (XT_SpreadError : XTry K mg "SpreadError" a_SpreadError [a_NoText, a_NoMachine, a_NoFit, a_NoName, a_NoRow, a_SpreadError]) (cY_read_machine : CalY P w K mg base 5 "read_machine" ["text"] (S_read_machineY a_NoText)) (xf_NoText_at : XFld K a_NoText "at") (c_w_caught : Cal P w K mg base 1 "_law_caught" ["_law_e"] (S_w_caught [a_NoText, a_NoMachine, a_NoFit, a_NoName, a_NoRow, a_SpreadError])) : Cal P w K mg base 6 "_law_asked" ["_law_text"] (S_w_asked19 [a_NoText, a_NoMachine, a_NoFit, a_NoName, a_NoRow, a_SpreadError]) :=
  D.cal 5 sc_w_asked19 len_w_asked19 (rd_w_asked19 (a_NoText := a_NoText) (a_NoMachine := a_NoMachine) (a_NoFit := a_NoFit) (a_NoName := a_NoName) (a_NoRow := a_NoRow) (a_SpreadError := a_SpreadError)) fun f cdv A outer s H E hr =>
    (css_cons (cs_set 1 sc_w_asked19.nd ce_non)
      (css_cons (cs_tryK (i := 2) (j := 1) XT_SpreadError rfl rfl rfl sc_w_asked19.nd rfl rfl rfl rfl (by decide) rfl (fun W pn xe tk => cssy_one (csy_ret (cey_tup (cay_cons (CE.y ce_str) (cay_cons (ccY cY_read_machine (hr.mono (by decide)) tk (ca_cons (cv 0) ca_nil)) (CA.y ca_nil)))))))
      (css_cons (cs_if (ct_cmp (oNe hr.units) (cc c_w_caught (hr.mono (by decide)) (ca_cons (cv 1) ca_nil)) ce_int) (css_one (cs_ret ce_str)) css_nil)
      (css_one (cs_ret (ce_tup (ca_cons ce_str (ca_cons (ce_xfld xf_NoText_at (cv 1)) ca_nil))))))))
theorem fn_law {f : Addr} {fd : FuncData} (F : Fun K "law" "law" s_law f fd) {a_NoText a_NoMachine a_NoFit a_NoName a_NoRow a_SpreadError : Addr} (c_w_flow : Cal P w K mg base 1 "_law_flow" ["_law_script"] (S_w_flow K)) (c_w_any_machineB : Cal P w K mg base 3 "_law_any_machine" ["_law_flow_here"] S_w_any_machineB) (c_w_machine_text : Cal P w K mg base 1 "_law_machine_text" ["_law_machine"] S_w_machine_text) (c_w_pick : Cal P w K mg base 1 "_law_pick" ["_law_flow_here", "_law_many"] S_w_pick) (c_w_otherwise19 : Cal P w K mg base 4 "_law_otherwise" ["_law_flow_here", "_law_text"] S_w_otherwise19) (c_w_read19 : Cal P w K mg base 2 "_law_read" ["_law_text"] S_w_read19) (c_w_alike : Cal P w K mg base 6 "_law_alike" ["_law_found", "_law_due"] (S_w_alike 6)) (c_w_asked19 : Cal P w K mg base 6 "_law_asked" ["_law_text"] (S_w_asked19 [a_NoText, a_NoMachine, a_NoFit, a_NoName, a_NoRow, a_SpreadError])) (c_show_machine : Cal P w K mg base 2 "show_machine" ["machine"] S_show_machine) (z_len : mg "len" = none) (z_range : mg "range" = none) : FnOk P w K mg base CX0 7 f fd ["_law_script"] (spOf (S_law K)) :=
  dfn F sc_law len_law fun cdv A outer s H E hr => ⟨t_law K a_NoText a_NoMachine a_NoFit a_NoName a_NoRow a_SpreadError,
    (css_cons (cs_set 1 sc_law.nd (ccN c_w_flow (hr.mono (by decide)) (ca_cons (cv 0) ca_nil)))
      (css_cons (cs_set 2 sc_law.nd (ccR c_w_any_machineB (hr.mono (by decide)) (ca_cons (cv 1) ca_nil)))
      (css_cons (cs_set 3 sc_law.nd (cc c_w_machine_text (hr.mono (by decide)) (ca_cons (cv 2) ca_nil)))
      (css_cons (cs_set 4 sc_law.nd (ce_new (cf_lst (ca_cons ce_str ca_nil))))
      (css_cons (cs_for PassesOwn.never rfl (ci_rg1 z_range (ca_cons ce_int ca_nil)) (cg_name 5 sc_law.nd)
      (css_cons (cs_set 6 sc_law.nd (cv 3))
      (css_cons (cs_for PassesOwn.never rfl (ci_rg1 z_range (ca_cons (ce_op oAdd ce_int (ccR c_w_pick (hr.mono (by decide)) (ca_cons (cv 1) (ca_cons ce_int ca_nil)))) ca_nil)) (cg_name 7 sc_law.nd)
      (css_one (cs_set 6 sc_law.nd (ccR c_w_otherwise19 (hr.mono (by decide)) (ca_cons (cv 1) (ca_cons (cv 6) ca_nil))))))
      (css_one (cs_expr (ce_bm mAppend PySem.F.plainAttrs_list PySem.F.slot_list_append PySem.F.type_list_append (cv 4) (ca_cons (cv 6) ca_nil)))))))
      (css_fz 4 (css_cons (cs_for PassesOwn.never rfl (ci_list (cv 4)) (cg_name 6 sc_law.nd)
      (css_cons (cs_set 8 sc_law.nd (cc c_w_read19 (hr.mono (by decide)) (ca_cons (cv 6) ca_nil)))
      (css_cons (cs_if (ct_w (cw_and (ct_cmp oLt (ce_callB (cLen) rfl z_len b_len (ca_cons (cv 6) ca_nil)) ce_int) (cw_and1 (ct_not (ct_val (cc c_w_alike (hr.mono (by decide)) (ca_cons (cc c_w_asked19 (hr.mono (by decide)) (ca_cons (cv 6) ca_nil)) (ca_cons (cv 8) ca_nil)))))))) (css_one (cs_ret ce_bl)) css_nil)
      (css_cons (cs_if (ct_w (cw_and (ct_cmp oLt (ce_callB (cLen) rfl z_len b_len (ca_cons (cv 6) ca_nil)) ce_int) (cw_and (ct_cmp (oEq hr.units) (cix (cv 8) ce_int) ce_str) (cw_and1 (ct_cmp (oNe hr.units) (cc c_show_machine (hr.mono (by decide)) (ca_cons (cix (cv 8) ce_int) ca_nil)) (cv 6)))))) (css_one (cs_ret ce_bl)) css_nil)
      (css_one (cs_if (ct_not (ct_val (cc c_w_alike (hr.mono (by decide)) (ca_cons (cc c_w_asked19 (hr.mono (by decide)) (ca_cons (cv 3) ca_nil)) (ca_cons (ce_tup (ca_cons ce_str (ca_cons (cv 2) ca_nil))) ca_nil))))) (css_one (cs_ret ce_bl)) css_nil))))))
      (css_one (cs_ret ce_bl))))))))), rd_law⟩
end
end
theorem all_mk [Tb] {P : Program} {w : World} {K : PySem.W.Frag} {h : Heap} {mg : Str → Option Value} {fa : Addr} (X : K.In h) (G : h.Ns mainGlobals mg) (hfa : mg "law" = some (.ref fa))
    {a_MachineText : Addr} (ya_MachineText : PySem.W.nsIn K mainGlobals "MachineText" = some (some (.ref a_MachineText))) (yb_MachineText : PySem.W.plainGet K a_MachineText Str.empty = true) (yc_MachineText : PySem.W.hasDictIn K a_MachineText = true) (yd_MachineText : PySem.W.plainOver K a_MachineText = true) (ye_MachineText : PySem.W.findIn K (.ref a_MachineText) "__setattr__" = some (some (.builtin "object.__setattr__"))) (yf_MachineText : PySem.W.makesIn K a_MachineText = true) (yg_MachineText : PySem.W.keepIn K (.ref a_MachineText) = true)
    (yn_MachineText_at : PySem.W.findIn K (.ref a_MachineText) "at" = some none)
    (yn_MachineText_rows : PySem.W.findIn K (.ref a_MachineText) "rows" = some none)
    {a_NoText : Addr} (ye_NoText : PySem.W.nsIn K mainGlobals "NoText" = some (some (.ref a_NoText)))
    {a_NoMachine : Addr} (ye_NoMachine : PySem.W.nsIn K mainGlobals "NoMachine" = some (some (.ref a_NoMachine)))
    {a_NoFit : Addr} (ye_NoFit : PySem.W.nsIn K mainGlobals "NoFit" = some (some (.ref a_NoFit)))
    {a_NoName : Addr} (ye_NoName : PySem.W.nsIn K mainGlobals "NoName" = some (some (.ref a_NoName)))
    {a_NoRow : Addr} (ye_NoRow : PySem.W.nsIn K mainGlobals "NoRow" = some (some (.ref a_NoRow)))
    {a_SpreadError : Addr} (ye_SpreadError : PySem.W.nsIn K mainGlobals "SpreadError" = some (some (.ref a_SpreadError)))
    (xd1_NoText : PySem.W.findIn K (.ref a_NoText) "__getattribute__" = some (some (.builtin "BaseException.__getattribute__")))
    (xd2_NoText : PySem.W.findIn K (.ref a_NoText) "__getattr__" = some none)
    (xd3_NoText : PySem.W.subIn K (.ref a_NoText) (.type "BaseException") = some true)
    (xd4_NoText : PySem.W.hasDictIn K a_NoText = true)
    (xd1_NoMachine : PySem.W.findIn K (.ref a_NoMachine) "__getattribute__" = some (some (.builtin "BaseException.__getattribute__")))
    (xd2_NoMachine : PySem.W.findIn K (.ref a_NoMachine) "__getattr__" = some none)
    (xd3_NoMachine : PySem.W.subIn K (.ref a_NoMachine) (.type "BaseException") = some true)
    (xd4_NoMachine : PySem.W.hasDictIn K a_NoMachine = true)
    (xd1_NoFit : PySem.W.findIn K (.ref a_NoFit) "__getattribute__" = some (some (.builtin "BaseException.__getattribute__")))
    (xd2_NoFit : PySem.W.findIn K (.ref a_NoFit) "__getattr__" = some none)
    (xd3_NoFit : PySem.W.subIn K (.ref a_NoFit) (.type "BaseException") = some true)
    (xd4_NoFit : PySem.W.hasDictIn K a_NoFit = true)
    (xd1_NoName : PySem.W.findIn K (.ref a_NoName) "__getattribute__" = some (some (.builtin "BaseException.__getattribute__")))
    (xd2_NoName : PySem.W.findIn K (.ref a_NoName) "__getattr__" = some none)
    (xd3_NoName : PySem.W.subIn K (.ref a_NoName) (.type "BaseException") = some true)
    (xd4_NoName : PySem.W.hasDictIn K a_NoName = true)
    (xd1_NoRow : PySem.W.findIn K (.ref a_NoRow) "__getattribute__" = some (some (.builtin "BaseException.__getattribute__")))
    (xd2_NoRow : PySem.W.findIn K (.ref a_NoRow) "__getattr__" = some none)
    (xd3_NoRow : PySem.W.subIn K (.ref a_NoRow) (.type "BaseException") = some true)
    (xd4_NoRow : PySem.W.hasDictIn K a_NoRow = true)
    (xd1_SpreadError : PySem.W.findIn K (.ref a_SpreadError) "__getattribute__" = some (some (.builtin "BaseException.__getattribute__")))
    (xd2_SpreadError : PySem.W.findIn K (.ref a_SpreadError) "__getattr__" = some none)
    (xd3_SpreadError : PySem.W.subIn K (.ref a_SpreadError) (.type "BaseException") = some true)
    (xd4_SpreadError : PySem.W.hasDictIn K a_SpreadError = true)
    (xd6 : PySem.W.specialIn K (.builtin "object.__class__") "__get__" = some (some (.builtin "getset_descriptor.__get__")))
    (xd7 : PySem.W.takesIn K (.builtin "object.__class__") = some true)
    (xd5_NoText : PySem.W.findIn K (.ref a_NoText) "__class__" = some (some (.builtin "object.__class__")))
    (xd8_NoText : PySem.W.mroIn K a_NoText (.type "object") = some true)
    (xkv_NoText : PySem.W.kitOne K (.ref a_NoText) (.type "ValueError") = some true)
    (xk_NoText_NoText : PySem.W.kitOne K (.ref a_NoText) (.ref a_NoText) = some true)
    (xk_NoText_NoMachine : PySem.W.kitOne K (.ref a_NoText) (.ref a_NoMachine) = some false)
    (xk_NoText_NoFit : PySem.W.kitOne K (.ref a_NoText) (.ref a_NoFit) = some false)
    (xk_NoText_NoName : PySem.W.kitOne K (.ref a_NoText) (.ref a_NoName) = some false)
    (xk_NoText_NoRow : PySem.W.kitOne K (.ref a_NoText) (.ref a_NoRow) = some false)
    (xk_NoText_SpreadError : PySem.W.kitOne K (.ref a_NoText) (.ref a_SpreadError) = some true)
    (xd5_NoMachine : PySem.W.findIn K (.ref a_NoMachine) "__class__" = some (some (.builtin "object.__class__")))
    (xd8_NoMachine : PySem.W.mroIn K a_NoMachine (.type "object") = some true)
    (xkv_NoMachine : PySem.W.kitOne K (.ref a_NoMachine) (.type "ValueError") = some true)
    (xk_NoMachine_NoText : PySem.W.kitOne K (.ref a_NoMachine) (.ref a_NoText) = some false)
    (xk_NoMachine_NoMachine : PySem.W.kitOne K (.ref a_NoMachine) (.ref a_NoMachine) = some true)
    (xk_NoMachine_NoFit : PySem.W.kitOne K (.ref a_NoMachine) (.ref a_NoFit) = some false)
    (xk_NoMachine_NoName : PySem.W.kitOne K (.ref a_NoMachine) (.ref a_NoName) = some false)
    (xk_NoMachine_NoRow : PySem.W.kitOne K (.ref a_NoMachine) (.ref a_NoRow) = some false)
    (xk_NoMachine_SpreadError : PySem.W.kitOne K (.ref a_NoMachine) (.ref a_SpreadError) = some true)
    (xd5_NoFit : PySem.W.findIn K (.ref a_NoFit) "__class__" = some (some (.builtin "object.__class__")))
    (xd8_NoFit : PySem.W.mroIn K a_NoFit (.type "object") = some true)
    (xkv_NoFit : PySem.W.kitOne K (.ref a_NoFit) (.type "ValueError") = some true)
    (xk_NoFit_NoText : PySem.W.kitOne K (.ref a_NoFit) (.ref a_NoText) = some false)
    (xk_NoFit_NoMachine : PySem.W.kitOne K (.ref a_NoFit) (.ref a_NoMachine) = some false)
    (xk_NoFit_NoFit : PySem.W.kitOne K (.ref a_NoFit) (.ref a_NoFit) = some true)
    (xk_NoFit_NoName : PySem.W.kitOne K (.ref a_NoFit) (.ref a_NoName) = some false)
    (xk_NoFit_NoRow : PySem.W.kitOne K (.ref a_NoFit) (.ref a_NoRow) = some false)
    (xk_NoFit_SpreadError : PySem.W.kitOne K (.ref a_NoFit) (.ref a_SpreadError) = some true)
    (xd5_NoName : PySem.W.findIn K (.ref a_NoName) "__class__" = some (some (.builtin "object.__class__")))
    (xd8_NoName : PySem.W.mroIn K a_NoName (.type "object") = some true)
    (xkv_NoName : PySem.W.kitOne K (.ref a_NoName) (.type "ValueError") = some true)
    (xk_NoName_NoText : PySem.W.kitOne K (.ref a_NoName) (.ref a_NoText) = some false)
    (xk_NoName_NoMachine : PySem.W.kitOne K (.ref a_NoName) (.ref a_NoMachine) = some false)
    (xk_NoName_NoFit : PySem.W.kitOne K (.ref a_NoName) (.ref a_NoFit) = some false)
    (xk_NoName_NoName : PySem.W.kitOne K (.ref a_NoName) (.ref a_NoName) = some true)
    (xk_NoName_NoRow : PySem.W.kitOne K (.ref a_NoName) (.ref a_NoRow) = some false)
    (xk_NoName_SpreadError : PySem.W.kitOne K (.ref a_NoName) (.ref a_SpreadError) = some true)
    (xd5_NoRow : PySem.W.findIn K (.ref a_NoRow) "__class__" = some (some (.builtin "object.__class__")))
    (xd8_NoRow : PySem.W.mroIn K a_NoRow (.type "object") = some true)
    (xkv_NoRow : PySem.W.kitOne K (.ref a_NoRow) (.type "ValueError") = some true)
    (xk_NoRow_NoText : PySem.W.kitOne K (.ref a_NoRow) (.ref a_NoText) = some false)
    (xk_NoRow_NoMachine : PySem.W.kitOne K (.ref a_NoRow) (.ref a_NoMachine) = some false)
    (xk_NoRow_NoFit : PySem.W.kitOne K (.ref a_NoRow) (.ref a_NoFit) = some false)
    (xk_NoRow_NoName : PySem.W.kitOne K (.ref a_NoRow) (.ref a_NoName) = some false)
    (xk_NoRow_NoRow : PySem.W.kitOne K (.ref a_NoRow) (.ref a_NoRow) = some true)
    (xk_NoRow_SpreadError : PySem.W.kitOne K (.ref a_NoRow) (.ref a_SpreadError) = some true)
    (xd5_SpreadError : PySem.W.findIn K (.ref a_SpreadError) "__class__" = some (some (.builtin "object.__class__")))
    (xd8_SpreadError : PySem.W.mroIn K a_SpreadError (.type "object") = some true)
    (xkv_SpreadError : PySem.W.kitOne K (.ref a_SpreadError) (.type "ValueError") = some true)
    (xk_SpreadError_NoText : PySem.W.kitOne K (.ref a_SpreadError) (.ref a_NoText) = some false)
    (xk_SpreadError_NoMachine : PySem.W.kitOne K (.ref a_SpreadError) (.ref a_NoMachine) = some false)
    (xk_SpreadError_NoFit : PySem.W.kitOne K (.ref a_SpreadError) (.ref a_NoFit) = some false)
    (xk_SpreadError_NoName : PySem.W.kitOne K (.ref a_SpreadError) (.ref a_NoName) = some false)
    (xk_SpreadError_NoRow : PySem.W.kitOne K (.ref a_SpreadError) (.ref a_NoRow) = some false)
    (xk_SpreadError_SpreadError : PySem.W.kitOne K (.ref a_SpreadError) (.ref a_SpreadError) = some true)
    (xyS : PySem.W.typeIn K (.ref a_SpreadError) = some (.type "type"))
    (xe_NoText : PySem.W.subIn K (.ref a_NoText) (.ref a_SpreadError) = some true)
    (xe_NoMachine : PySem.W.subIn K (.ref a_NoMachine) (.ref a_SpreadError) = some true)
    (xe_NoFit : PySem.W.subIn K (.ref a_NoFit) (.ref a_SpreadError) = some true)
    (xe_NoName : PySem.W.subIn K (.ref a_NoName) (.ref a_SpreadError) = some true)
    (xe_NoRow : PySem.W.subIn K (.ref a_NoRow) (.ref a_SpreadError) = some true)
    (xe_SpreadError : PySem.W.subIn K (.ref a_SpreadError) (.ref a_SpreadError) = some true)
    (xcK_NoText : PySem.W.keepIn K (.ref a_NoText) = true)
    {nm_NoText qn_NoText : Str} {N_NoText : Addr} {bs_NoText bm_NoText : List Value} {sn_NoText : List Str} {sub_NoText : List Value} {ab_NoText : Bool} {col_NoText : Option Bool} {dd_NoText : Option Addr} {k0_NoText k1_NoText k2_NoText k3_NoText k5_NoText : Option Value} (xo_NoText : K.lookup a_NoText = some (excClassObj nm_NoText qn_NoText a_NoText N_NoText bs_NoText bm_NoText true sn_NoText sub_NoText ab_NoText col_NoText dd_NoText k0_NoText k1_NoText k2_NoText k3_NoText k5_NoText "ValueError.__new__"))
    (xr_NoText : PySem.HandSPX.refsVE bm_NoText = true)
    (xs_NoText : PySem.W.findIn K (.ref a_NoText) "__setattr__" = some (some (.builtin "object.__setattr__")))
    (xt_NoText : PySem.W.typeIn K (.ref a_NoText) = some (.type "type"))
    {fI_NoText : Addr} (xin_NoText : PySem.W.findIn K (.ref a_NoText) "__init__" = some (some (.ref fI_NoText)))
    (xit_NoText : PySem.W.typeIn K (.ref fI_NoText) = some (.type "function"))
    {iod_NoText ian_NoText : Option Addr} {isl_NoText : Array (Option Value)} {ioc_NoText ikV_NoText idc_NoText ipm_NoText icd_NoText ict_NoText : Value} (xil_NoText : K.lookup fI_NoText = some ⟨ioc_NoText, iod_NoText, .func (PySem.W.fnOf "__init__" "NoText.__init__" (defArgs s_NoText___init__) (defBody s_NoText___init__) (defScope s_NoText___init__) .none ikV_NoText idc_NoText ipm_NoText ian_NoText icd_NoText ict_NoText), isl_NoText⟩)
    (xic_NoText : PySem.W.codeIn K icd_NoText "NoText.__init__" = true)
    (xik_NoText : PySem.W.keepIn K (.ref fI_NoText) = true)
    (xn_NoText_at : PySem.W.findIn K (.ref a_NoText) "at" = some none)
    {f0 : Addr} {od0 an0 : Option Addr} {sl0 : Array (Option Value)} {oc0 kV0 dc0 pm0 cd0 ct0 : Value} (a0 : PySem.W.nsIn K mainGlobals "is_word" = some (some (.ref f0))) (l0 : K.lookup f0 = some ⟨oc0, od0, .func (PySem.W.fnOf "is_word" "is_word" (defArgs s_is_word) (defBody s_is_word) (defScope s_is_word) .none kV0 dc0 pm0 an0 cd0 ct0), sl0⟩) (c0 : PySem.W.codeIn K cd0 "is_word" = true) (k0 : PySem.W.keepIn K (.ref f0) = true)
    {f1 : Addr} {od1 an1 : Option Addr} {sl1 : Array (Option Value)} {oc1 kV1 dc1 pm1 cd1 ct1 : Value} (a1 : PySem.W.nsIn K mainGlobals "row_text" = some (some (.ref f1))) (l1 : K.lookup f1 = some ⟨oc1, od1, .func (PySem.W.fnOf "row_text" "row_text" (defArgs s_row_text) (defBody s_row_text) (defScope s_row_text) .none kV1 dc1 pm1 an1 cd1 ct1), sl1⟩) (c1 : PySem.W.codeIn K cd1 "row_text" = true) (k1 : PySem.W.keepIn K (.ref f1) = true)
    {f2 : Addr} {od2 an2 : Option Addr} {sl2 : Array (Option Value)} {oc2 kV2 dc2 pm2 cd2 ct2 : Value} (a2 : PySem.W.nsIn K mainGlobals "show_machine" = some (some (.ref f2))) (l2 : K.lookup f2 = some ⟨oc2, od2, .func (PySem.W.fnOf "show_machine" "show_machine" (defArgs s_show_machine) (defBody s_show_machine) (defScope s_show_machine) .none kV2 dc2 pm2 an2 cd2 ct2), sl2⟩) (c2 : PySem.W.codeIn K cd2 "show_machine" = true) (k2 : PySem.W.keepIn K (.ref f2) = true)
    {f3 : Addr} {od3 an3 : Option Addr} {sl3 : Array (Option Value)} {oc3 kV3 dc3 pm3 cd3 ct3 : Value} (a3 : PySem.W.nsIn K mainGlobals "is_number" = some (some (.ref f3))) (l3 : K.lookup f3 = some ⟨oc3, od3, .func (PySem.W.fnOf "is_number" "is_number" (defArgs s_is_number) (defBody s_is_number) (defScope s_is_number) .none kV3 dc3 pm3 an3 cd3 ct3), sl3⟩) (c3 : PySem.W.codeIn K cd3 "is_number" = true) (k3 : PySem.W.keepIn K (.ref f3) = true)
    {f4 : Addr} {od4 an4 : Option Addr} {sl4 : Array (Option Value)} {oc4 kV4 dc4 pm4 cd4 ct4 : Value} (a4 : PySem.W.nsIn K mainGlobals "are_letters" = some (some (.ref f4))) (l4 : K.lookup f4 = some ⟨oc4, od4, .func (PySem.W.fnOf "are_letters" "are_letters" (defArgs s_are_letters) (defBody s_are_letters) (defScope s_are_letters) .none kV4 dc4 pm4 an4 cd4 ct4), sl4⟩) (c4 : PySem.W.codeIn K cd4 "are_letters" = true) (k4 : PySem.W.keepIn K (.ref f4) = true)
    {f5 : Addr} {od5 an5 : Option Addr} {sl5 : Array (Option Value)} {oc5 kV5 dc5 pm5 cd5 ct5 : Value} (a5 : PySem.W.findIn K (.ref a_MachineText) "__init__" = some (some (.ref f5))) (i5 : PySem.W.isFn K (.ref f5) = true) (l5 : K.lookup f5 = some ⟨oc5, od5, .func (PySem.W.fnOf "__init__" "MachineText.__init__" (defArgs s_MachineText___init__) (defBody s_MachineText___init__) (defScope s_MachineText___init__) .none kV5 dc5 pm5 an5 cd5 ct5), sl5⟩) (c5 : PySem.W.codeIn K cd5 "MachineText.__init__" = true) (k5 : PySem.W.keepIn K (.ref f5) = true)
    {f6 : Addr} {od6 an6 : Option Addr} {sl6 : Array (Option Value)} {oc6 kV6 dc6 pm6 cd6 ct6 : Value} (a6 : PySem.W.findIn K (.ref a_MachineText) "words_behind" = some (some (.ref f6))) (i6 : PySem.W.isFn K (.ref f6) = true) (l6 : K.lookup f6 = some ⟨oc6, od6, .func (PySem.W.fnOf "words_behind" "MachineText.words_behind" (defArgs s_MachineText_words_behind) (defBody s_MachineText_words_behind) (defScope s_MachineText_words_behind) .none kV6 dc6 pm6 an6 cd6 ct6), sl6⟩) (c6 : PySem.W.codeIn K cd6 "MachineText.words_behind" = true) (k6 : PySem.W.keepIn K (.ref f6) = true)
    {f7 : Addr} {od7 an7 : Option Addr} {sl7 : Array (Option Value)} {oc7 kV7 dc7 pm7 cd7 ct7 : Value} (a7 : PySem.W.findIn K (.ref a_MachineText) "need" = some (some (.ref f7))) (i7 : PySem.W.isFn K (.ref f7) = true) (l7 : K.lookup f7 = some ⟨oc7, od7, .func (PySem.W.fnOf "need" "MachineText.need" (defArgs s_MachineText_need) (defBody s_MachineText_need) (defScope s_MachineText_need) .none kV7 dc7 pm7 an7 cd7 ct7), sl7⟩) (c7 : PySem.W.codeIn K cd7 "MachineText.need" = true) (k7 : PySem.W.keepIn K (.ref f7) = true)
    {f8 : Addr} {od8 an8 : Option Addr} {sl8 : Array (Option Value)} {oc8 kV8 dc8 pm8 cd8 ct8 : Value} (a8 : PySem.W.findIn K (.ref a_MachineText) "letters" = some (some (.ref f8))) (i8 : PySem.W.isFn K (.ref f8) = true) (l8 : K.lookup f8 = some ⟨oc8, od8, .func (PySem.W.fnOf "letters" "MachineText.letters" (defArgs s_MachineText_letters) (defBody s_MachineText_letters) (defScope s_MachineText_letters) .none kV8 dc8 pm8 an8 cd8 ct8), sl8⟩) (c8 : PySem.W.codeIn K cd8 "MachineText.letters" = true) (k8 : PySem.W.keepIn K (.ref f8) = true)
    {f9 : Addr} {od9 an9 : Option Addr} {sl9 : Array (Option Value)} {oc9 kV9 dc9 pm9 cd9 ct9 : Value} (a9 : PySem.W.findIn K (.ref a_MachineText) "numbers" = some (some (.ref f9))) (i9 : PySem.W.isFn K (.ref f9) = true) (l9 : K.lookup f9 = some ⟨oc9, od9, .func (PySem.W.fnOf "numbers" "MachineText.numbers" (defArgs s_MachineText_numbers) (defBody s_MachineText_numbers) (defScope s_MachineText_numbers) .none kV9 dc9 pm9 an9 cd9 ct9), sl9⟩) (c9 : PySem.W.codeIn K cd9 "MachineText.numbers" = true) (k9 : PySem.W.keepIn K (.ref f9) = true)
    {f10 : Addr} {od10 an10 : Option Addr} {sl10 : Array (Option Value)} {oc10 kV10 dc10 pm10 cd10 ct10 : Value} (a10 : PySem.W.nsIn K mainGlobals "read_machine" = some (some (.ref f10))) (l10 : K.lookup f10 = some ⟨oc10, od10, .func (PySem.W.fnOf "read_machine" "read_machine" (defArgs s_read_machine) (defBody s_read_machine) (defScope s_read_machine) .none kV10 dc10 pm10 an10 cd10 ct10), sl10⟩) (c10 : PySem.W.codeIn K cd10 "read_machine" = true) (k10 : PySem.W.keepIn K (.ref f10) = true)
    {f11 : Addr} {od11 an11 : Option Addr} {sl11 : Array (Option Value)} {oc11 kV11 dc11 pm11 cd11 ct11 : Value} (a11 : PySem.W.nsIn K mainGlobals "_law_flow" = some (some (.ref f11))) (l11 : K.lookup f11 = some ⟨oc11, od11, .func (PySem.W.fnOf "_law_flow" "_law_flow" (defArgs s_w_flow) (defBody s_w_flow) (defScope s_w_flow) .none kV11 dc11 pm11 an11 cd11 ct11), sl11⟩) (c11 : PySem.W.codeIn K cd11 "_law_flow" = true) (k11 : PySem.W.keepIn K (.ref f11) = true)
    {f12 : Addr} {od12 an12 : Option Addr} {sl12 : Array (Option Value)} {oc12 kV12 dc12 pm12 cd12 ct12 : Value} (a12 : PySem.W.nsIn K mainGlobals "_law_pick" = some (some (.ref f12))) (l12 : K.lookup f12 = some ⟨oc12, od12, .func (PySem.W.fnOf "_law_pick" "_law_pick" (defArgs s_w_pick) (defBody s_w_pick) (defScope s_w_pick) .none kV12 dc12 pm12 an12 cd12 ct12), sl12⟩) (c12 : PySem.W.codeIn K cd12 "_law_pick" = true) (k12 : PySem.W.keepIn K (.ref f12) = true)
    {f13 : Addr} {od13 an13 : Option Addr} {sl13 : Array (Option Value)} {oc13 kV13 dc13 pm13 cd13 ct13 : Value} (a13 : PySem.W.nsIn K mainGlobals "_law_alike" = some (some (.ref f13))) (l13 : K.lookup f13 = some ⟨oc13, od13, .func (PySem.W.fnOf "_law_alike" "_law_alike" (defArgs s_w_alike) (defBody s_w_alike) (defScope s_w_alike) .none kV13 dc13 pm13 an13 cd13 ct13), sl13⟩) (c13 : PySem.W.codeIn K cd13 "_law_alike" = true) (k13 : PySem.W.keepIn K (.ref f13) = true)
    {f14 : Addr} {od14 an14 : Option Addr} {sl14 : Array (Option Value)} {oc14 kV14 dc14 pm14 cd14 ct14 : Value} (a14 : PySem.W.nsIn K mainGlobals "_law_letters" = some (some (.ref f14))) (l14 : K.lookup f14 = some ⟨oc14, od14, .func (PySem.W.fnOf "_law_letters" "_law_letters" (defArgs s_w_letters) (defBody s_w_letters) (defScope s_w_letters) .none kV14 dc14 pm14 an14 cd14 ct14), sl14⟩) (c14 : PySem.W.codeIn K cd14 "_law_letters" = true) (k14 : PySem.W.keepIn K (.ref f14) = true)
    {f15 : Addr} {od15 an15 : Option Addr} {sl15 : Array (Option Value)} {oc15 kV15 dc15 pm15 cd15 ct15 : Value} (a15 : PySem.W.nsIn K mainGlobals "_law_caught" = some (some (.ref f15))) (l15 : K.lookup f15 = some ⟨oc15, od15, .func (PySem.W.fnOf "_law_caught" "_law_caught" (defArgs s_w_caught) (defBody s_w_caught) (defScope s_w_caught) .none kV15 dc15 pm15 an15 cd15 ct15), sl15⟩) (c15 : PySem.W.codeIn K cd15 "_law_caught" = true) (k15 : PySem.W.keepIn K (.ref f15) = true)
    {f16 : Addr} {od16 an16 : Option Addr} {sl16 : Array (Option Value)} {oc16 kV16 dc16 pm16 cd16 ct16 : Value} (a16 : PySem.W.nsIn K mainGlobals "_law_any_machine" = some (some (.ref f16))) (l16 : K.lookup f16 = some ⟨oc16, od16, .func (PySem.W.fnOf "_law_any_machine" "_law_any_machine" (defArgs s_w_any_machineB) (defBody s_w_any_machineB) (defScope s_w_any_machineB) .none kV16 dc16 pm16 an16 cd16 ct16), sl16⟩) (c16 : PySem.W.codeIn K cd16 "_law_any_machine" = true) (k16 : PySem.W.keepIn K (.ref f16) = true)
    {f17 : Addr} {od17 an17 : Option Addr} {sl17 : Array (Option Value)} {oc17 kV17 dc17 pm17 cd17 ct17 : Value} (a17 : PySem.W.nsIn K mainGlobals "_law_number" = some (some (.ref f17))) (l17 : K.lookup f17 = some ⟨oc17, od17, .func (PySem.W.fnOf "_law_number" "_law_number" (defArgs s_w_number) (defBody s_w_number) (defScope s_w_number) .none kV17 dc17 pm17 an17 cd17 ct17), sl17⟩) (c17 : PySem.W.codeIn K cd17 "_law_number" = true) (k17 : PySem.W.keepIn K (.ref f17) = true)
    {f18 : Addr} {od18 an18 : Option Addr} {sl18 : Array (Option Value)} {oc18 kV18 dc18 pm18 cd18 ct18 : Value} (a18 : PySem.W.nsIn K mainGlobals "_law_machine_text" = some (some (.ref f18))) (l18 : K.lookup f18 = some ⟨oc18, od18, .func (PySem.W.fnOf "_law_machine_text" "_law_machine_text" (defArgs s_w_machine_text) (defBody s_w_machine_text) (defScope s_w_machine_text) .none kV18 dc18 pm18 an18 cd18 ct18), sl18⟩) (c18 : PySem.W.codeIn K cd18 "_law_machine_text" = true) (k18 : PySem.W.keepIn K (.ref f18) = true)
    {f19 : Addr} {od19 an19 : Option Addr} {sl19 : Array (Option Value)} {oc19 kV19 dc19 pm19 cd19 ct19 : Value} (a19 : PySem.W.nsIn K mainGlobals "_law_sign" = some (some (.ref f19))) (l19 : K.lookup f19 = some ⟨oc19, od19, .func (PySem.W.fnOf "_law_sign" "_law_sign" (defArgs s_w_sign) (defBody s_w_sign) (defScope s_w_sign) .none kV19 dc19 pm19 an19 cd19 ct19), sl19⟩) (c19 : PySem.W.codeIn K cd19 "_law_sign" = true) (k19 : PySem.W.keepIn K (.ref f19) = true)
    {f20 : Addr} {od20 an20 : Option Addr} {sl20 : Array (Option Value)} {oc20 kV20 dc20 pm20 cd20 ct20 : Value} (a20 : PySem.W.nsIn K mainGlobals "_law_row_otherwise" = some (some (.ref f20))) (l20 : K.lookup f20 = some ⟨oc20, od20, .func (PySem.W.fnOf "_law_row_otherwise" "_law_row_otherwise" (defArgs s_w_row_otherwise19) (defBody s_w_row_otherwise19) (defScope s_w_row_otherwise19) .none kV20 dc20 pm20 an20 cd20 ct20), sl20⟩) (c20 : PySem.W.codeIn K cd20 "_law_row_otherwise" = true) (k20 : PySem.W.keepIn K (.ref f20) = true)
    {f21 : Addr} {od21 an21 : Option Addr} {sl21 : Array (Option Value)} {oc21 kV21 dc21 pm21 cd21 ct21 : Value} (a21 : PySem.W.nsIn K mainGlobals "_law_otherwise" = some (some (.ref f21))) (l21 : K.lookup f21 = some ⟨oc21, od21, .func (PySem.W.fnOf "_law_otherwise" "_law_otherwise" (defArgs s_w_otherwise19) (defBody s_w_otherwise19) (defScope s_w_otherwise19) .none kV21 dc21 pm21 an21 cd21 ct21), sl21⟩) (c21 : PySem.W.codeIn K cd21 "_law_otherwise" = true) (k21 : PySem.W.keepIn K (.ref f21) = true)
    {f22 : Addr} {od22 an22 : Option Addr} {sl22 : Array (Option Value)} {oc22 kV22 dc22 pm22 cd22 ct22 : Value} (a22 : PySem.W.nsIn K mainGlobals "_law_number_in" = some (some (.ref f22))) (l22 : K.lookup f22 = some ⟨oc22, od22, .func (PySem.W.fnOf "_law_number_in" "_law_number_in" (defArgs s_w_number_in) (defBody s_w_number_in) (defScope s_w_number_in) .none kV22 dc22 pm22 an22 cd22 ct22), sl22⟩) (c22 : PySem.W.codeIn K cd22 "_law_number_in" = true) (k22 : PySem.W.keepIn K (.ref f22) = true)
    {f23 : Addr} {od23 an23 : Option Addr} {sl23 : Array (Option Value)} {oc23 kV23 dc23 pm23 cd23 ct23 : Value} (a23 : PySem.W.nsIn K mainGlobals "_law_are_letters" = some (some (.ref f23))) (l23 : K.lookup f23 = some ⟨oc23, od23, .func (PySem.W.fnOf "_law_are_letters" "_law_are_letters" (defArgs s_w_are_letters19) (defBody s_w_are_letters19) (defScope s_w_are_letters19) .none kV23 dc23 pm23 an23 cd23 ct23), sl23⟩) (c23 : PySem.W.codeIn K cd23 "_law_are_letters" = true) (k23 : PySem.W.keepIn K (.ref f23) = true)
    {f24 : Addr} {od24 an24 : Option Addr} {sl24 : Array (Option Value)} {oc24 kV24 dc24 pm24 cd24 ct24 : Value} (a24 : PySem.W.nsIn K mainGlobals "_law_read" = some (some (.ref f24))) (l24 : K.lookup f24 = some ⟨oc24, od24, .func (PySem.W.fnOf "_law_read" "_law_read" (defArgs s_w_read19) (defBody s_w_read19) (defScope s_w_read19) .none kV24 dc24 pm24 an24 cd24 ct24), sl24⟩) (c24 : PySem.W.codeIn K cd24 "_law_read" = true) (k24 : PySem.W.keepIn K (.ref f24) = true)
    {f25 : Addr} {od25 an25 : Option Addr} {sl25 : Array (Option Value)} {oc25 kV25 dc25 pm25 cd25 ct25 : Value} (a25 : PySem.W.nsIn K mainGlobals "_law_asked" = some (some (.ref f25))) (l25 : K.lookup f25 = some ⟨oc25, od25, .func (PySem.W.fnOf "_law_asked" "_law_asked" (defArgs s_w_asked19) (defBody s_w_asked19) (defScope s_w_asked19) .none kV25 dc25 pm25 an25 cd25 ct25), sl25⟩) (c25 : PySem.W.codeIn K cd25 "_law_asked" = true) (k25 : PySem.W.keepIn K (.ref f25) = true)
    {f26 : Addr} {od26 an26 : Option Addr} {sl26 : Array (Option Value)} {oc26 kV26 dc26 pm26 cd26 ct26 : Value} (a26 : PySem.W.nsIn K mainGlobals "law" = some (some (.ref f26))) (l26 : K.lookup f26 = some ⟨oc26, od26, .func (PySem.W.fnOf "law" "law" (defArgs s_law) (defBody s_law) (defScope s_law) .none kV26 dc26 pm26 an26 cd26 ct26), sl26⟩) (c26 : PySem.W.codeIn K cd26 "law" = true) (k26 : PySem.W.keepIn K (.ref f26) = true)
    (y_ValueError : PySem.W.nsIn K mainGlobals "ValueError" = some none)
    (y_all : PySem.W.nsIn K mainGlobals "all" = some none)
    (y_bool : PySem.W.nsIn K mainGlobals "bool" = some none)
    (y_enumerate : PySem.W.nsIn K mainGlobals "enumerate" = some none)
    (y_int : PySem.W.nsIn K mainGlobals "int" = some none)
    (y_isinstance : PySem.W.nsIn K mainGlobals "isinstance" = some none)
    (y_len : PySem.W.nsIn K mainGlobals "len" = some none)
    (y_list : PySem.W.nsIn K mainGlobals "list" = some none)
    (y_min : PySem.W.nsIn K mainGlobals "min" = some none)
    (y_range : PySem.W.nsIn K mainGlobals "range" = some none)
    (y_set : PySem.W.nsIn K mainGlobals "set" = some none)
    (y_sorted : PySem.W.nsIn K mainGlobals "sorted" = some none)
    (y_str : PySem.W.nsIn K mainGlobals "str" = some none)
    (y_tuple : PySem.W.nsIn K mainGlobals "tuple" = some none)
    {u_FIGURES : Tok} (x_FIGURES : PySem.W.nsIn K mainGlobals "FIGURES" = some (some (.str "0123456789" u_FIGURES)))
    {u_SMALL : Tok} (x_SMALL : PySem.W.nsIn K mainGlobals "SMALL" = some (some (.str "abcdefghijklmnopqrstuvwxyz" u_SMALL))) :
    ∃ fd : FuncData, (∀ (s : Shared) (v : Value), BindsTo s fd ⟨[v], []⟩ [("_law_script", v)]) ∧ ∀ base : Heap, K.In base → base.Ns mainGlobals mg → FnOk P w K mg base CX0 7 fa fd ["_law_script"] (spOf (S_law K)) := by
  have e := hfa.symm.trans (PySem.W.mg_of X G a26)
  cases e
  have K_MachineText : Cls K a_MachineText := ⟨yb_MachineText, yc_MachineText, yd_MachineText, ye_MachineText⟩
  have F_MachineText_at : FldC K a_MachineText "at" := ⟨K_MachineText, yn_MachineText_at⟩
  have F_MachineText_rows : FldC K a_MachineText "rows" := ⟨K_MachineText, yn_MachineText_rows⟩
  have gx_NoText := PySem.W.mg_of X G ye_NoText
  have gx_NoMachine := PySem.W.mg_of X G ye_NoMachine
  have gx_NoFit := PySem.W.mg_of X G ye_NoFit
  have gx_NoName := PySem.W.mg_of X G ye_NoName
  have gx_NoRow := PySem.W.mg_of X G ye_NoRow
  have gx_SpreadError := PySem.W.mg_of X G ye_SpreadError
  have XA_NoText : XfC K a_NoText := ⟨xd1_NoText, xd2_NoText, xd3_NoText, xd4_NoText⟩
  have XA_NoMachine : XfC K a_NoMachine := ⟨xd1_NoMachine, xd2_NoMachine, xd3_NoMachine, xd4_NoMachine⟩
  have XA_NoFit : XfC K a_NoFit := ⟨xd1_NoFit, xd2_NoFit, xd3_NoFit, xd4_NoFit⟩
  have XA_NoName : XfC K a_NoName := ⟨xd1_NoName, xd2_NoName, xd3_NoName, xd4_NoName⟩
  have XA_NoRow : XfC K a_NoRow := ⟨xd1_NoRow, xd2_NoRow, xd3_NoRow, xd4_NoRow⟩
  have XA_SpreadError : XfC K a_SpreadError := ⟨xd1_SpreadError, xd2_SpreadError, xd3_SpreadError, xd4_SpreadError⟩
  have XC_NoText : ExcC K a_NoText := ⟨xd1_NoText, xd2_NoText, xd3_NoText, xd4_NoText, xd5_NoText, xd6, xd7, xd8_NoText⟩
  have XC_NoMachine : ExcC K a_NoMachine := ⟨xd1_NoMachine, xd2_NoMachine, xd3_NoMachine, xd4_NoMachine, xd5_NoMachine, xd6, xd7, xd8_NoMachine⟩
  have XC_NoFit : ExcC K a_NoFit := ⟨xd1_NoFit, xd2_NoFit, xd3_NoFit, xd4_NoFit, xd5_NoFit, xd6, xd7, xd8_NoFit⟩
  have XC_NoName : ExcC K a_NoName := ⟨xd1_NoName, xd2_NoName, xd3_NoName, xd4_NoName, xd5_NoName, xd6, xd7, xd8_NoName⟩
  have XC_NoRow : ExcC K a_NoRow := ⟨xd1_NoRow, xd2_NoRow, xd3_NoRow, xd4_NoRow, xd5_NoRow, xd6, xd7, xd8_NoRow⟩
  have XC_SpreadError : ExcC K a_SpreadError := ⟨xd1_SpreadError, xd2_SpreadError, xd3_SpreadError, xd4_SpreadError, xd5_SpreadError, xd6, xd7, xd8_SpreadError⟩
  have XF : XFam K [a_NoText, a_NoMachine, a_NoFit, a_NoName, a_NoRow, a_SpreadError] := ⟨⟨⟨XC_NoText, xkv_NoText, ⟨xk_NoText_NoText, ⟨xk_NoText_NoMachine, ⟨xk_NoText_NoFit, ⟨xk_NoText_NoName, ⟨xk_NoText_NoRow, ⟨xk_NoText_SpreadError, trivial⟩⟩⟩⟩⟩⟩⟩, ⟨⟨XC_NoMachine, xkv_NoMachine, ⟨xk_NoMachine_NoText, ⟨xk_NoMachine_NoMachine, ⟨xk_NoMachine_NoFit, ⟨xk_NoMachine_NoName, ⟨xk_NoMachine_NoRow, ⟨xk_NoMachine_SpreadError, trivial⟩⟩⟩⟩⟩⟩⟩, ⟨⟨XC_NoFit, xkv_NoFit, ⟨xk_NoFit_NoText, ⟨xk_NoFit_NoMachine, ⟨xk_NoFit_NoFit, ⟨xk_NoFit_NoName, ⟨xk_NoFit_NoRow, ⟨xk_NoFit_SpreadError, trivial⟩⟩⟩⟩⟩⟩⟩, ⟨⟨XC_NoName, xkv_NoName, ⟨xk_NoName_NoText, ⟨xk_NoName_NoMachine, ⟨xk_NoName_NoFit, ⟨xk_NoName_NoName, ⟨xk_NoName_NoRow, ⟨xk_NoName_SpreadError, trivial⟩⟩⟩⟩⟩⟩⟩, ⟨⟨XC_NoRow, xkv_NoRow, ⟨xk_NoRow_NoText, ⟨xk_NoRow_NoMachine, ⟨xk_NoRow_NoFit, ⟨xk_NoRow_NoName, ⟨xk_NoRow_NoRow, ⟨xk_NoRow_SpreadError, trivial⟩⟩⟩⟩⟩⟩⟩, ⟨⟨XC_SpreadError, xkv_SpreadError, ⟨xk_SpreadError_NoText, ⟨xk_SpreadError_NoMachine, ⟨xk_SpreadError_NoFit, ⟨xk_SpreadError_NoName, ⟨xk_SpreadError_NoRow, ⟨xk_SpreadError_SpreadError, trivial⟩⟩⟩⟩⟩⟩⟩, trivial⟩⟩⟩⟩⟩⟩⟩
  have XT_SpreadError : XTry K mg "SpreadError" a_SpreadError [a_NoText, a_NoMachine, a_NoFit, a_NoName, a_NoRow, a_SpreadError] := ⟨gx_SpreadError, ⟨PySem.W.exm_ref xd3_SpreadError xd4_SpreadError xyS xe_NoText, ⟨PySem.W.exm_ref xd3_SpreadError xd4_SpreadError xyS xe_NoMachine, ⟨PySem.W.exm_ref xd3_SpreadError xd4_SpreadError xyS xe_NoFit, ⟨PySem.W.exm_ref xd3_SpreadError xd4_SpreadError xyS xe_NoName, ⟨PySem.W.exm_ref xd3_SpreadError xd4_SpreadError xyS xe_NoRow, ⟨PySem.W.exm_ref xd3_SpreadError xd4_SpreadError xyS xe_SpreadError, trivial⟩⟩⟩⟩⟩⟩⟩
  have xf_NoText_at : XFld K a_NoText "at" := ⟨XA_NoText, xn_NoText_at⟩
  have ig_NoText := fun_mk (st := s_NoText___init__) xil_NoText xic_NoText xik_NoText
  have T_NoText : OexC K a_NoText := ⟨⟨_, _, _, _, _, _, _, _, _, _, _, _, _, _, _, xo_NoText, xr_NoText⟩, xs_NoText, xd3_NoText, xt_NoText, xcK_NoText⟩
  have d_is_word : Df K mg "is_word" s_is_word ["text"] := df_mk X G a0 l0 c0 k0 fun _ _ _ _ _ _ us hl => match us, hl with | [_], _ => rfl
  have d_row_text : Df K mg "row_text" s_row_text ["word", "numbers"] := df_mk X G a1 l1 c1 k1 fun _ _ _ _ _ _ us hl => match us, hl with | [_, _], _ => rfl
  have d_show_machine : Df K mg "show_machine" s_show_machine ["machine"] := df_mk X G a2 l2 c2 k2 fun _ _ _ _ _ _ us hl => match us, hl with | [_], _ => rfl
  have d_is_number : Df K mg "is_number" s_is_number ["word"] := df_mk X G a3 l3 c3 k3 fun _ _ _ _ _ _ us hl => match us, hl with | [_], _ => rfl
  have d_are_letters : Df K mg "are_letters" s_are_letters ["word"] := df_mk X G a4 l4 c4 k4 fun _ _ _ _ _ _ us hl => match us, hl with | [_], _ => rfl
  have g5 := fun_mk (st := s_MachineText___init__) l5 c5 k5
  have d_MachineText___init__ : DfI K mg a_MachineText "MachineText" "MachineText.__init__" s_MachineText___init__ ["self", "text"] := ⟨f5, _, g5, ⟨yf_MachineText, a5, i5, yg_MachineText⟩, PySem.W.mg_of X G ya_MachineText, g5.binds (fun _ _ _ _ _ _ us hl => match us, hl with | [_, _], _ => rfl)⟩
  have g6 := fun_mk (st := s_MachineText_words_behind) l6 c6 k6
  have d_MachineText_words_behind : DfM K a_MachineText "words_behind" "MachineText.words_behind" s_MachineText_words_behind ["self", "word"] := ⟨f6, _, g6, K_MachineText, ⟨a6, i6, k6⟩, g6.binds (fun _ _ _ _ _ _ us hl => match us, hl with | [_, _], _ => rfl)⟩
  have g7 := fun_mk (st := s_MachineText_need) l7 c7 k7
  have d_MachineText_need : DfM K a_MachineText "need" "MachineText.need" s_MachineText_need ["self", "fits"] := ⟨f7, _, g7, K_MachineText, ⟨a7, i7, k7⟩, g7.binds (fun _ _ _ _ _ _ us hl => match us, hl with | [_, _], _ => rfl)⟩
  have g8 := fun_mk (st := s_MachineText_letters) l8 c8 k8
  have d_MachineText_letters : DfM K a_MachineText "letters" "MachineText.letters" s_MachineText_letters ["self"] := ⟨f8, _, g8, K_MachineText, ⟨a8, i8, k8⟩, g8.binds (fun _ _ _ _ _ _ us hl => match us, hl with | [_], _ => rfl)⟩
  have g9 := fun_mk (st := s_MachineText_numbers) l9 c9 k9
  have d_MachineText_numbers : DfM K a_MachineText "numbers" "MachineText.numbers" s_MachineText_numbers ["self", "word", "many"] := ⟨f9, _, g9, K_MachineText, ⟨a9, i9, k9⟩, g9.binds (fun _ _ _ _ _ _ us hl => match us, hl with | [_, _, _], _ => rfl)⟩
  have d_read_machine : Df K mg "read_machine" s_read_machine ["text"] := df_mk X G a10 l10 c10 k10 fun _ _ _ _ _ _ us hl => match us, hl with | [_], _ => rfl
  have d_w_flow : Df K mg "_law_flow" s_w_flow ["_law_script"] := df_mk X G a11 l11 c11 k11 fun _ _ _ _ _ _ us hl => match us, hl with | [_], _ => rfl
  have d_w_pick : Df K mg "_law_pick" s_w_pick ["_law_flow_here", "_law_many"] := df_mk X G a12 l12 c12 k12 fun _ _ _ _ _ _ us hl => match us, hl with | [_, _], _ => rfl
  have d_w_alike : Df K mg "_law_alike" s_w_alike ["_law_found", "_law_due"] := df_mk X G a13 l13 c13 k13 fun _ _ _ _ _ _ us hl => match us, hl with | [_, _], _ => rfl
  have d_w_letters : Df K mg "_law_letters" s_w_letters ["_law_flow_here", "_law_many"] := df_mk X G a14 l14 c14 k14 fun _ _ _ _ _ _ us hl => match us, hl with | [_, _], _ => rfl
  have d_w_caught : Df K mg "_law_caught" s_w_caught ["_law_e"] := df_mk X G a15 l15 c15 k15 fun _ _ _ _ _ _ us hl => match us, hl with | [_], _ => rfl
  have d_w_any_machineB : Df K mg "_law_any_machine" s_w_any_machineB ["_law_flow_here"] := df_mk X G a16 l16 c16 k16 fun _ _ _ _ _ _ us hl => match us, hl with | [_], _ => rfl
  have d_w_number : Df K mg "_law_number" s_w_number ["_law_flow_here"] := df_mk X G a17 l17 c17 k17 fun _ _ _ _ _ _ us hl => match us, hl with | [_], _ => rfl
  have d_w_machine_text : Df K mg "_law_machine_text" s_w_machine_text ["_law_machine"] := df_mk X G a18 l18 c18 k18 fun _ _ _ _ _ _ us hl => match us, hl with | [_], _ => rfl
  have d_w_sign : Df K mg "_law_sign" s_w_sign ["_law_flow_here"] := df_mk X G a19 l19 c19 k19 fun _ _ _ _ _ _ us hl => match us, hl with | [_], _ => rfl
  have d_w_row_otherwise19 : Df K mg "_law_row_otherwise" s_w_row_otherwise19 ["_law_flow_here", "_law_row"] := df_mk X G a20 l20 c20 k20 fun _ _ _ _ _ _ us hl => match us, hl with | [_, _], _ => rfl
  have d_w_otherwise19 : Df K mg "_law_otherwise" s_w_otherwise19 ["_law_flow_here", "_law_text"] := df_mk X G a21 l21 c21 k21 fun _ _ _ _ _ _ us hl => match us, hl with | [_, _], _ => rfl
  have d_w_number_in : Df K mg "_law_number_in" s_w_number_in ["_law_word"] := df_mk X G a22 l22 c22 k22 fun _ _ _ _ _ _ us hl => match us, hl with | [_], _ => rfl
  have d_w_are_letters19 : Df K mg "_law_are_letters" s_w_are_letters19 ["_law_word"] := df_mk X G a23 l23 c23 k23 fun _ _ _ _ _ _ us hl => match us, hl with | [_], _ => rfl
  have d_w_read19 : Df K mg "_law_read" s_w_read19 ["_law_text"] := df_mk X G a24 l24 c24 k24 fun _ _ _ _ _ _ us hl => match us, hl with | [_], _ => rfl
  have d_w_asked19 : Df K mg "_law_asked" s_w_asked19 ["_law_text"] := df_mk X G a25 l25 c25 k25 fun _ _ _ _ _ _ us hl => match us, hl with | [_], _ => rfl
  have z_ValueError := PySem.W.mg_none_of X G y_ValueError
  have z_all := PySem.W.mg_none_of X G y_all
  have z_bool := PySem.W.mg_none_of X G y_bool
  have z_enumerate := PySem.W.mg_none_of X G y_enumerate
  have z_int := PySem.W.mg_none_of X G y_int
  have z_isinstance := PySem.W.mg_none_of X G y_isinstance
  have z_len := PySem.W.mg_none_of X G y_len
  have z_list := PySem.W.mg_none_of X G y_list
  have z_min := PySem.W.mg_none_of X G y_min
  have z_range := PySem.W.mg_none_of X G y_range
  have z_set := PySem.W.mg_none_of X G y_set
  have z_sorted := PySem.W.mg_none_of X G y_sorted
  have z_str := PySem.W.mg_none_of X G y_str
  have z_tuple := PySem.W.mg_none_of X G y_tuple
  have g_FIGURES := PySem.W.mg_of X G x_FIGURES
  have g_SMALL := PySem.W.mg_of X G x_SMALL
  exact ⟨PySem.W.fnOf "law" "law" (defArgs s_law) (defBody s_law) (defScope s_law) .none kV26 dc26 pm26 an26 cd26 ct26, fun s v => .of_eq rfl, fun base _ _ => by
    have xi_NoText : XMkI P w K mg base "NoText" a_NoText ["self", "at"] ["at"] := XMkI.of gx_NoText T_NoText xin_NoText xit_NoText (okI_NoText ig_NoText T_NoText xn_NoText_at) (ig_NoText.binds (fun _ _ _ _ _ _ us hl => match us, hl with | [_, _], _ => rfl))
    have c_is_word := ok_is_word (P := P) (w := w) (mg := mg) (base := base) d_is_word z_all g_SMALL
    have c_row_text := ok_row_text (P := P) (w := w) (mg := mg) (base := base) d_row_text z_str
    have c_show_machine := ok_show_machine (P := P) (w := w) (mg := mg) (base := base) d_show_machine c_row_text
    have c_is_number := ok_is_number (P := P) (w := w) (mg := mg) (base := base) d_is_number z_all z_len g_FIGURES
    have c_are_letters := ok_are_letters (P := P) (w := w) (mg := mg) (base := base) d_are_letters c_is_word z_len z_list z_set z_sorted
    have c_MachineText___init__ := ok_MachineText___init__ (P := P) (w := w) (mg := mg) (base := base) d_MachineText___init__ F_MachineText_at F_MachineText_rows
    have c_MachineText_words_behind := ok_MachineText_words_behind (P := P) (w := w) (mg := mg) (base := base) d_MachineText_words_behind F_MachineText_at F_MachineText_rows z_len
    have cY_MachineText_words_behind := okY_MachineText_words_behind (P := P) (w := w) (mg := mg) (base := base) (a_NoText := a_NoText) (a_NoMachine := a_NoMachine) (a_NoFit := a_NoFit) (a_NoName := a_NoName) (a_NoRow := a_NoRow) (a_SpreadError := a_SpreadError) d_MachineText_words_behind xi_NoText F_MachineText_at F_MachineText_rows z_len
    have c_MachineText_need := ok_MachineText_need (P := P) (w := w) (mg := mg) (base := base) d_MachineText_need
    have cY_MachineText_need := okY_MachineText_need (P := P) (w := w) (mg := mg) (base := base) (a_NoText := a_NoText) (a_NoMachine := a_NoMachine) (a_NoFit := a_NoFit) (a_NoName := a_NoName) (a_NoRow := a_NoRow) (a_SpreadError := a_SpreadError) d_MachineText_need xi_NoText F_MachineText_at
    have c_MachineText_letters := ok_MachineText_letters (P := P) (w := w) (mg := mg) (base := base) d_MachineText_letters c_MachineText_words_behind c_MachineText_need c_are_letters z_len
    have cY_MachineText_letters := okY_MachineText_letters (P := P) (w := w) (mg := mg) (base := base) (a_NoText := a_NoText) (a_NoMachine := a_NoMachine) (a_NoFit := a_NoFit) (a_NoName := a_NoName) (a_NoRow := a_NoRow) (a_SpreadError := a_SpreadError) d_MachineText_letters cY_MachineText_need cY_MachineText_words_behind c_are_letters z_len
    have c_MachineText_numbers := ok_MachineText_numbers (P := P) (w := w) (mg := mg) (base := base) d_MachineText_numbers c_MachineText_words_behind c_MachineText_need c_is_number z_all z_int z_len z_tuple
    have cY_MachineText_numbers := okY_MachineText_numbers (P := P) (w := w) (mg := mg) (base := base) (a_NoText := a_NoText) (a_NoMachine := a_NoMachine) (a_NoFit := a_NoFit) (a_NoName := a_NoName) (a_NoRow := a_NoRow) (a_SpreadError := a_SpreadError) d_MachineText_numbers cY_MachineText_need cY_MachineText_words_behind c_is_number z_all z_int z_len z_tuple
    have c_read_machine := ok_read_machine (P := P) (w := w) (mg := mg) (base := base) d_read_machine F_MachineText_at F_MachineText_rows c_MachineText___init__ c_MachineText_letters c_MachineText_numbers z_len z_tuple
    have cY_read_machine := okY_read_machine (P := P) (w := w) (mg := mg) (base := base) (a_NoText := a_NoText) (a_NoMachine := a_NoMachine) (a_NoFit := a_NoFit) (a_NoName := a_NoName) (a_NoRow := a_NoRow) (a_SpreadError := a_SpreadError) d_read_machine cY_MachineText_letters cY_MachineText_numbers F_MachineText_at F_MachineText_rows c_MachineText___init__ z_len z_tuple
    have c_w_flow := ok_w_flow (P := P) (w := w) (mg := mg) (base := base) d_w_flow z_list
    have c_w_pick := ok_w_pick (P := P) (w := w) (mg := mg) (base := base) d_w_pick z_len
    have c_w_alike := ok_w_alike (P := P) (w := w) (mg := mg) (base := base) d_w_alike z_all z_bool z_isinstance z_len z_list z_range z_tuple 6
    have c_w_letters := ok_w_letters (P := P) (w := w) (mg := mg) (base := base) d_w_letters c_w_pick z_len z_list z_range z_sorted
    have c_w_caught := ok_w_caught (P := P) (w := w) (mg := mg) (base := base) (a_NoText := a_NoText) (a_NoMachine := a_NoMachine) (a_NoFit := a_NoFit) (a_NoName := a_NoName) (a_NoRow := a_NoRow) (a_SpreadError := a_SpreadError) d_w_caught XF gx_NoFit gx_NoMachine gx_NoName gx_NoRow gx_NoText z_ValueError z_isinstance
    have c_w_number := ok_w_number (P := P) (w := w) (mg := mg) (base := base) d_w_number c_w_pick
    have c_w_any_machineB := ok_w_any_machineB (P := P) (w := w) (mg := mg) (base := base) d_w_any_machineB c_w_pick c_w_letters c_w_number z_min z_range z_tuple
    have c_w_machine_text := ok_w_machine_text (P := P) (w := w) (mg := mg) (base := base) d_w_machine_text z_str
    have c_w_sign := ok_w_sign (P := P) (w := w) (mg := mg) (base := base) d_w_sign c_w_pick z_int z_len
    have c_w_row_otherwise19 := ok_w_row_otherwise19 (P := P) (w := w) (mg := mg) (base := base) d_w_row_otherwise19 c_w_pick c_w_sign z_len
    have c_w_otherwise19 := ok_w_otherwise19 (P := P) (w := w) (mg := mg) (base := base) d_w_otherwise19 c_w_pick c_w_row_otherwise19 z_len
    have c_w_number_in := ok_w_number_in (P := P) (w := w) (mg := mg) (base := base) d_w_number_in z_int z_len
    have c_w_are_letters19 := ok_w_are_letters19 (P := P) (w := w) (mg := mg) (base := base) d_w_are_letters19 z_set z_sorted
    have c_w_read19 := ok_w_read19 (P := P) (w := w) (mg := mg) (base := base) d_w_read19 c_w_number_in c_w_are_letters19 z_enumerate z_len z_min z_tuple
    have c_w_asked19 := ok_w_asked19 (P := P) (w := w) (mg := mg) (base := base) (a_NoText := a_NoText) (a_NoMachine := a_NoMachine) (a_NoFit := a_NoFit) (a_NoName := a_NoName) (a_NoRow := a_NoRow) (a_SpreadError := a_SpreadError) d_w_asked19 XT_SpreadError cY_read_machine xf_NoText_at c_w_caught
    exact fn_law (fun_mk (st := s_law) l26 c26 k26) c_w_flow c_w_any_machineB c_w_machine_text c_w_pick c_w_otherwise19 c_w_read19 c_w_alike c_w_asked19 c_show_machine z_len z_range⟩
end Lw
open PySem PySem.W PyProof.Rows
instance Lw.tb0 : Dx.Tb := ⟨[], []⟩
set_option maxHeartbeats 0 in
theorem PySem.Challenge.cw_spreadwords_k19_texts_of_no_machine_holds : PySem.Challenge.rw_spreadwords_k19_texts_of_no_machine.Holds := by
  w_on; o_law; k_head; (case hw => w_witness2)
  k_fill
  refine L2.walk_of (l := PySem.Challenge.rw_spreadwords_k19_texts_of_no_machine) (n := 63) (k := 7) (x := "_law_script") (CX := fun _ => L2.CX0) (sp := fun w => Dx.spOf (Dx.S_law _)) rfl (by decide) rfl ⟨rfl, by decide, by decide⟩ (fun w h Y => PySem.W.kIn_of Y) ?F (fun _ _ a ns hl _ hS => Dx.law_sp ⟨fun p hp => absurd hp List.not_mem_nil, fun p hp => absurd hp List.not_mem_nil⟩ hl hS) (fun _ _ _ _ _ h => h)
  case F =>
    intro w mg fa h KX G hmg
    refine' Lw.all_mk KX G hmg ?ya_MachineText ?yb_MachineText ?yc_MachineText ?yd_MachineText ?ye_MachineText ?yf_MachineText ?yg_MachineText ?yn_MachineText_at ?yn_MachineText_rows ?ye_NoText ?ye_NoMachine ?ye_NoFit ?ye_NoName ?ye_NoRow ?ye_SpreadError ?xd1_NoText ?xd2_NoText ?xd3_NoText ?xd4_NoText ?xd1_NoMachine ?xd2_NoMachine ?xd3_NoMachine ?xd4_NoMachine ?xd1_NoFit ?xd2_NoFit ?xd3_NoFit ?xd4_NoFit ?xd1_NoName ?xd2_NoName ?xd3_NoName ?xd4_NoName ?xd1_NoRow ?xd2_NoRow ?xd3_NoRow ?xd4_NoRow ?xd1_SpreadError ?xd2_SpreadError ?xd3_SpreadError ?xd4_SpreadError ?xd6 ?xd7 ?xd5_NoText ?xd8_NoText ?xkv_NoText ?xk_NoText_NoText ?xk_NoText_NoMachine ?xk_NoText_NoFit ?xk_NoText_NoName ?xk_NoText_NoRow ?xk_NoText_SpreadError ?xd5_NoMachine ?xd8_NoMachine ?xkv_NoMachine ?xk_NoMachine_NoText ?xk_NoMachine_NoMachine ?xk_NoMachine_NoFit ?xk_NoMachine_NoName ?xk_NoMachine_NoRow ?xk_NoMachine_SpreadError ?xd5_NoFit ?xd8_NoFit ?xkv_NoFit ?xk_NoFit_NoText ?xk_NoFit_NoMachine ?xk_NoFit_NoFit ?xk_NoFit_NoName ?xk_NoFit_NoRow ?xk_NoFit_SpreadError ?xd5_NoName ?xd8_NoName ?xkv_NoName ?xk_NoName_NoText ?xk_NoName_NoMachine ?xk_NoName_NoFit ?xk_NoName_NoName ?xk_NoName_NoRow ?xk_NoName_SpreadError ?xd5_NoRow ?xd8_NoRow ?xkv_NoRow ?xk_NoRow_NoText ?xk_NoRow_NoMachine ?xk_NoRow_NoFit ?xk_NoRow_NoName ?xk_NoRow_NoRow ?xk_NoRow_SpreadError ?xd5_SpreadError ?xd8_SpreadError ?xkv_SpreadError ?xk_SpreadError_NoText ?xk_SpreadError_NoMachine ?xk_SpreadError_NoFit ?xk_SpreadError_NoName ?xk_SpreadError_NoRow ?xk_SpreadError_SpreadError ?xyS ?xe_NoText ?xe_NoMachine ?xe_NoFit ?xe_NoName ?xe_NoRow ?xe_SpreadError ?xcK_NoText ?xo_NoText ?xr_NoText ?xs_NoText ?xt_NoText ?xin_NoText ?xit_NoText ?xil_NoText ?xic_NoText ?xik_NoText ?xn_NoText_at ?a0 ?l0 ?c0 ?k0 ?a1 ?l1 ?c1 ?k1 ?a2 ?l2 ?c2 ?k2 ?a3 ?l3 ?c3 ?k3 ?a4 ?l4 ?c4 ?k4 ?a5 ?i5 ?l5 ?c5 ?k5 ?a6 ?i6 ?l6 ?c6 ?k6 ?a7 ?i7 ?l7 ?c7 ?k7 ?a8 ?i8 ?l8 ?c8 ?k8 ?a9 ?i9 ?l9 ?c9 ?k9 ?a10 ?l10 ?c10 ?k10 ?a11 ?l11 ?c11 ?k11 ?a12 ?l12 ?c12 ?k12 ?a13 ?l13 ?c13 ?k13 ?a14 ?l14 ?c14 ?k14 ?a15 ?l15 ?c15 ?k15 ?a16 ?l16 ?c16 ?k16 ?a17 ?l17 ?c17 ?k17 ?a18 ?l18 ?c18 ?k18 ?a19 ?l19 ?c19 ?k19 ?a20 ?l20 ?c20 ?k20 ?a21 ?l21 ?c21 ?k21 ?a22 ?l22 ?c22 ?k22 ?a23 ?l23 ?c23 ?k23 ?a24 ?l24 ?c24 ?k24 ?a25 ?l25 ?c25 ?k25 ?a26 ?l26 ?c26 ?k26 ?y_ValueError ?y_all ?y_bool ?y_enumerate ?y_int ?y_isinstance ?y_len ?y_list ?y_min ?y_range ?y_set ?y_sorted ?y_str ?y_tuple ?x_FIGURES ?x_SMALL
    (case ya_MachineText => k_is); (case yb_MachineText => k_is); (case yc_MachineText => k_is); (case yd_MachineText => k_is); (case ye_MachineText => k_is); (case yf_MachineText => k_is); (case yg_MachineText => k_is); (case yn_MachineText_at => k_is); (case yn_MachineText_rows => k_is); (case ye_NoText => k_is); (case ye_NoMachine => k_is); (case ye_NoFit => k_is); (case ye_NoName => k_is); (case ye_NoRow => k_is); (case ye_SpreadError => k_is); (case xd1_NoText => first | k_is | rfl | kernel_rfl); (case xd2_NoText => first | k_is | rfl | kernel_rfl); (case xd3_NoText => first | k_is | rfl | kernel_rfl); (case xd4_NoText => first | k_is | rfl | kernel_rfl); (case xd1_NoMachine => first | k_is | rfl | kernel_rfl); (case xd2_NoMachine => first | k_is | rfl | kernel_rfl); (case xd3_NoMachine => first | k_is | rfl | kernel_rfl); (case xd4_NoMachine => first | k_is | rfl | kernel_rfl); (case xd1_NoFit => first | k_is | rfl | kernel_rfl); (case xd2_NoFit => first | k_is | rfl | kernel_rfl); (case xd3_NoFit => first | k_is | rfl | kernel_rfl); (case xd4_NoFit => first | k_is | rfl | kernel_rfl); (case xd1_NoName => first | k_is | rfl | kernel_rfl); (case xd2_NoName => first | k_is | rfl | kernel_rfl); (case xd3_NoName => first | k_is | rfl | kernel_rfl); (case xd4_NoName => first | k_is | rfl | kernel_rfl); (case xd1_NoRow => first | k_is | rfl | kernel_rfl); (case xd2_NoRow => first | k_is | rfl | kernel_rfl); (case xd3_NoRow => first | k_is | rfl | kernel_rfl); (case xd4_NoRow => first | k_is | rfl | kernel_rfl); (case xd1_SpreadError => first | k_is | rfl | kernel_rfl); (case xd2_SpreadError => first | k_is | rfl | kernel_rfl); (case xd3_SpreadError => first | k_is | rfl | kernel_rfl); (case xd4_SpreadError => first | k_is | rfl | kernel_rfl); (case xd6 => first | k_is | rfl | kernel_rfl); (case xd7 => first | k_is | rfl | kernel_rfl); (case xd5_NoText => first | k_is | rfl | kernel_rfl); (case xd8_NoText => first | k_is | rfl | kernel_rfl); (case xkv_NoText => first | k_is | rfl | kernel_rfl); (case xk_NoText_NoText => first | k_is | rfl | kernel_rfl); (case xk_NoText_NoMachine => first | k_is | rfl | kernel_rfl); (case xk_NoText_NoFit => first | k_is | rfl | kernel_rfl); (case xk_NoText_NoName => first | k_is | rfl | kernel_rfl); (case xk_NoText_NoRow => first | k_is | rfl | kernel_rfl); (case xk_NoText_SpreadError => first | k_is | rfl | kernel_rfl); (case xd5_NoMachine => first | k_is | rfl | kernel_rfl); (case xd8_NoMachine => first | k_is | rfl | kernel_rfl); (case xkv_NoMachine => first | k_is | rfl | kernel_rfl); (case xk_NoMachine_NoText => first | k_is | rfl | kernel_rfl); (case xk_NoMachine_NoMachine => first | k_is | rfl | kernel_rfl); (case xk_NoMachine_NoFit => first | k_is | rfl | kernel_rfl); (case xk_NoMachine_NoName => first | k_is | rfl | kernel_rfl); (case xk_NoMachine_NoRow => first | k_is | rfl | kernel_rfl); (case xk_NoMachine_SpreadError => first | k_is | rfl | kernel_rfl); (case xd5_NoFit => first | k_is | rfl | kernel_rfl); (case xd8_NoFit => first | k_is | rfl | kernel_rfl); (case xkv_NoFit => first | k_is | rfl | kernel_rfl); (case xk_NoFit_NoText => first | k_is | rfl | kernel_rfl); (case xk_NoFit_NoMachine => first | k_is | rfl | kernel_rfl); (case xk_NoFit_NoFit => first | k_is | rfl | kernel_rfl); (case xk_NoFit_NoName => first | k_is | rfl | kernel_rfl); (case xk_NoFit_NoRow => first | k_is | rfl | kernel_rfl); (case xk_NoFit_SpreadError => first | k_is | rfl | kernel_rfl); (case xd5_NoName => first | k_is | rfl | kernel_rfl); (case xd8_NoName => first | k_is | rfl | kernel_rfl); (case xkv_NoName => first | k_is | rfl | kernel_rfl); (case xk_NoName_NoText => first | k_is | rfl | kernel_rfl); (case xk_NoName_NoMachine => first | k_is | rfl | kernel_rfl); (case xk_NoName_NoFit => first | k_is | rfl | kernel_rfl); (case xk_NoName_NoName => first | k_is | rfl | kernel_rfl); (case xk_NoName_NoRow => first | k_is | rfl | kernel_rfl); (case xk_NoName_SpreadError => first | k_is | rfl | kernel_rfl); (case xd5_NoRow => first | k_is | rfl | kernel_rfl); (case xd8_NoRow => first | k_is | rfl | kernel_rfl); (case xkv_NoRow => first | k_is | rfl | kernel_rfl); (case xk_NoRow_NoText => first | k_is | rfl | kernel_rfl); (case xk_NoRow_NoMachine => first | k_is | rfl | kernel_rfl); (case xk_NoRow_NoFit => first | k_is | rfl | kernel_rfl); (case xk_NoRow_NoName => first | k_is | rfl | kernel_rfl); (case xk_NoRow_NoRow => first | k_is | rfl | kernel_rfl); (case xk_NoRow_SpreadError => first | k_is | rfl | kernel_rfl); (case xd5_SpreadError => first | k_is | rfl | kernel_rfl); (case xd8_SpreadError => first | k_is | rfl | kernel_rfl); (case xkv_SpreadError => first | k_is | rfl | kernel_rfl); (case xk_SpreadError_NoText => first | k_is | rfl | kernel_rfl); (case xk_SpreadError_NoMachine => first | k_is | rfl | kernel_rfl); (case xk_SpreadError_NoFit => first | k_is | rfl | kernel_rfl); (case xk_SpreadError_NoName => first | k_is | rfl | kernel_rfl); (case xk_SpreadError_NoRow => first | k_is | rfl | kernel_rfl); (case xk_SpreadError_SpreadError => first | k_is | rfl | kernel_rfl); (case xyS => k_is); (case xe_NoText => k_is); (case xe_NoMachine => k_is); (case xe_NoFit => k_is); (case xe_NoName => k_is); (case xe_NoRow => k_is); (case xe_SpreadError => k_is); (case xcK_NoText => first | k_is | rfl | kernel_rfl); (case xo_NoText => k_is); (case xr_NoText => first | rfl | kernel_rfl); (case xs_NoText => k_is); (case xt_NoText => k_is); (case xin_NoText => k_is); (case xit_NoText => k_is); (case xil_NoText => k_is); (case xic_NoText => k_is); (case xik_NoText => k_is); (case xn_NoText_at => k_is); (case a0 => k_is); (case l0 => k_is); (case c0 => k_is); (case k0 => k_is); (case a1 => k_is); (case l1 => k_is); (case c1 => k_is); (case k1 => k_is); (case a2 => k_is); (case l2 => k_is); (case c2 => k_is); (case k2 => k_is); (case a3 => k_is); (case l3 => k_is); (case c3 => k_is); (case k3 => k_is); (case a4 => k_is); (case l4 => k_is); (case c4 => k_is); (case k4 => k_is); (case a5 => k_is); (case i5 => k_is); (case l5 => k_is); (case c5 => k_is); (case k5 => k_is); (case a6 => k_is); (case i6 => k_is); (case l6 => k_is); (case c6 => k_is); (case k6 => k_is); (case a7 => k_is); (case i7 => k_is); (case l7 => k_is); (case c7 => k_is); (case k7 => k_is); (case a8 => k_is); (case i8 => k_is); (case l8 => k_is); (case c8 => k_is); (case k8 => k_is); (case a9 => k_is); (case i9 => k_is); (case l9 => k_is); (case c9 => k_is); (case k9 => k_is); (case a10 => k_is); (case l10 => k_is); (case c10 => k_is); (case k10 => k_is); (case a11 => k_is); (case l11 => k_is); (case c11 => k_is); (case k11 => k_is); (case a12 => k_is); (case l12 => k_is); (case c12 => k_is); (case k12 => k_is); (case a13 => k_is); (case l13 => k_is); (case c13 => k_is); (case k13 => k_is); (case a14 => k_is); (case l14 => k_is); (case c14 => k_is); (case k14 => k_is); (case a15 => k_is); (case l15 => k_is); (case c15 => k_is); (case k15 => k_is); (case a16 => k_is); (case l16 => k_is); (case c16 => k_is); (case k16 => k_is); (case a17 => k_is); (case l17 => k_is); (case c17 => k_is); (case k17 => k_is); (case a18 => k_is); (case l18 => k_is); (case c18 => k_is); (case k18 => k_is); (case a19 => k_is); (case l19 => k_is); (case c19 => k_is); (case k19 => k_is); (case a20 => k_is); (case l20 => k_is); (case c20 => k_is); (case k20 => k_is); (case a21 => k_is); (case l21 => k_is); (case c21 => k_is); (case k21 => k_is); (case a22 => k_is); (case l22 => k_is); (case c22 => k_is); (case k22 => k_is); (case a23 => k_is); (case l23 => k_is); (case c23 => k_is); (case k23 => k_is); (case a24 => k_is); (case l24 => k_is); (case c24 => k_is); (case k24 => k_is); (case a25 => k_is); (case l25 => k_is); (case c25 => k_is); (case k25 => k_is); (case a26 => k_is); (case l26 => k_is); (case c26 => k_is); (case k26 => k_is); (case y_ValueError => k_is); (case y_all => k_is); (case y_bool => k_is); (case y_enumerate => k_is); (case y_int => k_is); (case y_isinstance => k_is); (case y_len => k_is); (case y_list => k_is); (case y_min => k_is); (case y_range => k_is); (case y_set => k_is); (case y_sorted => k_is); (case y_str => k_is); (case y_tuple => k_is); (case x_FIGURES => k_is); (case x_SMALL => k_is)
