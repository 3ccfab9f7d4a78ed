import PyProof.Rows.All
import Wide.All
import OpenK.AllK
import Wide.FinOn
import HandS.ForExc
import HandS.ForMost
import HandS.Evl
import HandS.StrMore
import HandS.RevRange
import HandS.IsInst
import HandS.Wide
import HandS.Codes
import HandS.Lambda
import KE.KDictKeyed
import KE.KSortTupG
import KE.KSortKey
import HandS.SortKw
import HandS.More
import HandS.Conv
import HandS.WordsDict
import HandS.Style
import PyProof.Rows.StrRev
import HandS.Set
import HandS.SetTxt0
import HandS.TupSets
import KE.KDictDisplayH
import KE.KDictLaws
import KE.GoesEnum
import HandS.Dict
import PyProof.Rows.TupTab
import KE.KDictWalk
import KE.KDictSum
import HandS.Deep
import KE.DataCmp
import HandS.SetFor
import PyProof.SeqRoads2
import KE.KLam
import HandS.HeadWalk
import KE.KNestM
import PySem.Challenge.RW_spreadwords_k29_words_in_wishes
set_option Elab.async false
set_option linter.all false
set_option maxRecDepth 100000
set_option maxHeartbeats 4000000
/-! Dx: readings over data. A layer above HandS: values are trees of data, what a def changes is a list of cells. -/
namespace Dx
open PySem PySem.Spec PyProof.Rows L2
open Evl (Ex)
/-- the tables of code objects in which the making of a lambda looks, each with the name that its code objects bear -/
class Tb where
  tabs : List (Addr × Str)
variable [Tb]

/-! ### data -/
inductive D where
  | non | bl (b : Bool) | int (i : Int) | str (s : List Nat)
  | lst (xs : List D) | tup (xs : List D)
  | dk (ks : List Key) (ds : List D)
  /-- a dict whose keys are nested tuples, or ints, bools, texts; the world tells the hashes -/
  | dt (w : World) (ks : List D) (ds : List D)
  /-- the law's script: read once -/
  | scr (K : PySem.W.Frag) (ns : List Int)

/-- a slot's value: data, or the k-th cell -/
inductive DV where
  | dat (d : D) | cel (k : Nat)
/-- what a cell holds -/
inductive MC where
  | dead | lst (xs : List D)
  | dk (ks : List Key) (ds : List D)
  | dt (w : World) (ks : List D) (ds : List D)
def MC.toD : MC → D
  | .dead => .non
  | .lst xs => .lst xs
  | .dk ks ds => .dk ks ds
  | .dt w ks ds => .dt w ks ds
mutual
/-- what a key is, up to == -/
def nkD : D → NestedKey
  | .non => .none
  | .bl b => .num (if b = true then 1 else 0)
  | .int i => .num i
  | .str s => .text ⟨s.toArray⟩
  | .tup ds => .tup (nkDs ds)
  | .lst _ => .none
  | .dk _ _ => .none
  | .dt _ _ _ => .none
  | .scr _ _ => .none
def nkDs : List D → List NestedKey
  | [] => []
  | d :: r => nkD d :: nkDs r
end
def zip3 {α β γ : Type} : List α → List β → List γ → List (α × β × γ)
  | a :: as, b :: bs, c :: cs => (a, b, c) :: zip3 as bs cs
  | _, _, _ => []
/-- a key's value in a dict's entry -/
def KR (k : NestedKey) : V → Value → Prop
  | .ref b, u => u = .ref b
  | _, u => ∃ l : Leaf, l.key = k ∧ Leaf.isOf l u = true
/-- a dict by its entries: what the key is, the key, the value -/
def DicN (w : World) (a : Addr) (xs : List (NestedKey × V × V)) : HO := .ext fun h => xs.length ≤ sizeLine ∧ (a == sysModules) = false ∧ (xs.map (·.1)).Nodup ∧
  ∃ ys : List (NestedKey × Value × Value), Paired (fun (p : NestedKey × V × V) (q : NestedKey × Value × Value) => p.1 = q.1 ∧ KR p.1 p.2.1 q.2.1 ∧ RelV p.2.2 q.2.2) xs ys ∧
  ∃ o es ep, h.get? a = some o ∧ o.ExactDict ∧ o.data = .dict es ep ∧ es.toList = ys.map fun y => ⟨y.1.hash w, y.2.1, y.2.2⟩

mutual
def Rep (F : Hp) : D → V → Prop
  | .non, v => v = .non
  | .bl b, v => v = .bl b
  | .int i, v => v = .int i
  | .str s, v => v = .str ⟨s.toArray⟩
  | .lst ds, v => ∃ a vs, v = .ref a ∧ F a = some (.lst vs) ∧ RepL F ds vs
  | .tup ds, v => ∃ a vs, v = .ref a ∧ F a = some (.tup vs) ∧ RepL F ds vs
  | .dk ks ds, v => ∃ a vs, v = .ref a ∧ F a = some (.dK (ks.zip vs)) ∧ ks.length = ds.length ∧ RepL F ds vs
  | .dt w ks ds, v => ∃ a us vs, v = .ref a ∧ F a = some (DicN w a (zip3 (nkDs ks) us vs)) ∧ ks.length = ds.length ∧ RepL F ks us ∧ RepL F ds vs
  | .scr K ns, v => ∃ a, v = .ref a ∧ SqL K F a (ns.map V.int)
def RepL (F : Hp) : List D → List V → Prop
  | [], vs => vs = []
  | d :: ds, vs => ∃ v r, vs = v :: r ∧ Rep F d v ∧ RepL F ds r
end

mutual
theorem Rep.mono {F F' : Hp} (e : Ex F F') : ∀ (d : D) (v : V), Rep F d v → Rep F' d v
  | .non, v, h => by simpa [Rep] using h
  | .bl _, v, h => by simpa [Rep] using h
  | .int _, v, h => by simpa [Rep] using h
  | .str _, v, h => by simpa [Rep] using h
  | .lst ds, v, h => by
    rw [Rep] at h ⊢
    obtain ⟨a, vs, r, q, l⟩ := h
    exact ⟨a, vs, r, e _ _ q, RepL.mono e ds vs l⟩
  | .tup ds, v, h => by
    rw [Rep] at h ⊢
    obtain ⟨a, vs, r, q, l⟩ := h
    exact ⟨a, vs, r, e _ _ q, RepL.mono e ds vs l⟩
  | .dk ks ds, v, h => by
    rw [Rep] at h ⊢
    obtain ⟨a, vs, r, q, z, l⟩ := h
    exact ⟨a, vs, r, e _ _ q, z, RepL.mono e ds vs l⟩
  | .dt w ks ds, v, h => by
    rw [Rep] at h ⊢
    obtain ⟨a, us, vs, r, q, z, k, l⟩ := h
    exact ⟨a, us, vs, r, e _ _ q, z, RepL.mono e ks us k, RepL.mono e ds vs l⟩
  | .scr K ns, v, h => by
    rw [Rep] at h ⊢
    obtain ⟨a, r, q⟩ := h
    exact ⟨a, r, Evl.ex_l e q⟩
theorem RepL.mono {F F' : Hp} (e : Ex F F') : ∀ (ds : List D) (vs : List V), RepL F ds vs → RepL F' ds vs
  | [], vs, h => by simpa [RepL] using h
  | d :: ds, vs, h => by
    rw [RepL] at h ⊢
    obtain ⟨v, r, q, a, b⟩ := h
    exact ⟨v, r, q, Rep.mono e d v a, RepL.mono e ds r b⟩
end
theorem RepL.len {F : Hp} : ∀ {ds : List D} {vs : List V}, RepL F ds vs → vs.length = ds.length
  | [], vs, h => by
    rw [RepL] at h
    subst h
    rfl
  | d :: ds, vs, h => by
    rw [RepL] at h
    obtain ⟨v, r, q, a, b⟩ := h
    subst q
    rw [List.length_cons, List.length_cons, RepL.len b]
theorem RepL.nil {F : Hp} : RepL F [] [] := by
  rw [RepL]
theorem RepL.cons {F : Hp} {d : D} {v : V} {ds : List D} {vs : List V} (h : Rep F d v) (t : RepL F ds vs) : RepL F (d :: ds) (v :: vs) := by
  rw [RepL]
  exact ⟨v, vs, rfl, h, t⟩
theorem RepL.app {F : Hp} : ∀ {ds es : List D} {vs ws : List V}, RepL F ds vs → RepL F es ws → RepL F (ds ++ es) (vs ++ ws)
  | [], es, vs, ws, h, t => by
    rw [RepL] at h
    subst h
    exact t
  | d :: ds, es, vs, ws, h, t => by
    rw [RepL] at h
    obtain ⟨v, r, q, a, b⟩ := h
    subst q
    exact RepL.cons a (RepL.app b t)
theorem RepL.get {F : Hp} : ∀ {ds : List D} {vs : List V} {i : Nat} {d : D}, RepL F ds vs → ds[i]? = some d → ∃ v, vs[i]? = some v ∧ Rep F d v
  | [], vs, i, d, h, e => by simp at e
  | d' :: ds, vs, 0, d, h, e => by
    rw [RepL] at h
    obtain ⟨v, r, q, a, b⟩ := h
    subst q
    simp at e
    subst e
    exact ⟨v, rfl, a⟩
  | d' :: ds, vs, i + 1, d, h, e => by
    rw [RepL] at h
    obtain ⟨v, r, q, a, b⟩ := h
    subst q
    have e' : ds[i]? = some d := by simpa using e
    obtain ⟨u, q1, q2⟩ := RepL.get b e'
    exact ⟨u, by simpa using q1, q2⟩
theorem RepL.getV {F : Hp} {ds : List D} {vs : List V} {i : Nat} {v : V} (h : RepL F ds vs) (e : vs[i]? = some v) : ∃ d, ds[i]? = some d ∧ Rep F d v := by
  have hl := h.len
  have hi : i < vs.length := by
    by_cases c : i < vs.length
    · exact c
    · rw [List.getElem?_eq_none (by omega)] at e
      cases e
  have q : ds[i]? = some ds[i] := List.getElem?_eq_getElem (by omega)
  obtain ⟨u, q1, q2⟩ := h.get q
  rw [e] at q1
  cases q1
  exact ⟨_, q, q2⟩
theorem RepL.drop {F : Hp} : ∀ {ds : List D} {vs : List V} (n : Nat), RepL F ds vs → RepL F (ds.drop n) (vs.drop n)
  | ds, vs, 0, h => by simpa using h
  | [], vs, n + 1, h => by
    rw [RepL] at h
    subst h
    exact RepL.nil
  | d :: ds, vs, n + 1, h => by
    rw [RepL] at h
    obtain ⟨v, r, q, a, b⟩ := h
    subst q
    exact RepL.drop n b
theorem RepL.take {F : Hp} : ∀ {ds : List D} {vs : List V} (n : Nat), RepL F ds vs → RepL F (ds.take n) (vs.take n)
  | ds, vs, 0, h => by
    rw [List.take_zero, List.take_zero]
    exact RepL.nil
  | [], vs, n + 1, h => by
    rw [RepL] at h
    subst h
    exact RepL.nil
  | d :: ds, vs, n + 1, h => by
    rw [RepL] at h
    obtain ⟨v, r, q, a, b⟩ := h
    subst q
    exact RepL.cons a (RepL.take n b)
theorem RepL.setI {F : Hp} {d : D} {v : V} (h : Rep F d v) : ∀ {ds : List D} {vs : List V} (i : Nat), RepL F ds vs → RepL F (ds.set i d) (vs.set i v)
  | [], vs, i, t => by
    rw [RepL] at t
    subst t
    exact RepL.nil
  | d' :: ds, vs, 0, t => by
    rw [RepL] at t
    obtain ⟨v', r, q, a, b⟩ := t
    subst q
    exact RepL.cons h b
  | d' :: ds, vs, i + 1, t => by
    rw [RepL] at t
    obtain ⟨v', r, q, a, b⟩ := t
    subst q
    exact RepL.cons a (RepL.setI h i b)
theorem RepL.one {F : Hp} {d : D} {vs : List V} (h : RepL F [d] vs) : ∃ v, vs = [v] ∧ Rep F d v := by
  rw [RepL] at h
  obtain ⟨v, r, q, a, b⟩ := h
  rw [RepL] at b
  subst b
  exact ⟨v, q, a⟩
theorem RepL.uncons {F : Hp} {d : D} {ds : List D} {vs : List V} (h : RepL F (d :: ds) vs) : ∃ v r, vs = v :: r ∧ Rep F d v ∧ RepL F ds r := by
  rw [RepL] at h
  exact h
theorem RepL.unnil {F : Hp} {vs : List V} (h : RepL F [] vs) : vs = [] := by
  rw [RepL] at h
  exact h
theorem RepL.ofAll {F : Hp} (f : Int → D) (g : Int → V) (h : ∀ i, Rep F (f i) (g i)) : ∀ ns : List Int, RepL F (ns.map f) (ns.map g)
  | [] => RepL.nil
  | n :: ns => RepL.cons (h n) (RepL.ofAll f g h ns)
/-- rows of ints, of texts, of truths -/
theorem RepL.ints {F : Hp} : ∀ {ns : List Int} {vs : List V}, RepL F (ns.map D.int) vs → vs = ns.map V.int
  | [], vs, h => by
    rw [List.map_nil] at h
    exact h.unnil
  | n :: ns, vs, h => by
    rw [List.map_cons] at h
    obtain ⟨v, r, q, a, b⟩ := h.uncons
    rw [Rep] at a
    rw [q, a, RepL.ints b]
    rfl
def mkS (l : List Nat) : Str := ⟨l.toArray⟩
theorem RepL.strs {F : Hp} : ∀ {ns : List (List Nat)} {vs : List V}, RepL F (ns.map D.str) vs → vs = (ns.map mkS).map V.str
  | [], vs, h => by
    rw [List.map_nil] at h
    exact h.unnil
  | n :: ns, vs, h => by
    rw [List.map_cons] at h
    obtain ⟨v, r, q, a, b⟩ := h.uncons
    rw [Rep] at a
    rw [q, a, RepL.strs b]
    rfl
theorem RepL.bls {F : Hp} : ∀ {ns : List Bool} {vs : List V}, RepL F (ns.map D.bl) vs → vs = ns.map V.bl
  | [], vs, h => by
    rw [List.map_nil] at h
    exact h.unnil
  | n :: ns, vs, h => by
    rw [List.map_cons] at h
    obtain ⟨v, r, q, a, b⟩ := h.uncons
    rw [Rep] at a
    rw [q, a, RepL.bls b]
    rfl
theorem RepL.toInts {F : Hp} : ∀ (ns : List Int), RepL F (ns.map D.int) (ns.map V.int)
  | [] => RepL.nil
  | n :: ns => RepL.cons (by rw [Rep]) (RepL.toInts ns)
theorem RepL.toStrs {F : Hp} : ∀ (ns : List (List Nat)), RepL F (ns.map D.str) ((ns.map mkS).map V.str)
  | [] => RepL.nil
  | n :: ns => RepL.cons (by rw [Rep]; rfl) (RepL.toStrs ns)

/-! ### the state -/
abbrev Rho := List (Option DV)
abbrev Mu := List MC
def CelOk (F H : Hp) (a : Addr) : MC → Prop
  | .dead => H a ≠ none
  | .lst ds => F a = none ∧ ∃ vs, H a = some (.lst vs) ∧ RepL F ds vs
  | .dk ks ds => F a = none ∧ ∃ vs, H a = some (.dK (ks.zip vs)) ∧ ks.length = ds.length ∧ RepL F ds vs
  | .dt w ks ds => F a = none ∧ ∃ us vs, H a = some (DicN w a (zip3 (nkDs ks) us vs)) ∧ ks.length = ds.length ∧ RepL F ks us ∧ RepL F ds vs
theorem CelOk.there {F H : Hp} {a : Addr} {m : MC} (h : CelOk F H a m) : H a ≠ none := by
  cases m with
  | dead => exact h
  | lst ds =>
    obtain ⟨_, vs, e, _⟩ := h
    rw [e]
    exact fun z => nomatch z
  | dk ks ds =>
    obtain ⟨_, vs, e, _⟩ := h
    rw [e]
    exact fun z => nomatch z
  | dt w ks ds =>
    obtain ⟨_, us, vs, e, _⟩ := h
    rw [e]
    exact fun z => nomatch z
def isDead : MC → Bool
  | .dead => true
  | _ => false
/-- a live cell is not frozen -/
theorem CelOk.un {F H : Hp} {a : Addr} {m : MC} (h : CelOk F H a m) (l : isDead m = false) : F a = none := by
  cases m with
  | dead => cases l
  | lst ds => exact h.1
  | dk ks ds => exact h.1
  | dt w ks ds => exact h.1
/-- the same cell over a larger F, the heap as it was there -/
theorem CelOk.mono {F F' H H' : Hp} {a : Addr} {m : MC} (h : CelOk F H a m) (e : Ex F F') (n : F a = none → F' a = none) (k : H' a = H a) : CelOk F' H' a m := by
  cases m with
  | dead =>
    show H' a ≠ none
    rw [k]
    exact h
  | lst ds =>
    obtain ⟨z, vs, q, r⟩ := h
    exact ⟨n z, vs, by rw [k]; exact q, r.mono e⟩
  | dk ks ds =>
    obtain ⟨z, vs, q, l, r⟩ := h
    exact ⟨n z, vs, by rw [k]; exact q, l, r.mono e⟩
  | dt w ks ds =>
    obtain ⟨z, us, vs, q, l, rk, r⟩ := h
    exact ⟨n z, us, vs, by rw [k]; exact q, l, rk.mono e, r.mono e⟩

def RepV (F : Hp) (al : List Addr) : DV → V → Prop
  | .dat d, v => Rep F d v
  | .cel k, v => ∃ a, al[k]? = some a ∧ v = .ref a
theorem RepV.mono {F F' : Hp} {al al' : List Addr} {x : DV} {v : V} (h : RepV F al x v) (e : Ex F F') (p : al <+: al') : RepV F' al' x v := by
  cases x with
  | dat d => exact Rep.mono e d v h
  | cel k =>
    obtain ⟨a, q, r⟩ := h
    obtain ⟨t, rfl⟩ := p
    exact ⟨a, by rw [List.getElem?_append_left]; exact q; exact (List.getElem?_eq_some_iff.mp q).1, r⟩

/-- a code object is no cell's object -/
theorem heap_of (n : Nat) : ∃ h : Heap, h.objs.size = n := by
  induction n with
  | zero => exact ⟨{ (default : Heap) with objs := #[] }, rfl⟩
  | succ n ih =>
    obtain ⟨h, e⟩ := ih
    exact ⟨h.push { cls := .none, data := .plain }, by rw [← e]; exact Array.size_push ..⟩
theorem codeO_dicN {c : Addr} {q : Str} {w : World} {xs : List (NestedKey × V × V)} : LamX.CodeO c q ≠ DicN w c xs := fun z => by
  unfold LamX.CodeO DicN at z
  injection z with z
  obtain ⟨h, e⟩ := heap_of c
  have q1 : (h.push { cls := .none, data := .fields #[.none, .str q 0] }).get? c = some { cls := .none, data := .fields #[.none, .str q 0] } := by
    rw [← e]
    exact Heap.get?_push_size _ rfl
  have w1 := (congrFun z _).mp ⟨_, _, 0, q1, rfl, rfl⟩
  obtain ⟨_, _, _, ys, _, o, es, ep, e1, _, e2, _⟩ := w1
  rw [q1] at e1
  cases e1
  cases e2
/-- what may be written stands for no table and no code object -/
def Plain (c : Addr) (o : HO) : Prop := (∀ ps, o ≠ .tbl ps) ∧ ∀ q, o ≠ LamX.CodeO c q
theorem plain_lst {a : Addr} {vs : List V} : Plain a (.lst vs) := ⟨fun _ z => (by cases z), fun q z => by unfold LamX.CodeO at z; cases z⟩
theorem plain_dK {a : Addr} {vs : List (Key × V)} : Plain a (.dK vs) := ⟨fun _ z => (by cases z), fun q z => by unfold LamX.CodeO at z; cases z⟩
theorem plain_dicN {a : Addr} {w : World} {xs : List (NestedKey × V × V)} : Plain a (DicN w a xs) := ⟨fun _ z => (by unfold DicN at z; cases z), fun q z => codeO_dicN z.symm⟩
theorem CelOk.plain {F H : Hp} {a : Addr} {m : MC} (h : CelOk F H a m) (l : isDead m = false) : ∃ o, H a = some o ∧ Plain a o := by
  cases m with
  | dead => cases l
  | lst ds =>
    obtain ⟨_, vs, e, _⟩ := h
    exact ⟨_, e, plain_lst⟩
  | dk ks ds =>
    obtain ⟨_, vs, e, _⟩ := h
    exact ⟨_, e, plain_dK⟩
  | dt w ks ds =>
    obtain ⟨_, us, vs, e, _⟩ := h
    exact ⟨_, e, plain_dicN⟩
/-- a cell through a step that keeps all but the tables -/
theorem CelOk.keep {F F' H H' : Hp} {a : Addr} {m : MC} (h : CelOk F H a m) (e : Ex F F') (n : F a = none → F' a = none) (k : ∀ o, H a = some o → (∀ ps, o ≠ .tbl ps) → H' a = some o) (dm : H a ≠ none → H' a ≠ none) : CelOk F' H' a m := by
  cases m with
  | dead => exact dm h
  | lst ds =>
    obtain ⟨o, e1, pl, _⟩ := h.plain rfl
    exact h.mono e n (by rw [e1]; exact k o e1 pl)
  | dk ks ds =>
    obtain ⟨o, e1, pl, _⟩ := h.plain rfl
    exact h.mono e n (by rw [e1]; exact k o e1 pl)
  | dt w ks ds =>
    obtain ⟨o, e1, pl, _⟩ := h.plain rfl
    exact h.mono e n (by rw [e1]; exact k o e1 pl)
/-- a step through which the tables go -/
structure Kept (H H' : Hp) : Prop where
  kp : ∀ a o, H a = some o → (∀ ps, o ≠ .tbl ps) → H' a = some o
  dm : ∀ a, H a ≠ none → H' a ≠ none
  tb : LamX.Tabs Tb.tabs H → LamX.Tabs Tb.tabs H'
theorem Kept.of {H H' : Hp} (k : ∀ a o, H a = some o → H' a = some o) : Kept H H' := ⟨fun a o h _ => k a o h, fun a h => by
  cases e : H a with
  | none => exact absurd e h
  | some o =>
    rw [k a o e]
    exact fun z => (nomatch z), fun t => LamX.Tabs.ext t k⟩
theorem Kept.refl (H : Hp) : Kept H H := Kept.of fun _ _ h => h
theorem Kept.trans {H H1 H2 : Hp} (a : Kept H H1) (b : Kept H1 H2) : Kept H H2 := ⟨fun x o h n => b.kp x o (a.kp x o h n) n, fun x h => b.dm x (a.dm x h), fun t => b.tb (a.tb t)⟩
theorem Kept.off {H0 H H2 : Hp} (k : Kept H0 H) (e : ∀ b, (H0 b ≠ none ∨ ∃ q, H b = some (LamX.CodeO b q)) → H2 b = H b) : Kept H0 H2 := ⟨fun a o h n => by
    rw [e a (.inl (by rw [h]; exact fun z => nomatch z))]
    exact k.kp a o h n, fun a h => by
    rw [e a (.inl h)]
    exact k.dm a h, fun t p hp => by
    have nP : H0 p.1 ≠ none := by
      obtain ⟨ps, h1, _⟩ := t p hp
      rw [h1]
      exact fun z => nomatch z
    obtain ⟨ps, h1, h2, h3⟩ := k.tb t p hp
    refine ⟨ps, by rw [e p.1 (.inl nP)]; exact h1, h2, fun pos cv hc => ?_⟩
    obtain ⟨c, e1, e2⟩ := h3 pos cv hc
    exact ⟨c, e1, by rw [e c (.inr ⟨p.2, e2⟩)]; exact e2⟩⟩
/-- an object that is no table and no code object is written -/
theorem tabs_put {T : List (Addr × Str)} {H : Hp} {a : Addr} {o o' : HO} (t : LamX.Tabs T H) (ha : H a = some o) (pl : Plain a o) : LamX.Tabs T (upd H a o') := fun p hp => by
  obtain ⟨ps, h1, h2, h3⟩ := t p hp
  refine ⟨ps, ?_, h2, fun pos cv hc => ?_⟩
  · rw [upd_ne (fun z => by rw [z, ha] at h1; cases h1; exact pl.1 ps rfl)]
    exact h1
  · obtain ⟨c, e1, e2⟩ := h3 pos cv hc
    refine ⟨c, e1, ?_⟩
    rw [upd_ne (fun z => by rw [z, ha] at e2; cases e2; exact pl.2 _ rfl)]
    exact e2
theorem tabs_new {T : List (Addr × Str)} {H : Hp} {a : Addr} {o : HO} (t : LamX.Tabs T H) (ha : H a = none) : LamX.Tabs T (upd H a o) := t.ext fun b u e => by
  rw [upd_ne (ne_of_none e ha)]
  exact e
/-- the heap without its tables -/
noncomputable def noT (H : Hp) : Hp := fun a => open Classical in if ∃ ps, H a = some (.tbl ps) then none else H a
theorem noT_ex {H : Hp} : Ex (noT H) H := fun a o e => by
  unfold noT at e
  split at e
  · cases e
  · exact e
theorem noT_nt {H : Hp} : ∀ a ps, noT H a ≠ some (.tbl ps) := fun a ps e => by
  unfold noT at e
  split at e
  · cases e
  · rename_i h
    exact h ⟨ps, e⟩
theorem noT_of {H : Hp} {a : Addr} {o : HO} (e : H a = some o) (n : ∀ ps, o ≠ .tbl ps) : noT H a = some o := by
  unfold noT
  rw [if_neg]
  · exact e
  · rintro ⟨ps, z⟩
    rw [e] at z
    exact n ps (Option.some.inj z)
theorem nt_upd {F : Hp} {p : Addr} {o : HO} (h : ∀ a ps, F a ≠ some (.tbl ps)) (no : ∀ ps, o ≠ .tbl ps) : ∀ a ps, upd F p o a ≠ some (.tbl ps) := fun a ps z => by
  by_cases c : a = p
  · subst c
    rw [upd_same] at z
    exact no ps (Option.some.inj z)
  · rw [upd_ne c] at z
    exact h a ps z
structure Cels (F : Hp) (al : List Addr) (mu : Mu) (H : Hp) : Prop where
  ex : Ex F H
  nt : ∀ a ps, F a ≠ some (.tbl ps)
  tb : LamX.Tabs Tb.tabs H
  len : al.length = mu.length
  nd : al.Nodup
  cel : ∀ (k : Nat) (a : Addr) (m : MC), al[k]? = some a → mu[k]? = some m → CelOk F H a m
structure Sim (F : Hp) (al : List Addr) (rho : Rho) (mu : Mu) (σ : L2.St) (H : Hp) : Prop extends Cels F al mu H where
  slen : rho.length = σ.length
  slot : ∀ (i : Nat) (x : DV), rho[i]? = some (some x) → ∃ v, σ[i]? = some (some v) ∧ RepV F al x v

/-- from one state to a later one -/
structure Ext (F : Hp) (al : List Addr) (H : Hp) (F' : Hp) (al' : List Addr) (H' : Hp) : Prop where
  ex : Ex F F'
  pf : al <+: al'
  nf : ∀ a, F' a ≠ none → F a ≠ none ∨ H a = none ∨ a ∈ al
  nc : ∀ a ∈ al', a ∈ al ∨ H a = none
  kp : ∀ a o, a ∉ al → H a = some o → (∀ ps, o ≠ .tbl ps) → H' a = some o
  dm : ∀ a, H a ≠ none → H' a ≠ none
theorem Ext.refl {F : Hp} {al : List Addr} {H : Hp} : Ext F al H F al H := ⟨Ex.refl F, List.prefix_refl _, fun _ h => .inl h, fun _ h => .inl h, fun _ _ _ h _ => h, fun _ h => h⟩
theorem none_back {o p : Option HO} (h : o ≠ none → p ≠ none) (e : p = none) : o = none := by
  cases o with
  | none => rfl
  | some x => exact absurd e (h (fun z => nomatch z))
theorem Ext.trans {F F1 F2 : Hp} {al al1 al2 : List Addr} {H H1 H2 : Hp} (a : Ext F al H F1 al1 H1) (b : Ext F1 al1 H1 F2 al2 H2) : Ext F al H F2 al2 H2 where
  ex := a.ex.trans b.ex
  pf := a.pf.trans b.pf
  nf := fun x h => by
    rcases b.nf x h with q | q | q
    · exact a.nf x q
    · exact .inr (.inl (none_back (a.dm x) q))
    · rcases a.nc x q with r | r
      · exact .inr (.inr r)
      · exact .inr (.inl r)
  nc := fun x h => by
    rcases b.nc x h with q | q
    · exact a.nc x q
    · exact .inr (none_back (a.dm x) q)
  kp := fun x o h e n => by
    by_cases hx : x ∈ al1
    · rcases a.nc x hx with q | q
      · exact absurd q h
      · rw [q] at e
        cases e
    · exact b.kp x o hx (a.kp x o h e n) n
  dm := fun x h => b.dm x (a.dm x h)
/-- a new frozen object -/
theorem Ext.new {F : Hp} {al : List Addr} {H : Hp} {p : Addr} {o : HO} (hp : H p = none) (e : Ex F H) : Ext F al H (upd F p o) al (upd H p o) where
  ex := Ex.new (by
    cases q : F p with
    | none => rfl
    | some u =>
      rw [e p u q] at hp
      cases hp)
  pf := List.prefix_refl _
  nf := fun a h => by
    by_cases c : a = p
    · subst c
      exact .inr (.inl hp)
    · rw [upd_ne c] at h
      exact .inl h
  nc := fun a h => .inl h
  kp := fun a u _ q _ => by rw [upd_ne (ne_of_none q hp)]; exact q
  dm := fun a h => by
    by_cases c : a = p
    · subst c
      rw [upd_same]
      exact fun z => nomatch z
    · rw [upd_ne c]
      exact h
/-- a new object that is neither frozen nor a cell (yet) -/
theorem Ext.loose {F : Hp} {al : List Addr} {H : Hp} {p : Addr} {o : HO} (hp : H p = none) : Ext F al H F al (upd H p o) where
  ex := Ex.refl F
  pf := List.prefix_refl _
  nf := fun a h => .inl h
  nc := fun a h => .inl h
  kp := fun a u _ q _ => by rw [upd_ne (ne_of_none q hp)]; exact q
  dm := fun a h => by
    by_cases c : a = p
    · subst c
      rw [upd_same]
      exact fun z => nomatch z
    · rw [upd_ne c]
      exact h
theorem ex_none {F H : Hp} (e : Ex F H) {p : Addr} (hp : H p = none) : F p = none := by
  cases q : F p with
  | none => rfl
  | some u =>
    rw [e p u q] at hp
    cases hp
theorem Cels.not_al {F : Hp} {al : List Addr} {mu : Mu} {H : Hp} (S : Cels F al mu H) {p : Addr} (hp : H p = none) : p ∉ al := fun h => by
  obtain ⟨k, hk, e⟩ := List.getElem_of_mem h
  have hm : k < mu.length := by rw [← S.len]; exact hk
  exact (S.cel k p mu[k] (by rw [List.getElem?_eq_getElem hk, e]) (List.getElem?_eq_getElem hm)).there hp
theorem Cels.newF {F : Hp} {al : List Addr} {mu : Mu} {H : Hp} {p : Addr} {o : HO} (S : Cels F al mu H) (hp : H p = none) (no : ∀ ps, o ≠ .tbl ps := by intro _ z; cases z) : Cels (upd F p o) al mu (upd H p o) where
  nt := nt_upd S.nt no
  ex := fun a u h => by
    by_cases c : a = p
    · subst c
      rw [upd_same] at h ⊢
      exact h
    · rw [upd_ne c] at h ⊢
      exact S.ex a u h
  tb := tabs_new S.tb hp
  len := S.len
  nd := S.nd
  cel := fun k a m h1 h2 => by
    have na : a ≠ p := fun z => by
      subst z
      exact S.not_al hp (List.mem_of_getElem? h1)
    exact (S.cel k a m h1 h2).mono (Ext.new (al := al) hp S.ex).ex (fun z => by rw [upd_ne na]; exact z) (upd_ne na)
theorem Cels.loose {F : Hp} {al : List Addr} {mu : Mu} {H : Hp} {p : Addr} {o : HO} (S : Cels F al mu H) (hp : H p = none) : Cels F al mu (upd H p o) where
  ex := fun a u h => by
    rw [upd_ne (ne_of_none (S.ex a u h) hp)]
    exact S.ex a u h
  nt := S.nt
  tb := tabs_new S.tb hp
  len := S.len
  nd := S.nd
  cel := fun k a m h1 h2 => by
    have na : a ≠ p := fun z => by
      subst z
      exact S.not_al hp (List.mem_of_getElem? h1)
    exact (S.cel k a m h1 h2).mono (Ex.refl F) (fun z => z) (upd_ne na)
theorem Sim.of {F F' : Hp} {al al' : List Addr} {rho : Rho} {mu mu' : Mu} {σ : L2.St} {H H' : Hp} (S : Sim F al rho mu σ H) (C : Cels F' al' mu' H') (e : Ex F F') (p : al <+: al') : Sim F' al' rho mu' σ H' where
  toCels := C
  slen := S.slen
  slot := fun i x h => by
    obtain ⟨v, q, r⟩ := S.slot i x h
    exact ⟨v, q, r.mono e p⟩
theorem Sim.newF {F : Hp} {al : List Addr} {rho : Rho} {mu : Mu} {σ : L2.St} {H : Hp} {p : Addr} {o : HO} (S : Sim F al rho mu σ H) (hp : H p = none) (no : ∀ ps, o ≠ .tbl ps) : Sim (upd F p o) al rho mu σ (upd H p o) :=
  S.of (S.toCels.newF hp no) (Ext.new (al := al) hp S.ex).ex (List.prefix_refl _)
theorem Sim.loose {F : Hp} {al : List Addr} {rho : Rho} {mu : Mu} {σ : L2.St} {H : Hp} {p : Addr} {o : HO} (S : Sim F al rho mu σ H) (hp : H p = none) : Sim F al rho mu σ (upd H p o) :=
  S.of (S.toCels.loose hp) (Ex.refl F) (List.prefix_refl _)
end Dx

namespace Dx
open PySem PySem.Spec PyProof.Rows L2
open Evl (Ex)
variable [Tb]

theorem rv_bl {F : Hp} {al : List Addr} {b : Bool} : RepV F al (.dat (.bl b)) (.bl b) := by
  show Rep F (.bl b) (.bl b)
  rw [Rep]
theorem rv_int {F : Hp} {al : List Addr} {b : Int} : RepV F al (.dat (.int b)) (.int b) := by
  show Rep F (.int b) (.int b)
  rw [Rep]
theorem rv_str {F : Hp} {al : List Addr} {b : List Nat} : RepV F al (.dat (.str b)) (.str (mkS b)) := by
  show Rep F (.str b) (.str (mkS b))
  rw [Rep]
  rfl
theorem rv_non {F : Hp} {al : List Addr} : RepV F al (.dat .non) .non := by
  show Rep F .non .non
  rw [Rep]
theorem rv_lst {F : Hp} {al : List Addr} {ds : List D} {vs : List V} {p : Addr} (h : F p = some (.lst vs)) (r : RepL F ds vs) : RepV F al (.dat (.lst ds)) (.ref p) := by
  show Rep F (.lst ds) (.ref p)
  rw [Rep]
  exact ⟨p, vs, rfl, h, r⟩
theorem rv_tup {F : Hp} {al : List Addr} {ds : List D} {vs : List V} {p : Addr} (h : F p = some (.tup vs)) (r : RepL F ds vs) : RepV F al (.dat (.tup ds)) (.ref p) := by
  show Rep F (.tup ds) (.ref p)
  rw [Rep]
  exact ⟨p, vs, rfl, h, r⟩
theorem rv_bl_out {F : Hp} {al : List Addr} {b : Bool} {v : V} (h : RepV F al (.dat (.bl b)) v) : v = .bl b := by
  have r : Rep F (.bl b) v := h
  rw [Rep] at r
  exact r
theorem rv_int_out {F : Hp} {al : List Addr} {b : Int} {v : V} (h : RepV F al (.dat (.int b)) v) : v = .int b := by
  have r : Rep F (.int b) v := h
  rw [Rep] at r
  exact r
theorem rv_str_out {F : Hp} {al : List Addr} {b : List Nat} {v : V} (h : RepV F al (.dat (.str b)) v) : v = .str (mkS b) := by
  have r : Rep F (.str b) v := h
  rw [Rep] at r
  exact r
theorem rv_non_out {F : Hp} {al : List Addr} {v : V} (h : RepV F al (.dat .non) v) : v = .non := by
  have r : Rep F .non v := h
  rw [Rep] at r
  exact r
theorem rv_lst_out {F : Hp} {al : List Addr} {ds : List D} {v : V} (h : RepV F al (.dat (.lst ds)) v) : ∃ p vs, v = .ref p ∧ F p = some (.lst vs) ∧ RepL F ds vs := by
  have r : Rep F (.lst ds) v := h
  rw [Rep] at r
  exact r
theorem rv_tup_out {F : Hp} {al : List Addr} {ds : List D} {v : V} (h : RepV F al (.dat (.tup ds)) v) : ∃ p vs, v = .ref p ∧ F p = some (.tup vs) ∧ RepL F ds vs := by
  have r : Rep F (.tup ds) v := h
  rw [Rep] at r
  exact r
/-! ### readings over data -/
abbrev DQ := DV → Mu → Prop
abbrev DE := Rho → Mu → DQ → Prop
abbrev DT := Rho → Mu → (Bool → Mu → Prop) → Prop
abbrev DA := Rho → Mu → (List DV → Mu → Prop) → Prop
abbrev DF := Rho → Mu → (MC → Mu → Prop) → Prop
/-- links: from what is wanted over data to what is wanted over the heap -/
def LK (F : Hp) (al : List Addr) (H : Hp) (Q : DQ) (R : VK) : Prop := ∀ F' al' z mu' v H', Ext F al H F' al' H' → Cels F' al' mu' H' → RepV F' al' z v → Q z mu' → R v H'
def LT (F : Hp) (al : List Addr) (H : Hp) (Q : Bool → Mu → Prop) (R : Bool → Hp → Prop) : Prop := ∀ F' al' b mu' H', Ext F al H F' al' H' → Cels F' al' mu' H' → Q b mu' → R b H'
inductive RepVs (F : Hp) (al : List Addr) : List DV → List V → Prop
  | nil : RepVs F al [] []
  | cons {x : DV} {v : V} {xs : List DV} {vs : List V} : RepV F al x v → RepVs F al xs vs → RepVs F al (x :: xs) (v :: vs)
theorem RepVs.mono {F F' : Hp} {al al' : List Addr} (e : Ex F F') (p : al <+: al') : ∀ {xs : List DV} {vs : List V}, RepVs F al xs vs → RepVs F' al' xs vs
  | _, _, .nil => .nil
  | _, _, .cons h t => .cons (h.mono e p) (RepVs.mono e p t)
theorem RepVs.len {F : Hp} {al : List Addr} : ∀ {xs : List DV} {vs : List V}, RepVs F al xs vs → vs.length = xs.length
  | _, _, .nil => rfl
  | _, _, .cons h t => by rw [List.length_cons, List.length_cons, RepVs.len t]
def LA (F : Hp) (al : List Addr) (H : Hp) (Q : List DV → Mu → Prop) (R : List V → Hp → Prop) : Prop := ∀ F' al' zs mu' vs H', Ext F al H F' al' H' → Cels F' al' mu' H' → RepVs F' al' zs vs → Q zs mu' → R vs H'
def LF (F : Hp) (al : List Addr) (H : Hp) (Q : MC → Mu → Prop) (R : VK) : Prop := ∀ F' al' m mu' p H', Ext F al H F' al' H' → Cels F' al' mu' H' → p ∉ al' → H p = none → isDead m = false → CelOk F' H' p m → Q m mu' → R (.ref p) H'
section
variable {F F1 : Hp} {al al1 : List Addr} {H H1 : Hp}
theorem LK.trans {Q : DQ} {R : VK} (l : LK F al H Q R) (E : Ext F al H F1 al1 H1) : LK F1 al1 H1 Q R := fun F' al' z mu' v H' E' => l F' al' z mu' v H' (E.trans E')
theorem LT.trans {Q : Bool → Mu → Prop} {R : Bool → Hp → Prop} (l : LT F al H Q R) (E : Ext F al H F1 al1 H1) : LT F1 al1 H1 Q R := fun F' al' z mu' H' E' => l F' al' z mu' H' (E.trans E')
theorem LA.trans {Q : List DV → Mu → Prop} {R : List V → Hp → Prop} (l : LA F al H Q R) (E : Ext F al H F1 al1 H1) : LA F1 al1 H1 Q R := fun F' al' z mu' v H' E' => l F' al' z mu' v H' (E.trans E')
theorem LF.trans {Q : MC → Mu → Prop} {R : VK} (l : LF F al H Q R) (E : Ext F al H F1 al1 H1) : LF F1 al1 H1 Q R := fun F' al' m mu' p H' E' C n hp => l F' al' m mu' p H' (E.trans E') C n (none_back (E.dm p) hp)
end
def GE (te : TE) (t : DE) : Prop := ∀ F al rho mu σ H Q R, Sim F al rho mu σ H → t rho mu Q → LK F al H Q R → te σ H R
def GT (te : TT) (t : DT) : Prop := ∀ F al rho mu σ H Q R, Sim F al rho mu σ H → t rho mu Q → LT F al H Q R → te σ H R
def GA (te : TA) (t : DA) : Prop := ∀ F al rho mu σ H Q R, Sim F al rho mu σ H → t rho mu Q → LA F al H Q R → te σ H R
def GF (te : TE) (t : DF) : Prop := ∀ F al rho mu σ H Q R, Sim F al rho mu σ H → t rho mu Q → LF F al H Q R → te σ H R
structure CE (X : Cx) (e : Expr) (t : DE) : Prop where
  ok : ∃ te, PE X e te ∧ GE te t
structure CT (X : Cx) (e : Expr) (t : DT) : Prop where
  ok : ∃ te, PT X e te ∧ GT te t
structure CA (X : Cx) (es : List Expr) (t : DA) : Prop where
  ok : ∃ te, PA X es te ∧ GA te t
structure CF (X : Cx) (e : Expr) (t : DF) : Prop where
  ok : ∃ te, PE X e te ∧ GF te t

/-! ### freezing -/
theorem CelOk.frzN {F H : Hp} {p : Addr} {m : MC} (h : CelOk F H p m) (l : isDead m = false) {o : HO} (e : H p = some o) : ∀ ps, o ≠ .tbl ps := by
  obtain ⟨o', e', pl⟩ := h.plain l
  rw [e] at e'
  cases e'
  exact pl.1
theorem CelOk.frz {F H : Hp} {p : Addr} {m : MC} (h : CelOk F H p m) (l : isDead m = false) : ∃ o, H p = some o ∧ ∀ F', Ex F F' → F' p = some o → Rep F' m.toD (.ref p) := by
  cases m with
  | dead => cases l
  | lst ds =>
    obtain ⟨_, vs, q, r⟩ := h
    exact ⟨_, q, fun F' e z => by rw [MC.toD, Rep]; exact ⟨p, vs, rfl, z, r.mono e⟩⟩
  | dk ks ds =>
    obtain ⟨_, vs, q, w, r⟩ := h
    exact ⟨_, q, fun F' e z => by rw [MC.toD, Rep]; exact ⟨p, vs, rfl, z, w, r.mono e⟩⟩
  | dt w ks ds =>
    obtain ⟨_, us, vs, q, l, rk, r⟩ := h
    exact ⟨_, q, fun F' e z => by rw [MC.toD, Rep]; exact ⟨p, us, vs, rfl, z, l, rk.mono e, r.mono e⟩⟩
/-- an object beside the cells is frozen -/
theorem Cels.frz {F H : Hp} {al : List Addr} {mu : Mu} {p : Addr} {o : HO} (C : Cels F al mu H) (hp : H p = some o) (hn : F p = none) (na : p ∉ al) (no : ∀ ps, o ≠ .tbl ps) : Cels (upd F p o) al mu H where
  nt := nt_upd C.nt no
  ex := fun a u h => by
    by_cases c : a = p
    · subst c
      rw [upd_same] at h
      cases h
      exact hp
    · rw [upd_ne c] at h
      exact C.ex a u h
  tb := C.tb
  len := C.len
  nd := C.nd
  cel := fun k a m h1 h2 => by
    have ne : a ≠ p := fun z => by
      subst z
      exact na (List.mem_of_getElem? h1)
    refine (C.cel k a m h1 h2).mono (fun b u q => ?_) (fun z => by rw [upd_ne ne]; exact z) rfl
    rw [upd_ne (ne_of_none q hn)]
    exact q
theorem ex_upd {F : Hp} {p : Addr} {o : HO} (hn : F p = none) : Ex F (upd F p o) := fun a u h => by
  rw [upd_ne (ne_of_none h hn)]
  exact h
theorem Ext.frz {F F' H H' : Hp} {al al' : List Addr} {p : Addr} {o : HO} (E : Ext F al H F' al' H') (hn : F' p = none) (h0 : H p = none) : Ext F al H (upd F' p o) al' H' where
  ex := E.ex.trans (ex_upd hn)
  pf := E.pf
  nf := fun a h => by
    by_cases c : a = p
    · subst c
      exact .inr (.inl h0)
    · rw [upd_ne c] at h
      exact E.nf a h
  nc := E.nc
  kp := E.kp
  dm := E.dm
/-- what is fresh as data -/
def dFrz (t : DF) : DE := fun rho mu Q => t rho mu fun m mu' => Q (.dat m.toD) mu'
/-- what is fresh as a new cell -/
def dNew (t : DF) : DE := fun rho mu Q => t rho mu fun m mu' => Q (.cel mu'.length) (mu' ++ [m])
theorem ge_frz {te : TE} {t : DF} (h : GF te t) : GE te (dFrz t) := fun F al rho mu σ H Q R S q l =>
  h F al rho mu σ H _ R S q fun F' al' m mu' p H' E C na h0 dd ok q' => by
    obtain ⟨o, ho, rep⟩ := ok.frz dd
    have hn := ok.un dd
    exact l _ al' (.dat m.toD) mu' (.ref p) H' (E.frz hn h0) (C.frz ho hn na (ok.frzN dd ho)) (rep _ (ex_upd hn) upd_same) q'
theorem Cels.grow {F H : Hp} {al : List Addr} {mu : Mu} {p : Addr} {m : MC} (C : Cels F al mu H) (ok : CelOk F H p m) (na : p ∉ al) : Cels F (al ++ [p]) (mu ++ [m]) H where
  ex := C.ex
  nt := C.nt
  tb := C.tb
  len := by rw [List.length_append, List.length_append, C.len]; rfl
  nd := by
    rw [List.nodup_append]
    exact ⟨C.nd, by simp, fun a ha b hb => by
      rw [List.mem_singleton] at hb
      subst hb
      exact fun z => na (z ▸ ha)⟩
  cel := fun k a m' h1 h2 => by
    by_cases hk : k < al.length
    · rw [List.getElem?_append_left hk] at h1
      rw [List.getElem?_append_left (by rw [← C.len]; exact hk)] at h2
      exact C.cel k a m' h1 h2
    · rw [List.getElem?_append_right (by omega)] at h1
      rw [List.getElem?_append_right (by rw [← C.len]; omega)] at h2
      by_cases hz : k = al.length
      · subst hz
        rw [Nat.sub_self] at h1
        rw [C.len, Nat.sub_self] at h2
        cases h1
        cases h2
        exact ok
      · rw [List.getElem?_eq_none (by rw [List.length_singleton]; omega)] at h1
        cases h1
theorem ge_new {te : TE} {t : DF} (h : GF te t) : GE te (dNew t) := fun F al rho mu σ H Q R S q l =>
  h F al rho mu σ H _ R S q fun F' al' m mu' p H' E C na h0 dd ok q' => by
    have E2 : Ext F al H F' (al' ++ [p]) H' := ⟨E.ex, E.pf.trans (List.prefix_append _ _), E.nf, fun a ha => by
      rcases List.mem_append.mp ha with z | z
      · exact E.nc a z
      · rw [List.mem_singleton] at z
        subst z
        exact .inr h0, E.kp, E.dm⟩
    exact l F' (al' ++ [p]) (.cel mu'.length) (mu' ++ [m]) (.ref p) H' E2 (C.grow ok na) ⟨p, by rw [List.getElem?_append_right (by rw [C.len]; exact Nat.le_refl _), C.len, Nat.sub_self]; rfl, rfl⟩ q'
section
variable {X : Cx} {e a b : Expr} {ta tb : DE} {pos : Pos}
theorem ce_frz {t : DF} (h : CF X e t) : CE X e (dFrz t) := let ⟨te, p, g⟩ := h.ok; ⟨te, p, ge_frz g⟩
theorem ce_new {t : DF} (h : CF X e t) : CE X e (dNew t) := let ⟨te, p, g⟩ := h.ok; ⟨te, p, ge_new g⟩

/-! ### names, constants -/
def slotD : Rho → Nat → Option DV
  | [], _ => none
  | x :: _, 0 => x
  | _ :: r, n + 1 => slotD r n
theorem slotD_at : ∀ {rho : Rho} {i : Nat} {x : DV}, slotD rho i = some x → rho[i]? = some (some x)
  | [], i, x, h => by cases i <;> cases h
  | y :: r, 0, x, h => by
    have e : y = some x := h
    rw [e]
    rfl
  | y :: r, n + 1, x, h => by
    have e : slotD r n = some x := h
    have q := slotD_at e
    rw [List.getElem?_cons_succ]
    exact q
def dVar (i : Nat) : DE := fun rho mu Q => match slotD rho i with
  | some x => Q x mu
  | none => False
theorem ge_var {i : Nat} : GE (tVar i) (dVar i) := fun F al rho mu σ H Q R S q l => by
  unfold dVar at q
  cases h : slotD rho i with
  | none =>
    rw [h] at q
    exact q.elim
  | some x =>
    rw [h] at q
    obtain ⟨v, e, r⟩ := S.slot i x (slotD_at h)
    exact ⟨v, e, l F al x mu v H Ext.refl S.toCels r q⟩
theorem cv (i : Nat) {x : Str} (hN : X.N[i]? = some x := by rfl) (hv : Vis X.env.scope x := by first | exact Or.inl rfl | exact Or.inr (Or.inl rfl) | exact Or.inr (Or.inr rfl)) (hd : (x == ("__debug__" : Str)) = false := by decide)
    (hcd : (x == ("__classdict__" : Str)) = false := by decide) : CE X (.Name x pos) (dVar i) := ⟨_, pe_var hN hv hd hcd, ge_var⟩
def dC (d : D) : DE := fun _ mu Q => Q (.dat d) mu
theorem ge_c {d : D} {v : V} (h : ∀ F, Rep F d v) : GE (tC v) (dC d) := fun F al rho mu σ H Q R S q l => l F al (.dat d) mu v H Ext.refl S.toCels (h F) q
theorem ce_int {i j pos} : CE X (.Constant (.int i) j pos) (dC (.int i)) := ⟨_, pe_int, ge_c fun F => by rw [Rep]⟩
theorem ce_bl {b j pos} : CE X (.Constant (.bool b) j pos) (dC (.bl b)) := ⟨_, pe_bl, ge_c fun F => by rw [Rep]⟩
theorem ce_non {j pos} : CE X (.Constant .none j pos) (dC .non) := ⟨_, pe_non, ge_c fun F => by rw [Rep]⟩
theorem mkS_tl (x : Str) : mkS x.cps.toList = x := rfl
theorem ce_str {x j pos} : CE X (.Constant (.str x) j pos) (dC (.str x.cps.toList)) := ⟨_, pe_str, ge_c fun F => by rw [Rep]⟩
/-- a global of the module whose value is data without a heap -/
theorem ce_globI {x : Str} {i : Int} {t : Tok} {pos : Pos} (hg : Gl X x) (hm : X.mg x = some (.int i t)) (hd : (x == ("__debug__" : Str)) = false := by decide) : CE X (.Name x pos) (dC (.int i)) := ⟨_, pe_glob (v := .int i) hg hm ⟨t, rfl⟩ hd, ge_c fun F => by rw [Rep]⟩
theorem ce_globS {x : Str} {s : Str} {t : Tok} {pos : Pos} (hg : Gl X x) (hm : X.mg x = some (.str s t)) (hd : (x == ("__debug__" : Str)) = false := by decide) : CE X (.Name x pos) (dC (.str s.cps.toList)) := ⟨_, pe_glob (v := .str s) hg hm ⟨t, rfl⟩ hd, ge_c fun F => by rw [Rep]⟩

/-! ### operators by values -/
abbrev D2 := DV → DV → Mu → DQ → Prop
structure OpD (X : Cx) (f : Value → Value → Sem Value) (t : D2) : Prop where
  ok : ∃ r, OpR X f r ∧ ∀ F al mu H x y v u Q R, Cels F al mu H → RepV F al x v → RepV F al y u → t x y mu Q → LK F al H Q R → r v u H R
def dOp (t : D2) (ta tb : DE) : DE := fun rho mu Q => ta rho mu fun x mu1 => tb rho mu1 fun y mu2 => t x y mu2 Q
theorem ge_op {te ue : TE} {r : R2} {t : D2} (ga : GE te ta) (gb : GE ue tb) (hr : ∀ F al mu H x y v u Q R, Cels F al mu H → RepV F al x v → RepV F al y u → t x y mu Q → LK F al H Q R → r v u H R) : GE (tOp r te ue) (dOp t ta tb) :=
  fun F al rho mu σ H Q R S q l => ga F al rho mu σ H _ _ S q fun F1 al1 x mu1 v H1 E1 C1 r1 q1 =>
    gb F1 al1 rho mu1 σ H1 _ _ (S.of C1 E1.ex E1.pf) q1 fun F2 al2 y mu2 u H2 E2 C2 r2 q2 => hr F2 al2 mu2 H2 x y v u Q R C2 (r1.mono E2.ex E2.pf) r2 q2 ((l.trans E1).trans E2)
theorem ce_op {op : Operator} {t : D2} (ho : OpD X (binaryOp op) t) (ha : CE X a ta) (hb : CE X b tb) : CE X (.BinOp a op b pos) (dOp t ta tb) :=
  let ⟨_, r, g⟩ := ho.ok; let ⟨_, pa, ga⟩ := ha.ok; let ⟨_, pb, gb⟩ := hb.ok; ⟨_, pe_op r pa pb, ge_op ga gb g⟩
theorem ce_cmp {op : CmpOp} {t : D2} (ho : OpD X (compareOp op) t) (ha : CE X a ta) (hb : CE X b tb) (hm : behindInMarks op b = false := by first | exact nomark _ | rfl) : CE X (.Compare a [op] [b] pos) (dOp t ta tb) :=
  let ⟨_, r, g⟩ := ho.ok; let ⟨_, pa, ga⟩ := ha.ok; let ⟨_, pb, gb⟩ := hb.ok; ⟨_, pe_cmpR r pa pb hm, ge_op ga gb g⟩
/-- a value as a test -/
def onB (Q : Bool → Mu → Prop) : DQ := fun z mu => match z with
  | .dat (.bl b) => Q b mu
  | _ => False
def dTest (t : DE) : DT := fun rho mu Q => t rho mu (onB Q)
theorem onB_out {F : Hp} {al : List Addr} {Q : Bool → Mu → Prop} {z : DV} {mu : Mu} {v : V} (q : onB Q z mu) (r : RepV F al z v) : ∃ b, v = .bl b ∧ Q b mu := by
  cases z with
  | cel k => exact q.elim
  | dat d =>
    cases d with
    | bl b => exact ⟨b, rv_bl_out r, q⟩
    | _ => exact q.elim
theorem gt_test {te : TE} {t : DE} (g : GE te t) : GT (tTest te) (dTest t) := fun F al rho mu σ H Q R S q l =>
  g F al rho mu σ H _ _ S q fun F1 al1 z mu1 v H1 E1 C1 r1 q1 => by
    obtain ⟨b, e, q2⟩ := onB_out q1 r1
    exact ⟨b, e, l F1 al1 b mu1 H1 E1 C1 q2⟩
theorem ct_cmp {op : CmpOp} {t : D2} (ho : OpD X (compareOp op) t) (ha : CE X a ta) (hb : CE X b tb) (hm : behindInMarks op b = false := by first | exact nomark _ | rfl) : CT X (.Compare a [op] [b] pos) (dTest (dOp t ta tb)) :=
  let ⟨_, r, g⟩ := ho.ok; let ⟨_, pa, ga⟩ := ha.ok; let ⟨_, pb, gb⟩ := hb.ok; ⟨_, pt_cmpR r pa pb hm, gt_test (ge_op ga gb g)⟩
theorem ct_val {t : DE} (h : CE X e t) (he : ∀ whole, isTrue e X.env whole = (do let v ← whole; standAt e.pos; holding [v] (truthy v)) := by intro _; rfl) : CT X e (dTest t) :=
  let ⟨_, p, g⟩ := h.ok; ⟨_, pt_val p he, gt_test g⟩
def dNot (t : DT) : DT := fun rho mu Q => t rho mu fun b mu1 => Q (!b) mu1
theorem ct_not {t : DT} (h : CT X a t) : CT X (.UnaryOp .Not a pos) (dNot t) := by
  obtain ⟨_, p, g⟩ := h.ok
  exact ⟨_, pt_not p, fun F al rho mu σ H Q R S q l => g F al rho mu σ H _ _ S q fun F1 al1 b mu1 H1 E1 C1 q1 => l F1 al1 (!b) mu1 H1 E1 C1 q1⟩
def dAnd (t u : DT) : DT := fun rho mu Q => t rho mu fun b mu1 => if b = true then u rho mu1 Q else Q false mu1
def dOr (t u : DT) : DT := fun rho mu Q => t rho mu fun b mu1 => if b = true then Q true mu1 else u rho mu1 Q
structure CW (X : Cx) (e : Expr) (t : DT) : Prop where
  ok : ∃ te, PW X e te ∧ GT te t
theorem ct_w {t : DT} (h : CW X e t) : CT X e t := let ⟨_, p, g⟩ := h.ok; ⟨_, p.pt, g⟩
theorem gt_and {te ue : TT} {t u : DT} (g1 : GT te t) (g2 : GT ue u) : GT (tAnd te ue) (dAnd t u) := fun F al rho mu σ H Q R S q l =>
  g1 F al rho mu σ H _ _ S q fun F1 al1 b mu1 H1 E1 C1 q1 => by
    cases b with
    | true => exact g2 F1 al1 rho mu1 σ H1 Q R (S.of C1 E1.ex E1.pf) q1 (l.trans E1)
    | false => exact l F1 al1 false mu1 H1 E1 C1 q1
theorem gt_or {te ue : TT} {t u : DT} (g1 : GT te t) (g2 : GT ue u) : GT (tOr te ue) (dOr t u) := fun F al rho mu σ H Q R S q l =>
  g1 F al rho mu σ H _ _ S q fun F1 al1 b mu1 H1 E1 C1 q1 => by
    cases b with
    | false => exact g2 F1 al1 rho mu1 σ H1 Q R (S.of C1 E1.ex E1.pf) q1 (l.trans E1)
    | true => exact l F1 al1 true mu1 H1 E1 C1 q1
variable {rest : List Expr} {t u : DT}
theorem cw_and1 (h : CT X a t) : CW X (.BoolOp .And [a] pos) t := let ⟨_, p, g⟩ := h.ok; ⟨_, pw_and1 p, g⟩
theorem cw_or1 (h : CT X a t) : CW X (.BoolOp .Or [a] pos) t := let ⟨_, p, g⟩ := h.ok; ⟨_, pw_or1 p, g⟩
theorem cw_and (h : CT X a t) (h2 : CW X (.BoolOp .And (b :: rest) pos) u) : CW X (.BoolOp .And (a :: b :: rest) pos) (dAnd t u) := let ⟨_, p, g⟩ := h.ok; let ⟨_, p2, g2⟩ := h2.ok; ⟨_, pw_and p p2, gt_and g g2⟩
theorem cw_or (h : CT X a t) (h2 : CW X (.BoolOp .Or (b :: rest) pos) u) : CW X (.BoolOp .Or (a :: b :: rest) pos) (dOr t u) := let ⟨_, p, g⟩ := h.ok; let ⟨_, p2, g2⟩ := h2.ok; ⟨_, pw_or p p2, gt_or g g2⟩
/-- and, or, not of truths as values -/
def dAndV (ta tb : DE) : DE := fun rho mu Q => ta rho mu (onB fun b mu1 => if b = true then tb rho mu1 Q else Q (.dat (.bl false)) mu1)
def dOrV (ta tb : DE) : DE := fun rho mu Q => ta rho mu (onB fun b mu1 => if b = true then Q (.dat (.bl true)) mu1 else tb rho mu1 Q)
def dNotV (ta : DE) : DE := fun rho mu Q => ta rho mu (onB fun b mu1 => Q (.dat (.bl (!b))) mu1)
theorem ce_one {op} {t : DE} (h : CE X a t) : CE X (.BoolOp op [a] pos) t := let ⟨_, p, g⟩ := h.ok; ⟨_, pe_one p, g⟩
theorem ce_and (ha : CE X a ta) (hb : CE X (.BoolOp .And (b :: rest) pos) tb) : CE X (.BoolOp .And (a :: b :: rest) pos) (dAndV ta tb) := by
  obtain ⟨_, p, g⟩ := ha.ok
  obtain ⟨_, p2, g2⟩ := hb.ok
  refine ⟨_, pe_and p p2, fun F al rho mu σ H Q R S q l => g F al rho mu σ H _ _ S q fun F1 al1 z mu1 v H1 E1 C1 r1 q1 => ?_⟩
  obtain ⟨c, e, q2⟩ := onB_out q1 r1
  refine ⟨c, e, ?_⟩
  cases c with
  | true => exact g2 F1 al1 rho mu1 σ H1 Q R (S.of C1 E1.ex E1.pf) q2 (l.trans E1)
  | false => exact l F1 al1 _ mu1 _ H1 E1 C1 rv_bl q2
theorem ce_or (ha : CE X a ta) (hb : CE X (.BoolOp .Or (b :: rest) pos) tb) : CE X (.BoolOp .Or (a :: b :: rest) pos) (dOrV ta tb) := by
  obtain ⟨_, p, g⟩ := ha.ok
  obtain ⟨_, p2, g2⟩ := hb.ok
  refine ⟨_, pe_or p p2, fun F al rho mu σ H Q R S q l => g F al rho mu σ H _ _ S q fun F1 al1 z mu1 v H1 E1 C1 r1 q1 => ?_⟩
  obtain ⟨c, e, q2⟩ := onB_out q1 r1
  refine ⟨c, e, ?_⟩
  cases c with
  | false => exact g2 F1 al1 rho mu1 σ H1 Q R (S.of C1 E1.ex E1.pf) q2 (l.trans E1)
  | true => exact l F1 al1 _ mu1 _ H1 E1 C1 rv_bl q2
theorem ce_not (ha : CE X a ta) : CE X (.UnaryOp .Not a pos) (dNotV ta) := by
  obtain ⟨_, p, g⟩ := ha.ok
  refine ⟨_, pe_not p, fun F al rho mu σ H Q R S q l => g F al rho mu σ H _ _ S q fun F1 al1 z mu1 v H1 E1 C1 r1 q1 => ?_⟩
  obtain ⟨c, e, q2⟩ := onB_out q1 r1
  exact ⟨c, e, l F1 al1 _ mu1 _ H1 E1 C1 rv_bl q2⟩
def dIfE (t : DT) (ta tb : DE) : DE := fun rho mu Q => t rho mu fun b mu1 => if b = true then ta rho mu1 Q else tb rho mu1 Q
theorem ce_ifExp {c : Expr} (hc : CT X c t) (ha : CE X a ta) (hb : CE X b tb) : CE X (.IfExp c a b pos) (dIfE t ta tb) := by
  obtain ⟨_, p, g⟩ := hc.ok
  obtain ⟨_, pa, ga⟩ := ha.ok
  obtain ⟨_, pb, gb⟩ := hb.ok
  refine ⟨_, pe_ifExp p pa pb, fun F al rho mu σ H Q R S q l => g F al rho mu σ H _ _ S q fun F1 al1 c mu1 H1 E1 C1 q1 => ?_⟩
  cases c with
  | true => exact ga F1 al1 rho mu1 σ H1 Q R (S.of C1 E1.ex E1.pf) q1 (l.trans E1)
  | false => exact gb F1 al1 rho mu1 σ H1 Q R (S.of C1 E1.ex E1.pf) q1 (l.trans E1)

/-! ### arguments, displays -/
def aNil : DA := fun _ mu Q => Q [] mu
def aCons (t : DE) (r : DA) : DA := fun rho mu Q => t rho mu fun x mu1 => r rho mu1 fun xs mu2 => Q (x :: xs) mu2
theorem ca_nil : CA X [] aNil := ⟨_, pa_nil, fun F al rho mu σ H Q R S q l => l F al [] mu [] H Ext.refl S.toCels .nil q⟩
theorem ca_cons {es : List Expr} {t : DE} {r : DA} (h : CE X e t) (hr : CA X es r) (hs : starEach (e :: es) X.env = (false, eval e X.env) :: starEach es X.env := by rfl) : CA X (e :: es) (aCons t r) := by
  obtain ⟨_, p, g⟩ := h.ok
  obtain ⟨_, pr, gr⟩ := hr.ok
  exact ⟨_, pa_cons p pr hs, fun F al rho mu σ H Q R S q l => g F al rho mu σ H _ _ S q fun F1 al1 x mu1 v H1 E1 C1 r1 q1 =>
    gr F1 al1 rho mu1 σ H1 _ _ (S.of C1 E1.ex E1.pf) q1 fun F2 al2 xs mu2 vs H2 E2 C2 r2 q2 => l F2 al2 (x :: xs) mu2 (v :: vs) H2 (E1.trans E2) C2 (.cons (r1.mono E2.ex E2.pf) r2) q2⟩
/-- all are data -/
def dats : List DV → Option (List D)
  | [] => some []
  | .dat d :: r => (dats r).map (d :: ·)
  | .cel _ :: _ => none
theorem RepVs.dats {F : Hp} {al : List Addr} : ∀ {xs : List DV} {vs : List V} {ds : List D}, RepVs F al xs vs → dats xs = some ds → RepL F ds vs
  | _, _, ds, .nil, e => by
    cases e
    exact RepL.nil
  | .dat d :: r, _, ds, .cons h t, e => by
    have e' : (Dx.dats r).map (d :: ·) = some ds := e
    cases q : Dx.dats r with
    | none =>
      rw [q] at e'
      cases e'
    | some es =>
      rw [q] at e'
      cases e'
      exact RepL.cons h (RepVs.dats t q)
  | .cel _ :: _, _, ds, .cons h t, e => by cases e
def onDs (xs : List DV) (k : List D → Prop) : Prop := match dats xs with
  | some ds => k ds
  | none => False
theorem onDs_out {xs : List DV} {k : List D → Prop} (h : onDs xs k) : ∃ ds, dats xs = some ds ∧ k ds := by
  unfold onDs at h
  cases q : dats xs with
  | none =>
    rw [q] at h
    exact h.elim
  | some ds =>
    rw [q] at h
    exact ⟨ds, rfl, h⟩
def dTup (t : DA) : DE := fun rho mu Q => t rho mu fun xs mu1 => onDs xs fun ds => ds.length ≤ 1000 ∧ Q (.dat (.tup ds)) mu1
def fLst (t : DA) : DF := fun rho mu Q => t rho mu fun xs mu1 => onDs xs fun ds => ds.length ≤ 1000 ∧ Q (.lst ds) mu1
theorem line_of {n : Nat} (h : n ≤ 1000) : n ≤ sizeLine := Nat.le_of_lt (small1000 h)
theorem ce_tup {es : List Expr} {x1} {t : DA} (h : CA X es t) : CE X (.Tuple es x1 pos) (dTup t) := by
  obtain ⟨_, p, g⟩ := h.ok
  refine ⟨_, pe_tup p, fun F al rho mu σ H Q R S q l => g F al rho mu σ H _ _ S q fun F1 al1 xs mu1 vs H1 E1 C1 r1 q1 => ?_⟩
  obtain ⟨ds, e, hl, q2⟩ := onDs_out q1
  have rl := r1.dats e
  refine ⟨by rw [rl.len]; exact line_of hl, fun p hp => ?_⟩
  exact l _ al1 _ mu1 _ _ (E1.trans (Ext.new hp C1.ex)) (C1.newF hp) (rv_tup upd_same (rl.mono (ex_upd (ex_none C1.ex hp)))) q2
theorem cf_lst {es : List Expr} {t : DA} (h : CA X es t) : CF X (.List es pos) (fLst t) := by
  obtain ⟨_, p, g⟩ := h.ok
  refine ⟨_, pe_lst p, fun F al rho mu σ H Q R S q l => g F al rho mu σ H _ _ S q fun F1 al1 xs mu1 vs H1 E1 C1 r1 q1 => ?_⟩
  obtain ⟨ds, e, hl, q2⟩ := onDs_out q1
  have rl := r1.dats e
  refine ⟨by rw [rl.len]; exact line_of hl, fun p hp => ?_⟩
  exact l F1 al1 (.lst ds) mu1 p _ (E1.trans (Ext.loose hp)) (C1.loose hp) (C1.not_al hp) (none_back (E1.dm p) hp) rfl ⟨ex_none C1.ex hp, vs, upd_same, rl⟩ q2
end
end Dx

namespace Dx
open PySem PySem.Spec PyProof.Rows L2
open Evl (Ex)
variable [Tb]

/-! ### what is read as a row: data or a cell -/
def seqL (mu : Mu) : DV → Option (List D)
  | .dat (.lst ds) => some ds
  | .cel k => match mu[k]? with
    | some (.lst ds) => some ds
    | _ => none
  | _ => none
theorem seqL_out {F H : Hp} {al : List Addr} {mu : Mu} {x : DV} {v : V} {ds : List D} (C : Cels F al mu H) (r : RepV F al x v) (h : seqL mu x = some ds) : ∃ p vs, v = .ref p ∧ H p = some (.lst vs) ∧ RepL F ds vs := by
  cases x with
  | dat d =>
    cases d with
    | lst es =>
      have e : es = ds := Option.some.inj h
      subst e
      obtain ⟨p, vs, e, q, l⟩ := rv_lst_out r
      exact ⟨p, vs, e, C.ex _ _ q, l⟩
    | _ => cases h
  | cel k =>
    obtain ⟨a, ha, e⟩ := r
    have h' : (match mu[k]? with
      | some (.lst ds) => some ds
      | _ => none) = some ds := h
    cases q : mu[k]? with
    | none =>
      rw [q] at h'
      cases h'
    | some m =>
      rw [q] at h'
      cases m with
      | lst es =>
        have e2 : es = ds := Option.some.inj h'
        subst e2
        obtain ⟨_, vs, z, l⟩ := C.cel k a _ ha q
        exact ⟨a, vs, e, z, l⟩
      | _ => cases h'
def seqT : DV → Option (List D)
  | .dat (.tup ds) => some ds
  | _ => none
theorem seqT_out {F H : Hp} {al : List Addr} {mu : Mu} {x : DV} {v : V} {ds : List D} (C : Cels F al mu H) (r : RepV F al x v) (h : seqT x = some ds) : ∃ p vs, v = .ref p ∧ F p = some (.tup vs) ∧ H p = some (.tup vs) ∧ RepL F ds vs := by
  cases x with
  | dat d =>
    cases d with
    | tup es =>
      have e : es = ds := Option.some.inj h
      subst e
      obtain ⟨p, vs, e, q, l⟩ := rv_tup_out r
      exact ⟨p, vs, e, q, C.ex _ _ q, l⟩
    | _ => cases h
  | cel k => cases h
/-- option, as a wish -/
def onSome {α : Type} (o : Option α) (k : α → Prop) : Prop := match o with
  | some a => k a
  | none => False
theorem onSome_out {α : Type} {o : Option α} {k : α → Prop} (h : onSome o k) : ∃ a, o = some a ∧ k a := by
  cases o with
  | none => exact h.elim
  | some a => exact ⟨a, rfl, h⟩
theorem dat_rep {F : Hp} {al : List Addr} {d : D} {v : V} (h : Rep F d v) : RepV F al (.dat d) v := h

/-! ### ints -/
def onI (x : DV) (k : Int → Prop) : Prop := match x with
  | .dat (.int i) => k i
  | _ => False
def onS (x : DV) (k : List Nat → Prop) : Prop := match x with
  | .dat (.str s) => k s
  | _ => False
theorem onI_out {F : Hp} {al : List Addr} {x : DV} {v : V} {k : Int → Prop} (h : onI x k) (r : RepV F al x v) : ∃ i, x = .dat (.int i) ∧ v = .int i ∧ k i := by
  cases x with
  | cel _ => exact h.elim
  | dat d =>
    cases d with
    | int i => exact ⟨i, rfl, rv_int_out r, h⟩
    | _ => exact h.elim
theorem onS_out {F : Hp} {al : List Addr} {x : DV} {v : V} {k : List Nat → Prop} (h : onS x k) (r : RepV F al x v) : ∃ i, x = .dat (.str i) ∧ v = .str (mkS i) ∧ k i := by
  cases x with
  | cel _ => exact h.elim
  | dat d =>
    cases d with
    | str i => exact ⟨i, rfl, rv_str_out r, h⟩
    | _ => exact h.elim
/-- two ints, a bound, an int -/
def dII (C : Int → Int → Prop) (g : Int → Int → D) : D2 := fun x y mu Q => onI x fun i => onI y fun j => C i j ∧ Q (.dat (g i j)) mu
def dI2 (g : Int → Int → D) : D2 := fun x y mu Q => onI x fun i => onI y fun j => Q (.dat (g i j)) mu
section
variable {X : Cx} {f : Value → Value → Sem Value} {e a b : Expr} {ta tb : DE} {pos : Pos}
theorem od_II {C : Int → Int → Prop} {g : Int → Int → D} {gv : Int → Int → V} (hg : ∀ F i j, Rep F (g i j) (gv i j)) (h : OpR X f (rI C gv)) : OpD X f (dII C g) :=
  ⟨_, h, fun F al mu H x y v u Q R c rx ry q l => by
    obtain ⟨i, e1, e2, q⟩ := onI_out q rx
    obtain ⟨j, e3, e4, q⟩ := onI_out q ry
    exact ⟨i, j, e2, e4, q.1, l F al (.dat (g i j)) mu _ H Ext.refl c (hg F i j) q.2⟩⟩
theorem od_I2 {g : Int → Int → D} {gv : Int → Int → V} (hg : ∀ F i j, Rep F (g i j) (gv i j)) (h : OpR X f (rI0 gv)) : OpD X f (dI2 g) :=
  ⟨_, h, fun F al mu H x y v u Q R c rx ry q l => by
    obtain ⟨i, e1, e2, q⟩ := onI_out q rx
    obtain ⟨j, e3, e4, q⟩ := onI_out q ry
    exact ⟨i, j, e2, e4, l F al (.dat (g i j)) mu _ H Ext.refl c (hg F i j) q⟩⟩
theorem rI' {F : Hp} {i : Int} : Rep F (.int i) (.int i) := by rw [Rep]
theorem rB' {F : Hp} {i : Bool} : Rep F (.bl i) (.bl i) := by rw [Rep]
theorem oSub : OpD X (binaryOp .Sub) (dI2 fun i j => .int (i - j)) := od_I2 (fun F i j => rI') op_sub
theorem oFdiv : OpD X (binaryOp .FloorDiv) (dII CDiv fun i j => .int (i / j)) := od_II (fun F i j => rI') op_fdiv
theorem oMod : OpD X (binaryOp .Mod) (dII (fun _ j => 0 < j) fun i j => .int (i % j)) := od_II (fun F i j => rI') op_mod
theorem oPow : OpD X (binaryOp .Pow) (dII CPow fun i j => .int (i ^ j.toNat)) := od_II (fun F i j => rI') op_pow

/-- or, of rules by values -/
theorem OpD.or {t u : D2} (h : OpD X f t) (h' : OpD X f u) : OpD X f (fun x y mu Q => t x y mu Q ∨ u x y mu Q) := by
  obtain ⟨r, p, g⟩ := h.ok
  obtain ⟨r', p', g'⟩ := h'.ok
  exact ⟨_, p.or p', fun F al mu H x y v u Q R c rx ry q l => q.elim (fun q => .inl (g F al mu H x y v u Q R c rx ry q l)) fun q => .inr (g' F al mu H x y v u Q R c rx ry q l)⟩
theorem OpD.imp {t u : D2} (h : OpD X f t) (k : ∀ x y mu Q, u x y mu Q → t x y mu Q) : OpD X f u := by
  obtain ⟨r, p, g⟩ := h.ok
  exact ⟨r, p, fun F al mu H x y v w Q R c rx ry q l => g F al mu H x y v w Q R c rx ry (k _ _ _ _ q) l⟩
/-- two texts -/
def dSS (g : List Nat → List Nat → D) : D2 := fun x y mu Q => onS x fun i => onS y fun j => Q (.dat (g i j)) mu
theorem mkS_len (l : List Nat) : (mkS l).length = l.length := by
  show l.toArray.size = l.length
  exact List.size_toArray
theorem mkS_cps (l : List Nat) : (mkS l).cps.toList = l := rfl
theorem str_ext {x y : Str} (h : x.cps.toList = y.cps.toList) : x = y := TL.ext_tl h
theorem mkS_app (a b : List Nat) : mkS a ++ mkS b = mkS (a ++ b) := by
  apply TL.ext_tl
  rw [TL.tl_append]
  rfl
theorem mkS_inj {a b : List Nat} (h : mkS a = mkS b) : a = b := by
  have e : (mkS a).cps.toList = (mkS b).cps.toList := by rw [h]
  exact e
theorem op_add_str' : OpD X (binaryOp .Add) (fun x y mu Q => onS x fun i => onS y fun j => i.length + j.length ≤ 100000 ∧ Q (.dat (.str (i ++ j))) mu) :=
  ⟨_, op_add_str, fun F al mu H x y v u Q R c rx ry q l => by
    obtain ⟨i, e1, e2, q⟩ := onS_out q rx
    obtain ⟨j, e3, e4, q⟩ := onS_out q ry
    refine ⟨mkS i, mkS j, e2, e4, by rw [mkS_len, mkS_len]; exact Evl.sz_of q.1, ?_⟩
    rw [mkS_app]
    exact l F al _ mu _ H Ext.refl c rv_str q.2⟩
theorem op_add_tup' : OpD X (binaryOp .Add) (fun x y mu Q => onSome (seqT x) fun xs => onSome (seqT y) fun ys => xs ≠ [] ∧ ys ≠ [] ∧ xs.length + ys.length ≤ 1000 ∧ Q (.dat (.tup (xs ++ ys))) mu) :=
  ⟨_, op_catT, fun F al mu H x y v u Q R c rx ry q l => by
    obtain ⟨xs, e1, q⟩ := onSome_out q
    obtain ⟨ys, e2, q⟩ := onSome_out q
    obtain ⟨p, vs, ev, _, hp, rl⟩ := seqT_out c rx e1
    obtain ⟨p', vs', ev', _, hp', rl'⟩ := seqT_out c ry e2
    refine ⟨p, p', vs, vs', ev, ev', .inl (.inl hp), .inl (.inl hp'), ?_, by rw [rl.len, rl'.len]; exact line_of q.2.2.1, ?_, ?_⟩
    · intro z
      have w := rl.len
      rw [z] at w
      exact q.1 (List.eq_nil_of_length_eq_zero w.symm)
    · intro z
      have w := rl'.len
      rw [z] at w
      exact absurd (List.eq_nil_of_length_eq_zero w.symm) q.2.1
    · intro _ n hn
      exact l _ al _ mu _ _ (Ext.new hn c.ex) (c.newF hn) (rv_tup upd_same ((rl.app rl').mono (ex_upd (ex_none c.ex hn)))) q.2.2.2⟩
/-- a + b: ints, texts, tuples -/
def dAdd : D2 := fun x y mu Q => match x, y with
  | .dat (.int i), .dat (.int j) => Q (.dat (.int (i + j))) mu
  | .dat (.str i), .dat (.str j) => i.length + j.length ≤ 100000 ∧ Q (.dat (.str (i ++ j))) mu
  | .dat (.tup xs), .dat (.tup ys) => xs ≠ [] ∧ ys ≠ [] ∧ xs.length + ys.length ≤ 1000 ∧ Q (.dat (.tup (xs ++ ys))) mu
  | _, _ => False
theorem oAdd : OpD X (binaryOp .Add) dAdd := by
  have h1 : OpD X (binaryOp .Add) (dI2 fun i j => .int (i + j)) := od_I2 (fun F i j => rI') op_add
  refine (h1.or (op_add_str'.or op_add_tup')).imp fun x y mu Q q => ?_
  unfold dAdd at q
  split at q
  · exact .inl q
  · exact .inr (.inl q)
  · exact .inr (.inr q)
  · exact q.elim
/-- a * b: ints (one below 2^64), a text n times -/
theorem fold_rep (s : List Nat) : ∀ (n : Nat) (acc : List Nat), ((List.replicate n s.toArray).foldl (fun x1 x2 => x1 ++ x2) acc.toArray).toList = acc ++ (List.replicate n s).flatten
  | 0, acc => by simp
  | n + 1, acc => by
    rw [List.replicate_succ, List.foldl_cons]
    have e : acc.toArray ++ s.toArray = (acc ++ s).toArray := by simp
    rw [e, fold_rep s n (acc ++ s), List.replicate_succ, List.flatten_cons, List.append_assoc]
theorem repS_len (s : List Nat) (n : Nat) : (List.replicate n s).flatten.length = n * s.length := by
  induction n with
  | zero => simp
  | succ n ih => rw [List.replicate_succ, List.flatten_cons, List.length_append, ih, Nat.succ_mul, Nat.add_comm]
theorem op_mul_str' : OpD X (binaryOp .Mult) (fun x y mu Q => onS x fun s => onI y fun n => 0 ≤ n ∧ n ≤ 1000 ∧ s.length ≤ 1000 ∧ Q (.dat (.str (List.replicate n.toNat s).flatten)) mu) := by
  refine ⟨fun x y H Q => ∃ s n, x = .str (mkS s) ∧ y = .int n ∧ 0 ≤ n ∧ n ≤ 1000 ∧ s.length ≤ 1000 ∧ Q (.str (mkS (List.replicate n.toNat s).flatten)) H, ?_, ?_⟩
  · intro pins s σ H x y v u Q I r1 r2 h
    obtain ⟨z, n, e1, e2, h0, h1, h2, q⟩ := h
    subst e1
    subst e2
    obtain ⟨t, rfl⟩ := r1
    obtain ⟨t', rfl⟩ := r2
    have hl : (mkS z).length = z.length := mkS_len z
    have hz : z.length * n.toNat ≤ 1000 * 1000 := Nat.mul_le_mul h2 (by omega)
    refine P.mul_str (by rw [decide_eq_false (by omega), decide_eq_false (by omega)]; rfl) ?_ ?_ ?_
    · intro hn _ hb
      rw [hl] at hb
      have h4 : (1000 : Int) ≤ (2 ^ 63 - 1) / n := by
        rw [Int.le_ediv_iff_mul_le (by omega)]
        have : (1000 : Int) * n ≤ 1000 * 1000 := by omega
        omega
      omega
    · intro _ _
      rw [hl]
      exact decide_eq_false (fun c => by
        have : (sizeLine : Nat) > 1000 * 1000 := by decide
        omega)
    · by_cases hn : n < 1
      · rw [if_pos hn]
        have e0 : n.toNat = 0 := by omega
        rw [e0] at q
        exact ⟨by decide, .str (mkS []), H, I.tok _, ⟨_, rfl⟩, q⟩
      · rw [if_neg hn]
        by_cases hc : (n == 1 || (mkS z).length == 0) = true
        · rw [if_pos hc]
          refine ⟨.str (mkS z), H, I, ⟨_, rfl⟩, ?_⟩
          have ez : (List.replicate n.toNat z).flatten = z := by
            rcases Bool.or_eq_true_iff.mp hc with c | c
            · have e1 : n = 1 := by simpa using c
              subst e1
              simp
            · have e1 : z.length = 0 := by
                rw [← hl]
                simpa using c
              rw [List.eq_nil_of_length_eq_zero e1]
              simp
          rw [ez] at q
          exact q
        · rw [if_neg hc]
          have e3 : (⟨(List.replicate n.toNat (mkS z).cps).foldl (· ++ ·) #[]⟩ : Str) = mkS (List.replicate n.toNat z).flatten := by
            apply TL.ext_tl
            have w := fold_rep z n.toNat []
            rw [List.nil_append] at w
            exact w
          rw [e3]
          refine ⟨?_, .str _, H, I.tok _, ⟨_, rfl⟩, q⟩
          rw [mkS_len, repS_len]
          have : (sizeLine : Nat) > 1000 * 1000 := by decide
          have : n.toNat * z.length = z.length * n.toNat := Nat.mul_comm _ _
          omega
  · intro F al mu H x y v u Q R c rx ry q l
    obtain ⟨i, e1, e2, q⟩ := onS_out q rx
    obtain ⟨j, e3, e4, q⟩ := onI_out q ry
    exact ⟨i, j, e2, e4, q.1, q.2.1, q.2.2.1, l F al _ mu _ H Ext.refl c rv_str q.2.2.2⟩
def dMul : D2 := fun x y mu Q => match x, y with
  | .dat (.int i), .dat (.int j) => CMul i j ∧ Q (.dat (.int (i * j))) mu
  | .dat (.str s), .dat (.int n) => 0 ≤ n ∧ n ≤ 1000 ∧ s.length ≤ 1000 ∧ Q (.dat (.str (List.replicate n.toNat s).flatten)) mu
  | _, _ => False
theorem oMul : OpD X (binaryOp .Mult) dMul := by
  have h1 : OpD X (binaryOp .Mult) (dII CMul fun i j => .int (i * j)) := od_II (fun F i j => rI') op_mul
  refine (h1.or op_mul_str').imp fun x y mu Q q => ?_
  unfold dMul at q
  split at q
  · exact .inl q
  · exact .inr q
  · exact q.elim

/-! ### order -/
theorem lex_lt (a b : List Nat) : decide ((mkS a).cps.toList < (mkS b).cps.toList) = decide (a < b) := rfl
def dLt : D2 := fun x y mu Q => match x, y with
  | .dat (.int i), .dat (.int j) => Q (.dat (.bl (decide (i < j)))) mu
  | .dat (.str i), .dat (.str j) => Q (.dat (.bl (decide (i < j)))) mu
  | _, _ => False
def dLe : D2 := fun x y mu Q => match x, y with
  | .dat (.int i), .dat (.int j) => Q (.dat (.bl (decide (i ≤ j)))) mu
  | .dat (.str i), .dat (.str j) => Q (.dat (.bl (!decide (j < i)))) mu
  | _, _ => False
def dGt : D2 := fun x y mu Q => match x, y with
  | .dat (.int i), .dat (.int j) => Q (.dat (.bl (decide (j < i)))) mu
  | .dat (.str i), .dat (.str j) => Q (.dat (.bl (decide (j < i)))) mu
  | _, _ => False
def dGe : D2 := fun x y mu Q => match x, y with
  | .dat (.int i), .dat (.int j) => Q (.dat (.bl (decide (j ≤ i)))) mu
  | .dat (.str i), .dat (.str j) => Q (.dat (.bl (!decide (i < j)))) mu
  | _, _ => False
theorem od_S2 {g : List Nat → List Nat → Bool} (h : OpR X f (fun x y H Q => ∃ i j, x = .str i ∧ y = .str j ∧ Q (.bl (g i.cps.toList j.cps.toList)) H)) : OpD X f (dSS fun i j => .bl (g i j)) :=
  ⟨_, h, fun F al mu H x y v u Q R c rx ry q l => by
    obtain ⟨i, e1, e2, q⟩ := onS_out q rx
    obtain ⟨j, e3, e4, q⟩ := onS_out q ry
    exact ⟨mkS i, mkS j, e2, e4, l F al _ mu _ H Ext.refl c rv_bl q⟩⟩
theorem oLt : OpD X (compareOp .Lt) dLt := by
  have h1 : OpD X (compareOp .Lt) (dI2 fun i j => .bl (decide (i < j))) := od_I2 (fun F i j => rB') op_lt
  refine (h1.or (od_S2 (g := fun i j => decide (i < j)) op_lt_str)).imp fun x y mu Q q => ?_
  unfold dLt at q
  split at q
  · exact .inl q
  · exact .inr q
  · exact q.elim
theorem oLe : OpD X (compareOp .LtE) dLe := by
  have h1 : OpD X (compareOp .LtE) (dI2 fun i j => .bl (decide (i ≤ j))) := od_I2 (fun F i j => rB') op_le
  refine (h1.or (od_S2 (g := fun i j => !decide (j < i)) op_le_str)).imp fun x y mu Q q => ?_
  unfold dLe at q
  split at q
  · exact .inl q
  · exact .inr q
  · exact q.elim
theorem oGt : OpD X (compareOp .Gt) dGt := by
  have h1 : OpD X (compareOp .Gt) (dI2 fun i j => .bl (decide (j < i))) := od_I2 (fun F i j => rB') op_gt
  refine (h1.or (od_S2 (g := fun i j => decide (j < i)) op_gt_str)).imp fun x y mu Q q => ?_
  unfold dGt at q
  split at q
  · exact .inl q
  · exact .inr q
  · exact q.elim
theorem oGe : OpD X (compareOp .GtE) dGe := by
  have h1 : OpD X (compareOp .GtE) (dI2 fun i j => .bl (decide (j ≤ i))) := od_I2 (fun F i j => rB') op_ge
  refine (h1.or (od_S2 (g := fun i j => !decide (i < j)) op_ge_str)).imp fun x y mu Q q => ?_
  unfold dGe at q
  split at q
  · exact .inl q
  · exact .inr q
  · exact q.elim

/-! ### equality of data -/
mutual
def toPy : D → PyData
  | .non => .none
  | .bl b => .bool b
  | .int i => .int i
  | .str s => .str (mkS s)
  | .lst ds => .list (toPys ds)
  | .tup ds => .tuple (toPys ds)
  | .dk _ _ => .dict []
  | .dt _ _ _ => .dict []
  | .scr _ _ => .dict []
def toPys : List D → List PyData
  | [] => []
  | d :: r => toPy d :: toPys r
end
mutual
/-- data that may be compared: texts of signs, no dicts, and how deep -/
def okD : Nat → D → Bool
  | _, .non => true
  | _, .bl _ => true
  | _, .int _ => true
  | _, .str s => s.all (· < 0x110000)
  | 0, .lst _ => false
  | 0, .tup _ => false
  | n + 1, .lst ds => okDs n ds
  | n + 1, .tup ds => okDs n ds
  | _, .dk _ _ => false
  | _, .dt _ _ _ => false
  | _, .scr _ _ => false
def okDs : Nat → List D → Bool
  | _, [] => true
  | n, d :: r => okD n d && okDs n r
end
mutual
theorem okD_dp {K : PySem.W.Frag} {F H : Hp} (e : Ex F H) : ∀ (n : Nat) (d : D) (v : V), okD n d = true → Rep F d v → Dp K H v (toPy d)
  | _, .non, v, _, r => by rw [Rep] at r; subst r; exact .non
  | _, .bl b, v, _, r => by rw [Rep] at r; subst r; exact .bl b
  | _, .int b, v, _, r => by rw [Rep] at r; subst r; exact .int b
  | _, .str b, v, _, r => by rw [Rep] at r; subst r; exact .str _
  | 0, .lst ds, v, h, r => by rw [okD] at h; cases h
  | 0, .tup ds, v, h, r => by rw [okD] at h; cases h
  | n + 1, .lst ds, v, h, r => by
    rw [okD] at h
    rw [Rep] at r
    obtain ⟨a, vs, e1, q, l⟩ := r
    subst e1
    exact .lst (.inl (.inl (e _ _ q))) (okDs_dp e n ds vs h l)
  | n + 1, .tup ds, v, h, r => by
    rw [okD] at h
    rw [Rep] at r
    obtain ⟨a, vs, e1, q, l⟩ := r
    subst e1
    exact .tup (.inl (.inl (e _ _ q))) (okDs_dp e n ds vs h l)
  | _, .dk _ _, v, h, r => by rw [okD] at h; cases h
  | _, .dt _ _ _, v, h, r => by rw [okD] at h; cases h
  | _, .scr _ _, v, h, r => by rw [okD] at h; cases h
theorem okDs_dp {K : PySem.W.Frag} {F H : Hp} (e : Ex F H) : ∀ (n : Nat) (ds : List D) (vs : List V), okDs n ds = true → RepL F ds vs → DpAll K H vs (toPys ds)
  | _, [], vs, _, r => by rw [r.unnil]; exact .nil
  | n, d :: ds, vs, h, r => by
    rw [okDs, Bool.and_eq_true_iff] at h
    obtain ⟨v, w, q, a, b⟩ := r.uncons
    subst q
    exact .cons (okD_dp e n d v h.1 a) (okDs_dp e n ds w h.2 b)
end
mutual
theorem okD_lay : ∀ (n : Nat) (d : D), okD n d = true → (toPy d).canLay0 = true ∧ (toPy d).depth ≤ n
  | _, .non, _ => ⟨rfl, by simp [toPy, PyData.depth]⟩
  | _, .bl b, _ => ⟨rfl, by simp [toPy, PyData.depth]⟩
  | _, .int b, _ => ⟨rfl, by simp [toPy, PyData.depth]⟩
  | _, .str b, h => by
    rw [okD] at h
    refine ⟨?_, by simp [toPy, PyData.depth]⟩
    show PyData.strOk (mkS b) = true
    unfold PyData.strOk mkS
    simpa using h
  | 0, .lst ds, h => by rw [okD] at h; cases h
  | 0, .tup ds, h => by rw [okD] at h; cases h
  | n + 1, .lst ds, h => by
    rw [okD] at h
    obtain ⟨a, b⟩ := okDs_lay n ds h
    rw [toPy]
    refine ⟨by rw [PyData.canLay0]; exact a, by rw [PyData.depth]; omega⟩
  | n + 1, .tup ds, h => by
    rw [okD] at h
    obtain ⟨a, b⟩ := okDs_lay n ds h
    rw [toPy]
    refine ⟨by rw [PyData.canLay0]; exact a, by rw [PyData.depth]; omega⟩
  | _, .dk _ _, h => by rw [okD] at h; cases h
  | _, .dt _ _ _, h => by rw [okD] at h; cases h
  | _, .scr _ _, h => by rw [okD] at h; cases h
theorem okDs_lay : ∀ (n : Nat) (ds : List D), okDs n ds = true → PyData.canLayAll0 (toPys ds) = true ∧ PyData.depthAll (toPys ds) ≤ n
  | _, [], _ => ⟨rfl, by simp [toPys, PyData.depthAll]⟩
  | n, d :: ds, h => by
    rw [okDs, Bool.and_eq_true_iff] at h
    obtain ⟨a, b⟩ := okD_lay n d h.1
    obtain ⟨a', b'⟩ := okDs_lay n ds h.2
    rw [toPys]
    refine ⟨by rw [PyData.canLayAll0, a, a']; rfl, by rw [PyData.depthAll]; omega⟩
end
theorem okD_shaped {n : Nat} {d : D} (h : okD n d = true) (hn : n ≤ 64) : SeqAt.shaped (toPy d) = true := by
  obtain ⟨a, b⟩ := okD_lay n d h
  unfold SeqAt.shaped
  rw [a, decide_eq_true (Nat.le_trans b hn)]
  rfl
/-- a == b of data (a list of the one may be a cell) -/
def rdD (mu : Mu) : DV → Option D
  | .dat d => some d
  | .cel k => match mu[k]? with
    | some (.lst ds) => some (.lst ds)
    | _ => none
theorem rdD_dp {K : PySem.W.Frag} {F H : Hp} {al : List Addr} {mu : Mu} {x : DV} {v : V} {d : D} (C : Cels F al mu H) (r : RepV F al x v) (h : rdD mu x = some d) (ok : okD 60 d = true) : Dp K H v (toPy d) := by
  cases x with
  | dat d' =>
    have e : d' = d := Option.some.inj h
    subst e
    exact okD_dp C.ex 60 d' v ok r
  | cel k =>
    obtain ⟨a, ha, e⟩ := r
    have h' : (match mu[k]? with
      | some (.lst ds) => some (D.lst ds)
      | _ => none) = some d := h
    cases q : mu[k]? with
    | none =>
      rw [q] at h'
      cases h'
    | some m =>
      rw [q] at h'
      cases m with
      | lst es =>
        have e2 : D.lst es = d := Option.some.inj h'
        subst e2
        obtain ⟨_, vs, z, l⟩ := C.cel k a _ ha q
        subst e
        rw [okD] at ok
        rw [toPy]
        exact .lst (.inl (.inl z)) (okDs_dp C.ex 59 es vs ok l)
      | _ => cases h'
def eqD (d e : D) : Bool := PyData.eqv (toPy d) (toPy e)
def dEq : D2 := fun x y mu Q => onSome (rdD mu x) fun d => onSome (rdD mu y) fun e => okD 60 d = true ∧ okD 60 e = true ∧ Q (.dat (.bl (eqD d e))) mu
def dNe : D2 := fun x y mu Q => onSome (rdD mu x) fun d => onSome (rdD mu y) fun e => okD 60 d = true ∧ okD 60 e = true ∧ Q (.dat (.bl (!eqD d e))) mu
theorem oEq (hu : X.A.units + 64 < cLine) : OpD X (compareOp .Eq) dEq := ⟨_, op_eqD hu, fun F al mu H x y v u Q R c rx ry q l => by
  obtain ⟨d, e1, q⟩ := onSome_out q
  obtain ⟨e, e2, o1, o2, q⟩ := onSome_out q
  exact ⟨toPy d, toPy e, rdD_dp c rx e1 o1, rdD_dp c ry e2 o2, okD_shaped o1 (by decide), okD_shaped o2 (by decide), l F al _ mu _ H Ext.refl c rv_bl q⟩⟩
theorem oNe (hu : X.A.units + 64 < cLine) : OpD X (compareOp .NotEq) dNe := ⟨_, op_neD hu, fun F al mu H x y v u Q R c rx ry q l => by
  obtain ⟨d, e1, q⟩ := onSome_out q
  obtain ⟨e, e2, o1, o2, q⟩ := onSome_out q
  exact ⟨toPy d, toPy e, rdD_dp c rx e1 o1, rdD_dp c ry e2 o2, okD_shaped o1 (by decide), okD_shaped o2 (by decide), l F al _ mu _ H Ext.refl c rv_bl q⟩⟩
/-- is None, is not None -/
def isNon : DV → Bool
  | .dat .non => true
  | _ => false
theorem isNon_out {F : Hp} {al : List Addr} {x : DV} {v : V} (r : RepV F al x v) : isNon x = decide (v = V.non) := by
  cases x with
  | cel k =>
    obtain ⟨a, _, e⟩ := r
    subst e
    rfl
  | dat d =>
    cases d with
    | non =>
      have e := rv_non_out r
      subst e
      rfl
    | bl b =>
      have e := rv_bl_out r
      subst e
      rfl
    | int b =>
      have e := rv_int_out r
      subst e
      rfl
    | str b =>
      have e := rv_str_out r
      subst e
      rfl
    | lst b =>
      obtain ⟨_, _, e, _⟩ := rv_lst_out r
      subst e
      rfl
    | tup b =>
      obtain ⟨_, _, e, _⟩ := rv_tup_out r
      subst e
      rfl
    | dk ks ds =>
      have r' : Rep F (.dk ks ds) v := r
      rw [Rep] at r'
      obtain ⟨_, _, e, _⟩ := r'
      subst e
      rfl
    | dt w ks ds =>
      have r' : Rep F (.dt w ks ds) v := r
      rw [Rep] at r'
      obtain ⟨_, _, _, e, _⟩ := r'
      subst e
      rfl
    | scr K ns =>
      have r' : Rep F (.scr K ns) v := r
      rw [Rep] at r'
      obtain ⟨_, e, _⟩ := r'
      subst e
      rfl
def dIsN : D2 := fun x y mu Q => isNon y = true ∧ Q (.dat (.bl (isNon x))) mu
def dNotN : D2 := fun x y mu Q => isNon y = true ∧ Q (.dat (.bl (!isNon x))) mu
theorem oIsN : OpD X (compareOp .Is) dIsN := ⟨_, op_isN, fun F al mu H x y v u Q R c rx ry q l => by
  unfold dIsN at q
  rw [isNon_out ry] at q
  refine ⟨of_decide_eq_true q.1, ?_⟩
  rw [← isNon_out rx]
  exact l F al _ mu _ H Ext.refl c rv_bl q.2⟩
theorem oNotN : OpD X (compareOp .IsNot) dNotN := ⟨_, op_notN, fun F al mu H x y v u Q R c rx ry q l => by
  unfold dNotN at q
  rw [isNon_out ry] at q
  refine ⟨of_decide_eq_true q.1, ?_⟩
  rw [← isNon_out rx]
  exact l F al _ mu _ H Ext.refl c rv_bl q.2⟩
end
end Dx

namespace Dx
open PySem PySem.Spec PyProof.Rows L2
open Evl (Ex)
variable [Tb]

theorem RepL.atI {F : Hp} {ds : List D} {vs : List V} {i : Int} {d : D} (h : RepL F ds vs) (e : L2.atI ds i = some d) : ∃ v, L2.atI vs i = some v ∧ Rep F d v := by
  unfold L2.atI at e ⊢
  rw [h.len]
  cases q : L2.ixN ds.length i with
  | none =>
    rw [q] at e
    cases e
  | some j =>
    rw [q] at e
    exact h.get (i := j) e

/-! ### subscripts -/
structure IxD (X : Cx) (t : D2) : Prop where
  ok : ∃ r, IxR X r ∧ ∀ F al mu H x y v u Q R, Cels F al mu H → RepV F al x v → RepV F al y u → t x y mu Q → LK F al H Q R → r v u H R
section
variable {X : Cx} {f : Value} {e a b : Expr} {es : List Expr} {ta tb : DE} {pos : Pos}
theorem ce_ix {t : D2} (ho : IxD X t) (ha : CE X a ta) (hb : CE X b tb) (hs : PlainIx b := by exact fun _ _ => rfl) : CE X (.Subscript a b pos) (dOp t ta tb) :=
  let ⟨_, r, g⟩ := ho.ok; let ⟨_, pa, ga⟩ := ha.ok; let ⟨_, pb, gb⟩ := hb.ok; ⟨_, pe_ix r pa pb hs, ge_op ga gb g⟩
def dIx : D2 := fun x y mu Q => onI y fun i => match x with
  | .dat (.str s) => s.length ≤ 100000 ∧ onSome (L2.atI s i) fun c => Q (.dat (.str [c])) mu
  | .dat (.tup ds) => onSome (L2.atI ds i) fun d => Q (.dat d) mu
  | z => onSome (seqL mu z) fun ds => onSome (L2.atI ds i) fun d => Q (.dat d) mu
theorem ixAll : IxD X dIx := ⟨_, ix_seq, fun F al mu H x y v u Q R c rx ry q l => by
  obtain ⟨i, e1, e2, q⟩ := onI_out q ry
  subst e2
  have lst : (onSome (seqL mu x) fun ds => onSome (L2.atI ds i) fun d => Q (.dat d) mu) → rIx X.K v (.int i) H R := fun q => by
    obtain ⟨ds, h1, q⟩ := onSome_out q
    obtain ⟨d, h2, q⟩ := onSome_out q
    obtain ⟨p, vs, ev, hp, rl⟩ := seqL_out c rx h1
    obtain ⟨w, h3, rw'⟩ := rl.atI h2
    exact .inl ⟨p, vs, i, w, ev, rfl, .inl (.inl hp), h3, l F al (.dat d) mu w H Ext.refl c rw' q⟩
  cases x with
  | cel k => exact lst q
  | dat d =>
    cases d with
    | str s =>
      obtain ⟨hl, q⟩ := q
      obtain ⟨w, h2, q⟩ := onSome_out q
      have ev := rv_str_out rx
      exact .inr (.inr ⟨mkS s, i, w, ev, rfl, by rw [mkS_len]; exact Evl.sz_of hl, h2, l F al (.dat (.str [w])) mu _ H Ext.refl c rv_str q⟩)
    | tup ds =>
      obtain ⟨d, h2, q⟩ := onSome_out q
      obtain ⟨p, vs, ev, hp, rl⟩ := rv_tup_out rx
      obtain ⟨w, h3, rw'⟩ := rl.atI h2
      exact .inr (.inl ⟨p, vs, i, w, ev, rfl, .inl (.inl (c.ex _ _ hp)), h3, l F al (.dat d) mu w H Ext.refl c rw' q⟩)
    | lst ds => exact lst q
    | _ => exact lst q⟩
theorem cix (ha : CE X a ta) (hb : CE X b tb) (hs : PlainIx b := by exact fun _ _ => rfl) : CE X (.Subscript a b pos) (dOp dIx ta tb) := ce_ix ixAll ha hb hs

/-! ### slices -/
abbrev DO := Rho → Mu → (Option Int → Mu → Prop) → Prop
def LO (F : Hp) (al : List Addr) (H : Hp) (Q : Option Int → Mu → Prop) (R : Option Int → Hp → Prop) : Prop := ∀ F' al' z mu' H', Ext F al H F' al' H' → Cels F' al' mu' H' → Q z mu' → R z H'
structure CO (X : Cx) (e : Option Expr) (t : DO) : Prop where
  ok : ∃ te, PO X e te ∧ ∀ F al rho mu σ H Q R, Sim F al rho mu σ H → t rho mu Q → LO F al H Q R → te σ H R
def oNone : DO := fun _ mu Q => Q none mu
def oSome (t : DE) : DO := fun rho mu Q => t rho mu fun x mu1 => onI x fun i => Q (some i) mu1
theorem co_none : CO X none oNone := ⟨_, po_none, fun F al rho mu σ H Q R S q l => l F al none mu H Ext.refl S.toCels q⟩
theorem co_some (h : CE X e ta) : CO X (some e) (oSome ta) := by
  obtain ⟨_, p, g⟩ := h.ok
  refine ⟨_, po_some p, fun F al rho mu σ H Q R S q l => g F al rho mu σ H _ _ S q fun F1 al1 x mu1 v H1 E1 C1 r1 q1 => ?_⟩
  obtain ⟨i, e1, e2, q⟩ := onI_out q1 r1
  exact ⟨i, e2, l F1 al1 (some i) mu1 H1 E1 C1 q⟩
def cut {α : Type} (s : List α) (lo hi : Option Int) : List α := (s.drop (HT.sIx s.length 0 lo)).take (HT.sIx s.length s.length hi - HT.sIx s.length 0 lo)
abbrev D3 := DV → Option Int → Option Int → Mu → DQ → Prop
def dSl (t : D3) (te : DE) (tl th : DO) : DE := fun rho mu Q => te rho mu fun x mu1 => tl rho mu1 fun lo mu2 => th rho mu2 fun hi mu3 => t x lo hi mu3 Q
theorem cut_len {α : Type} (s : List α) (lo hi : Option Int) : (cut s lo hi).length ≤ s.length := by
  unfold cut
  rw [List.length_take, List.length_drop]
  omega
/-- a cut of a text, of a tuple (never the whole) -/
def dCut : D3 := fun x lo hi mu Q => match x with
  | .dat (.str s) => s.length ≤ 100000 ∧ Q (.dat (.str (cut s lo hi))) mu
  | .dat (.tup ds) => ¬ (HT.sIx ds.length 0 lo = 0 ∧ HT.sIx ds.length ds.length hi = ds.length) ∧ Q (.dat (.tup (cut ds lo hi))) mu
  | _ => False
theorem RepL.cut {F : Hp} {ds : List D} {vs : List V} (h : RepL F ds vs) (lo hi : Option Int) : RepL F (Dx.cut ds lo hi) (cutV vs lo hi) := by
  unfold Dx.cut cutV
  rw [h.len]
  exact (h.drop _).take _
theorem cutS_eq (s : List Nat) (lo hi : Option Int) : cutS (mkS s) lo hi = mkS (cut s lo hi) := by
  unfold cutS cut
  rw [mkS_len]
  rfl
theorem ce_cut {p2 : Pos} {lo hi : Option Expr} {tl th : DO} (he : CE X e ta) (hl : CO X lo tl) (hh : CO X hi th) : CE X (.Subscript e (.Slice lo hi none p2) pos) (dSl dCut ta tl th) := by
  obtain ⟨_, p, g⟩ := he.ok
  obtain ⟨_, pl, gl⟩ := hl.ok
  obtain ⟨_, ph, gh⟩ := hh.ok
  refine ⟨_, pe_slice (sl_str.or sl_tup) p pl ph, fun F al rho mu σ H Q R S q l => g F al rho mu σ H _ _ S q fun F1 al1 x mu1 v H1 E1 C1 r1 q1 => ?_⟩
  refine gl F1 al1 rho mu1 σ H1 _ _ (S.of C1 E1.ex E1.pf) q1 fun F2 al2 lo mu2 H2 E2 C2 q2 => ?_
  refine gh F2 al2 rho mu2 σ H2 _ _ (S.of C2 (E1.ex.trans E2.ex) (E1.pf.trans E2.pf)) q2 fun F3 al3 hi mu3 H3 E3 C3 q3 => ?_
  have r3 := (r1.mono E2.ex E2.pf).mono E3.ex E3.pf
  have l3 := ((l.trans E1).trans E2).trans E3
  cases x with
  | cel _ => exact q3.elim
  | dat d =>
    cases d with
    | str s =>
      refine .inl ⟨mkS s, rv_str_out r3, by rw [mkS_len]; exact Evl.sz_of q3.1, ?_⟩
      rw [cutS_eq]
      exact l3 F3 al3 _ mu3 _ H3 Ext.refl C3 rv_str q3.2
    | tup ds =>
      obtain ⟨p, vs, ev, hp, rl⟩ := rv_tup_out r3
      refine .inr ⟨p, vs, ev, .inl (.inl (C3.ex _ _ hp)), by rw [rl.len]; exact q3.1, fun n hn => ?_⟩
      exact l3 _ al3 _ mu3 _ _ (Ext.new hn C3.ex) (C3.newF hn) (rv_tup upd_same ((rl.cut lo hi).mono (ex_upd (ex_none C3.ex hn)))) q3.2
    | _ => exact q3.elim
/-- a cut of a list: a new list -/
def fSl (te : DE) (tl th : DO) : DF := fun rho mu Q => te rho mu fun x mu1 => tl rho mu1 fun lo mu2 => th rho mu2 fun hi mu3 => onSome (seqL mu3 x) fun ds => Q (.lst (cut ds lo hi)) mu3
theorem cf_cut {p2 : Pos} {lo hi : Option Expr} {tl th : DO} (he : CE X e ta) (hl : CO X lo tl) (hh : CO X hi th) : CF X (.Subscript e (.Slice lo hi none p2) pos) (fSl ta tl th) := by
  obtain ⟨_, p, g⟩ := he.ok
  obtain ⟨_, pl, gl⟩ := hl.ok
  obtain ⟨_, ph, gh⟩ := hh.ok
  refine ⟨_, pe_slice sl_list p pl ph, fun F al rho mu σ H Q R S q l => g F al rho mu σ H _ _ S q fun F1 al1 x mu1 v H1 E1 C1 r1 q1 => ?_⟩
  refine gl F1 al1 rho mu1 σ H1 _ _ (S.of C1 E1.ex E1.pf) q1 fun F2 al2 lo mu2 H2 E2 C2 q2 => ?_
  refine gh F2 al2 rho mu2 σ H2 _ _ (S.of C2 (E1.ex.trans E2.ex) (E1.pf.trans E2.pf)) q2 fun F3 al3 hi mu3 H3 E3 C3 q3 => ?_
  have r3 := (r1.mono E2.ex E2.pf).mono E3.ex E3.pf
  have E := (E1.trans E2).trans E3
  obtain ⟨ds, h1, q4⟩ := onSome_out q3
  obtain ⟨p, vs, ev, hp, rl⟩ := seqL_out C3 r3 h1
  refine ⟨p, vs, ev, .inl (.inl hp), fun n hn => ?_⟩
  exact l F3 al3 (.lst (cut ds lo hi)) mu3 n _ (E.trans (Ext.loose hn)) (C3.loose hn) (C3.not_al hn) (none_back (E.dm n) hn) rfl ⟨ex_none C3.ex hn, _, upd_same, rl.cut lo hi⟩ q4

/-! ### built-ins by their names -/
abbrev DCall := List DV → Mu → DQ → Prop
abbrev DCallF := List DV → Mu → (MC → Mu → Prop) → Prop
structure CallD (X : Cx) (f : Value) (t : DCall) : Prop where
  ok : ∃ r, CallR X f r ∧ ∀ F al mu H xs vs Q R, Cels F al mu H → RepVs F al xs vs → t xs mu Q → LK F al H Q R → r vs H R
structure CallF (X : Cx) (f : Value) (t : DCallF) : Prop where
  ok : ∃ r, CallR X f r ∧ ∀ F al mu H xs vs Q R, Cels F al mu H → RepVs F al xs vs → t xs mu Q → LF F al H Q R → r vs H R
def dCB (t : DCall) (ta : DA) : DE := fun rho mu Q => ta rho mu fun xs mu1 => t xs mu1 Q
def fCB (t : DCallF) (ta : DA) : DF := fun rho mu Q => ta rho mu fun xs mu1 => t xs mu1 Q
theorem ge_cb {te : TA} {ta : DA} {r : List V → Hp → VK → Prop} {t : DCall} (g : GA te ta) (h : ∀ F al mu H xs vs Q R, Cels F al mu H → RepVs F al xs vs → t xs mu Q → LK F al H Q R → r vs H R) : GE (tCB r te) (dCB t ta) :=
  fun F al rho mu σ H Q R S q l => g F al rho mu σ H _ _ S q fun F1 al1 xs mu1 vs H1 E1 C1 r1 q1 => h F1 al1 mu1 H1 xs vs Q R C1 r1 q1 (l.trans E1)
theorem gf_cb {te : TA} {ta : DA} {r : List V → Hp → VK → Prop} {t : DCallF} (g : GA te ta) (h : ∀ F al mu H xs vs Q R, Cels F al mu H → RepVs F al xs vs → t xs mu Q → LF F al H Q R → r vs H R) : GF (tCB r te) (fCB t ta) :=
  fun F al rho mu σ H Q R S q l => g F al rho mu σ H _ _ S q fun F1 al1 xs mu1 vs H1 E1 C1 r1 q1 => h F1 al1 mu1 H1 xs vs Q R C1 r1 q1 (l.trans E1)
section
variable {id T : String} {x : Str} {p : Pos} {t : DCall} {tf : DCallF} {tr : DA}
theorem ce_callB (hc : CallD X (.builtin id) t) (hg : Gl X x) (hm : X.mg x = none) (hv : bootBuiltins x = some (.builtin id)) (ha : CA X (e :: es) tr) (hn : x ≠ "__name__" := by decide) (hdb : (x == ("__debug__" : Str)) = false := by decide)
    (hst : starEach (e :: es) X.env = (false, eval e X.env) :: starEach es X.env := by rfl) (hpl : (backTo pos (starEach es X.env)).any (·.1) = false := by rfl) : CE X (.Call (.Name x p) (e :: es) [] pos) (dCB t tr) := by
  obtain ⟨_, r, g⟩ := hc.ok
  obtain ⟨_, pa, ga⟩ := ha.ok
  exact ⟨_, pe_callB r hg hm hv pa hn hdb hst hpl, ge_cb ga g⟩
theorem cf_callB (hc : CallF X (.builtin id) tf) (hg : Gl X x) (hm : X.mg x = none) (hv : bootBuiltins x = some (.builtin id)) (ha : CA X (e :: es) tr) (hn : x ≠ "__name__" := by decide) (hdb : (x == ("__debug__" : Str)) = false := by decide)
    (hst : starEach (e :: es) X.env = (false, eval e X.env) :: starEach es X.env := by rfl) (hpl : (backTo pos (starEach es X.env)).any (·.1) = false := by rfl) : CF X (.Call (.Name x p) (e :: es) [] pos) (fCB tf tr) := by
  obtain ⟨_, r, g⟩ := hc.ok
  obtain ⟨_, pa, ga⟩ := ha.ok
  exact ⟨_, pe_callB r hg hm hv pa hn hdb hst hpl, gf_cb ga g⟩
theorem ce_callTy (hc : CallD X (.type T) t) (hg : Gl X x) (hm : X.mg x = none) (hv : bootBuiltins x = some (.type T)) (ha : CA X (e :: es) tr) (hn : x ≠ "__name__" := by decide) (hdb : (x == ("__debug__" : Str)) = false := by decide)
    (hst : starEach (e :: es) X.env = (false, eval e X.env) :: starEach es X.env := by rfl) (hpl : (backTo pos (starEach es X.env)).any (·.1) = false := by rfl) : CE X (.Call (.Name x p) (e :: es) [] pos) (dCB t tr) := by
  obtain ⟨_, r, g⟩ := hc.ok
  obtain ⟨_, pa, ga⟩ := ha.ok
  exact ⟨_, pe_callTy r hg hm hv pa hn hdb hst hpl, ge_cb ga g⟩
theorem cf_callTy (hc : CallF X (.type T) tf) (hg : Gl X x) (hm : X.mg x = none) (hv : bootBuiltins x = some (.type T)) (ha : CA X (e :: es) tr) (hn : x ≠ "__name__" := by decide) (hdb : (x == ("__debug__" : Str)) = false := by decide)
    (hst : starEach (e :: es) X.env = (false, eval e X.env) :: starEach es X.env := by rfl) (hpl : (backTo pos (starEach es X.env)).any (·.1) = false := by rfl) : CF X (.Call (.Name x p) (e :: es) [] pos) (fCB tf tr) := by
  obtain ⟨_, r, g⟩ := hc.ok
  obtain ⟨_, pa, ga⟩ := ha.ok
  exact ⟨_, pe_callTy r hg hm hv pa hn hdb hst hpl, gf_cb ga g⟩
end
/-- one argument -/
def on1 (xs : List DV) (k : DV → Prop) : Prop := match xs with
  | [x] => k x
  | _ => False
def on2 (xs : List DV) (k : DV → DV → Prop) : Prop := match xs with
  | [x, y] => k x y
  | _ => False
theorem on1_out {F : Hp} {al : List Addr} {xs : List DV} {vs : List V} {k : DV → Prop} (h : on1 xs k) (r : RepVs F al xs vs) : ∃ x v, vs = [v] ∧ RepV F al x v ∧ k x := by
  cases r with
  | nil => exact h.elim
  | cons a t =>
    cases t with
    | nil => exact ⟨_, _, rfl, a, h⟩
    | cons b u => exact h.elim
theorem on2_out {F : Hp} {al : List Addr} {xs : List DV} {vs : List V} {k : DV → DV → Prop} (h : on2 xs k) (r : RepVs F al xs vs) : ∃ x y v u, vs = [v, u] ∧ RepV F al x v ∧ RepV F al y u ∧ k x y := by
  cases r with
  | nil => exact h.elim
  | cons a t =>
    cases t with
    | nil => exact h.elim
    | cons b u =>
      cases u with
      | nil => exact ⟨_, _, _, _, rfl, a, b, h⟩
      | cons c w => exact h.elim
/-- len of a list, a tuple, a text -/
def dLen : DCall := fun xs mu Q => on1 xs fun x => match x with
  | .dat (.str s) => s.length ≤ 100000 ∧ Q (.dat (.int s.length)) mu
  | .dat (.tup ds) => Q (.dat (.int ds.length)) mu
  | z => onSome (seqL mu z) fun ds => Q (.dat (.int ds.length)) mu
theorem cLen : CallD X (.builtin "len") dLen := ⟨_, call_len, fun F al mu H xs vs Q R c r q l => by
  obtain ⟨x, v, ev, rx, q⟩ := on1_out q r
  have lst : (onSome (seqL mu x) fun ds => Q (.dat (.int ds.length)) mu) → ∃ y n, vs = [y] ∧ LenV X.K y H n ∧ R (.int n) H := fun q => by
    obtain ⟨ds, h1, q⟩ := onSome_out q
    obtain ⟨p, ws, e2, hp, rl⟩ := seqL_out c rx h1
    subst e2
    exact ⟨_, ws.length, ev, .inl ⟨ws, .inl (.inl hp), rfl⟩, by rw [rl.len]; exact l F al _ mu _ H Ext.refl c rv_int q⟩
  cases x with
  | cel k => exact lst q
  | dat d =>
    cases d with
    | str s =>
      have e2 := rv_str_out rx
      subst e2
      exact ⟨_, s.length, ev, ⟨by rw [mkS_len]; exact Evl.sz_of q.1, (mkS_len s).symm⟩, l F al _ mu _ H Ext.refl c rv_int q.2⟩
    | tup ds =>
      obtain ⟨p, ws, e2, hp, rl⟩ := rv_tup_out rx
      subst e2
      exact ⟨_, ws.length, ev, .inr ⟨ws, .inl (.inl (c.ex _ _ hp)), rfl⟩, by rw [rl.len]; exact l F al _ mu _ H Ext.refl c rv_int q⟩
    | _ => exact lst q⟩
/-- int of a truth, of an int; all, any, sum -/
def dInt : DCall := fun xs mu Q => on1 xs fun x => match x with
  | .dat (.int i) => Q (.dat (.int i)) mu
  | .dat (.bl b) => Q (.dat (.int (if b then 1 else 0))) mu
  | _ => False
theorem cInt : CallD X (.type "int") dInt := ⟨_, call_int1, fun F al mu H xs vs Q R c r q l => by
  obtain ⟨x, v, ev, rx, q⟩ := on1_out q r
  cases x with
  | cel k => exact q.elim
  | dat d =>
    cases d with
    | int i =>
      have e2 := rv_int_out rx
      subst e2
      exact .inl ⟨i, ev, l F al _ mu _ H Ext.refl c rv_int q⟩
    | bl i =>
      have e2 := rv_bl_out rx
      subst e2
      exact .inr ⟨i, ev, l F al _ mu _ H Ext.refl c rv_int q⟩
    | _ => exact q.elim⟩
def toBls : List D → Option (List Bool)
  | [] => some []
  | .bl b :: r => (toBls r).map (b :: ·)
  | _ => none
theorem toBls_map : ∀ {ds : List D} {bs : List Bool}, toBls ds = some bs → ds = bs.map D.bl
  | [], bs, h => by cases h; rfl
  | .bl b :: r, bs, h => by
    have h' : (toBls r).map (b :: ·) = some bs := h
    cases q : toBls r with
    | none => rw [q] at h'; cases h'
    | some cs =>
      rw [q] at h'
      cases h'
      rw [toBls_map q]
      rfl
  | .non :: r, bs, h => by cases h
  | .int _ :: r, bs, h => by cases h
  | .str _ :: r, bs, h => by cases h
  | .lst _ :: r, bs, h => by cases h
  | .tup _ :: r, bs, h => by cases h
  | .dk _ _ :: r, bs, h => by cases h
  | .dt _ _ _ :: r, bs, h => by cases h
  | .scr _ _ :: r, bs, h => by cases h
def toIs : List D → Option (List Int)
  | [] => some []
  | .int b :: r => (toIs r).map (b :: ·)
  | _ => none
theorem toIs_map : ∀ {ds : List D} {bs : List Int}, toIs ds = some bs → ds = bs.map D.int
  | [], bs, h => by cases h; rfl
  | .int b :: r, bs, h => by
    have h' : (toIs r).map (b :: ·) = some bs := h
    cases q : toIs r with
    | none => rw [q] at h'; cases h'
    | some cs =>
      rw [q] at h'
      cases h'
      rw [toIs_map q]
      rfl
  | .non :: r, bs, h => by cases h
  | .bl _ :: r, bs, h => by cases h
  | .str _ :: r, bs, h => by cases h
  | .lst _ :: r, bs, h => by cases h
  | .tup _ :: r, bs, h => by cases h
  | .dk _ _ :: r, bs, h => by cases h
  | .dt _ _ _ :: r, bs, h => by cases h
  | .scr _ _ :: r, bs, h => by cases h
def toSs : List D → Option (List (List Nat))
  | [] => some []
  | .str b :: r => (toSs r).map (b :: ·)
  | _ => none
theorem toSs_map : ∀ {ds : List D} {bs : List (List Nat)}, toSs ds = some bs → ds = bs.map D.str
  | [], bs, h => by cases h; rfl
  | .str b :: r, bs, h => by
    have h' : (toSs r).map (b :: ·) = some bs := h
    cases q : toSs r with
    | none => rw [q] at h'; cases h'
    | some cs =>
      rw [q] at h'
      cases h'
      rw [toSs_map q]
      rfl
  | .non :: r, bs, h => by cases h
  | .bl _ :: r, bs, h => by cases h
  | .int _ :: r, bs, h => by cases h
  | .lst _ :: r, bs, h => by cases h
  | .tup _ :: r, bs, h => by cases h
  | .dk _ _ :: r, bs, h => by cases h
  | .dt _ _ _ :: r, bs, h => by cases h
  | .scr _ _ :: r, bs, h => by cases h
theorem toSs_of : ∀ (ws : List (List Nat)), toSs (ws.map D.str) = some ws
  | [] => rfl
  | w :: r => by
    rw [List.map_cons]
    show (toSs (r.map D.str)).map (w :: ·) = some (w :: r)
    rw [toSs_of r]
    rfl
theorem toIs_of : ∀ (ws : List Int), toIs (ws.map D.int) = some ws
  | [] => rfl
  | w :: r => by
    rw [List.map_cons]
    show (toIs (r.map D.int)).map (w :: ·) = some (w :: r)
    rw [toIs_of r]
    rfl
theorem toBls_of : ∀ (ws : List Bool), toBls (ws.map D.bl) = some ws
  | [] => rfl
  | w :: r => by
    rw [List.map_cons]
    show (toBls (r.map D.bl)).map (w :: ·) = some (w :: r)
    rw [toBls_of r]
    rfl
def dAll : DCall := fun xs mu Q => on1 xs fun x => onSome ((seqL mu x).bind toBls) fun bs => Q (.dat (.bl (bs.all id))) mu
def dAny : DCall := fun xs mu Q => on1 xs fun x => onSome ((seqL mu x).bind toBls) fun bs => Q (.dat (.bl (bs.any id))) mu
def dSum : DCall := fun xs mu Q => on1 xs fun x => onSome ((seqL mu x).bind toIs) fun bs => Q (.dat (.int bs.sum)) mu
theorem bind_out {α β : Type} {o : Option α} {g : α → Option β} {b : β} (h : o.bind g = some b) : ∃ a, o = some a ∧ g a = some b := by
  cases o with
  | none => cases h
  | some a => exact ⟨a, rfl, h⟩
theorem cAll (hc : X.calm = true) : CallD X (.builtin "all") dAll := ⟨_, cr_all hc, fun F al mu H xs vs Q R c r q l => by
  obtain ⟨x, v, ev, rx, q⟩ := on1_out q r
  obtain ⟨bs, h1, q⟩ := onSome_out q
  obtain ⟨ds, h2, h3⟩ := bind_out h1
  obtain ⟨p, ws, e2, hp, rl⟩ := seqL_out c rx h2
  subst e2
  rw [toBls_map h3] at rl
  rw [rl.bls] at hp
  exact ⟨p, bs, ev, .inl (.inl hp), l F al _ mu _ H Ext.refl c rv_bl q⟩⟩
theorem cAny (hc : X.calm = true) : CallD X (.builtin "any") dAny := ⟨_, cr_any hc, fun F al mu H xs vs Q R c r q l => by
  obtain ⟨x, v, ev, rx, q⟩ := on1_out q r
  obtain ⟨bs, h1, q⟩ := onSome_out q
  obtain ⟨ds, h2, h3⟩ := bind_out h1
  obtain ⟨p, ws, e2, hp, rl⟩ := seqL_out c rx h2
  subst e2
  rw [toBls_map h3] at rl
  rw [rl.bls] at hp
  exact ⟨p, bs, ev, .inl (.inl hp), l F al _ mu _ H Ext.refl c rv_bl q⟩⟩
theorem cSum (hc : X.calm = true) : CallD X (.builtin "sum") dSum := ⟨_, cr_sum hc, fun F al mu H xs vs Q R c r q l => by
  obtain ⟨x, v, ev, rx, q⟩ := on1_out q r
  obtain ⟨bs, h1, q⟩ := onSome_out q
  obtain ⟨ds, h2, h3⟩ := bind_out h1
  obtain ⟨p, ws, e2, hp, rl⟩ := seqL_out c rx h2
  subst e2
  rw [toIs_map h3] at rl
  rw [rl.ints] at hp
  exact ⟨p, bs, ev, .inl (.inl hp), l F al _ mu _ H Ext.refl c rv_int q⟩⟩
/-- list(a list, a tuple): a new list; tuple(a list): a tuple -/
def fListOf : DCallF := fun xs mu Q => on1 xs fun x => match x with
  | .dat (.tup ds) => Q (.lst ds) mu
  | z => onSome (seqL mu z) fun ds => Q (.lst ds) mu
theorem cListOf : CallF X (.type "list") fListOf := ⟨_, call_list_of, fun F al mu H xs vs Q R c r q l => by
  obtain ⟨x, v, ev, rx, q⟩ := on1_out q r
  have fin : ∀ {n : Addr} {ds : List D} {ws : List V}, H n = none → RepL F ds ws → Q (.lst ds) mu → R (.ref n) (upd H n (.lst ws)) := fun {n ds ws} hn rl q =>
    l F al (.lst ds) mu n _ (Ext.loose hn) (c.loose hn) (c.not_al hn) hn rfl ⟨ex_none c.ex hn, _, upd_same, rl⟩ q
  have lst : (onSome (seqL mu x) fun ds => Q (.lst ds) mu) → ∃ p ys, vs = [.ref p] ∧ (SqL X.K H p ys ∨ SqT X.K H p ys) ∧ ∀ l, H l = none → R (.ref l) (upd H l (.lst ys)) := fun q => by
    obtain ⟨ds, h1, q⟩ := onSome_out q
    obtain ⟨p, ws, e2, hp, rl⟩ := seqL_out c rx h1
    subst e2
    exact ⟨p, ws, ev, .inl (.inl (.inl hp)), fun n hn => fin hn rl q⟩
  cases x with
  | cel k => exact lst q
  | dat d =>
    cases d with
    | tup ds =>
      obtain ⟨p, ws, e2, hp, rl⟩ := rv_tup_out rx
      subst e2
      exact ⟨p, ws, ev, .inr (.inl (.inl (c.ex _ _ hp))), fun n hn => fin hn rl q⟩
    | _ => exact lst q⟩
def dTupOf : DCall := fun xs mu Q => on1 xs fun x => match x with
  | .dat (.tup ds) => Q (.dat (.tup ds)) mu
  | z => onSome (seqL mu z) fun ds => Q (.dat (.tup ds)) mu
theorem cTupOf : CallD X (.type "tuple") dTupOf := ⟨_, call_tuple_of, fun F al mu H xs vs Q R c r q l => by
  obtain ⟨x, v, ev, rx, q⟩ := on1_out q r
  have lst : (onSome (seqL mu x) fun ds => Q (.dat (.tup ds)) mu) → ∃ p ys, vs = [.ref p] ∧ ((SqL X.K H p ys ∧ ∀ l, H l = none → R (.ref l) (upd H l (.tup ys))) ∨ (SqT X.K H p ys ∧ R (.ref p) H)) := fun q => by
    obtain ⟨ds, h1, q⟩ := onSome_out q
    obtain ⟨p, ws, e2, hp, rl⟩ := seqL_out c rx h1
    subst e2
    exact ⟨p, ws, ev, .inl ⟨.inl (.inl hp), fun n hn => l _ al _ mu _ _ (Ext.new hn c.ex) (c.newF hn) (rv_tup upd_same (rl.mono (ex_upd (ex_none c.ex hn)))) q⟩⟩
  cases x with
  | cel k => exact lst q
  | dat d =>
    cases d with
    | tup ds =>
      obtain ⟨p, ws, e2, hp, rl⟩ := rv_tup_out rx
      subst e2
      exact ⟨p, ws, ev, .inr ⟨.inl (.inl (c.ex _ _ hp)), l F al _ mu _ H Ext.refl c (rv_tup hp rl) q⟩⟩
    | _ => exact lst q⟩
/-- sorted of few ints, of few texts: a new list -/
def fSorted : DCallF := fun xs mu Q => on1 xs fun x =>
  (onSome ((seqL mu x).bind toIs) fun ns => ns.length < 64 ∧ ∀ ns' : List Int, ns'.Perm ns → ns'.Pairwise (· ≤ ·) → Q (.lst (ns'.map D.int)) mu)
def sortedL (ws : List (List Nat)) : Prop := sortedS (ws.map mkS) = true
def fSortedS : DCallF := fun xs mu Q => on1 xs fun x =>
  (onSome ((seqL mu x).bind toSs) fun ns => ns.length < 64 ∧ ∀ ns' : List (List Nat), ns'.Perm ns → sortedL ns' → Q (.lst (ns'.map D.str)) mu)
theorem cSorted : CallF X (.builtin "sorted") fSorted := ⟨_, cr_sorted, fun F al mu H xs vs Q R c r q l => by
  obtain ⟨x, v, ev, rx, q⟩ := on1_out q r
  obtain ⟨bs, h1, hz, q⟩ := onSome_out q
  obtain ⟨ds, h2, h3⟩ := bind_out h1
  obtain ⟨p, ws, e2, hp, rl⟩ := seqL_out c rx h2
  subst e2
  rw [toIs_map h3] at rl
  rw [rl.ints] at hp
  exact ⟨p, bs, ev, .inl (.inl hp), hz, fun ns' n pm st hn => l F al (.lst (ns'.map D.int)) mu n _ (Ext.loose hn) (c.loose hn) (c.not_al hn) hn rfl ⟨ex_none c.ex hn, _, upd_same, RepL.toInts ns'⟩ (q ns' pm st)⟩⟩
theorem map_mkS (ys : List Str) : (ys.map fun y => y.cps.toList).map mkS = ys := by
  induction ys with
  | nil => rfl
  | cons y r ih => rw [List.map_cons, List.map_cons, ih]; rfl
theorem cSortedS : CallF X (.builtin "sorted") fSortedS := ⟨_, cr_sortedS, fun F al mu H xs vs Q R c r q l => by
  obtain ⟨x, v, ev, rx, q⟩ := on1_out q r
  obtain ⟨bs, h1, hz, q⟩ := onSome_out q
  obtain ⟨ds, h2, h3⟩ := bind_out h1
  obtain ⟨p, ws, e2, hp, rl⟩ := seqL_out c rx h2
  subst e2
  rw [toSs_map h3] at rl
  rw [rl.strs] at hp
  refine ⟨p, bs.map mkS, ev, .inl (.inl hp), by rw [List.length_map]; exact hz, fun ns' n pm st hn => ?_⟩
  have e4 := map_mkS ns'
  have hpm : (ns'.map fun y => y.cps.toList).Perm bs := by
    have w := pm.map (fun y : Str => y.cps.toList)
    rw [List.map_map] at w
    have e5 : (bs.map ((fun y : Str => y.cps.toList) ∘ mkS)) = bs := by
      have e6 : ((fun y : Str => y.cps.toList) ∘ mkS) = id := rfl
      rw [e6, List.map_id]
    rw [e5] at w
    exact w
  have w2 := RepL.toStrs (F := F) (ns'.map fun y => y.cps.toList)
  rw [e4] at w2
  exact l F al (.lst ((ns'.map fun y => y.cps.toList).map D.str)) mu n _ (Ext.loose hn) (c.loose hn) (c.not_al hn) hn rfl ⟨ex_none c.ex hn, _, upd_same, w2⟩ (q _ hpm (by unfold sortedL; rw [e4]; exact st))⟩

/-! ### list + list, list * int: new lists -/
def fOp (t : DV → DV → Mu → (MC → Mu → Prop) → Prop) (ta tb : DE) : DF := fun rho mu Q => ta rho mu fun x mu1 => tb rho mu1 fun y mu2 => t x y mu2 Q
def fCat : DV → DV → Mu → (MC → Mu → Prop) → Prop := fun x y mu Q => onSome (seqL mu x) fun xs => onSome (seqL mu y) fun ys => xs.length + ys.length ≤ 100000 ∧ Q (.lst (xs ++ ys)) mu
theorem cf_cat (ha : CE X a ta) (hb : CE X b tb) : CF X (.BinOp a .Add b pos) (fOp fCat ta tb) := by
  obtain ⟨_, pa, ga⟩ := ha.ok
  obtain ⟨_, pb, gb⟩ := hb.ok
  refine ⟨_, pe_op op_cat pa pb, fun F al rho mu σ H Q R S q l => ga F al rho mu σ H _ _ S q fun F1 al1 x mu1 v H1 E1 C1 r1 q1 => ?_⟩
  refine gb F1 al1 rho mu1 σ H1 _ _ (S.of C1 E1.ex E1.pf) q1 fun F2 al2 y mu2 u H2 E2 C2 r2 q2 => ?_
  obtain ⟨xs, h1, q3⟩ := onSome_out q2
  obtain ⟨ys, h2, hz, q4⟩ := onSome_out q3
  obtain ⟨p, ws, e2, hp, rl⟩ := seqL_out C2 (r1.mono E2.ex E2.pf) h1
  obtain ⟨p', ws', e2', hp', rl'⟩ := seqL_out C2 r2 h2
  have E := E1.trans E2
  exact ⟨p, p', ws, ws', e2, e2', hp, hp', by rw [rl.len, rl'.len]; exact Evl.sz_of hz, fun n hn =>
    l F2 al2 (.lst (xs ++ ys)) mu2 n _ (E.trans (Ext.loose hn)) (C2.loose hn) (C2.not_al hn) (none_back (E.dm n) hn) rfl ⟨ex_none C2.ex hn, _, upd_same, rl.app rl'⟩ q4⟩
theorem RepL.rep {F : Hp} {ds : List D} {vs : List V} (h : RepL F ds vs) : ∀ n : Nat, RepL F (List.replicate n ds).flatten (List.replicate n vs).flatten
  | 0 => RepL.nil
  | n + 1 => by
    rw [List.replicate_succ, List.replicate_succ, List.flatten_cons, List.flatten_cons]
    exact h.app (RepL.rep h n)
def fRep : DV → DV → Mu → (MC → Mu → Prop) → Prop := fun x y mu Q => onSome (seqL mu x) fun xs => onI y fun n => 0 ≤ n ∧ n ≤ 1000 ∧ xs.length ≤ 100 ∧ Q (.lst (List.replicate n.toNat xs).flatten) mu
theorem cf_rep (ha : CE X a ta) (hb : CE X b tb) : CF X (.BinOp a .Mult b pos) (fOp fRep ta tb) := by
  obtain ⟨_, pa, ga⟩ := ha.ok
  obtain ⟨_, pb, gb⟩ := hb.ok
  refine ⟨_, pe_op op_rep pa pb, fun F al rho mu σ H Q R S q l => ga F al rho mu σ H _ _ S q fun F1 al1 x mu1 v H1 E1 C1 r1 q1 => ?_⟩
  refine gb F1 al1 rho mu1 σ H1 _ _ (S.of C1 E1.ex E1.pf) q1 fun F2 al2 y mu2 u H2 E2 C2 r2 q2 => ?_
  obtain ⟨xs, h1, q3⟩ := onSome_out q2
  obtain ⟨n, e3, e4, h2, hz, hw, q4⟩ := onI_out q3 r2
  obtain ⟨p, ws, e2, hp, rl⟩ := seqL_out C2 (r1.mono E2.ex E2.pf) h1
  have E := E1.trans E2
  refine ⟨p, n, ws, e2, e4, hp, by omega, by omega, ?_, fun m hn =>
    l F2 al2 (.lst (List.replicate n.toNat xs).flatten) mu2 m _ (E.trans (Ext.loose hn)) (C2.loose hn) (C2.not_al hn) (none_back (E.dm m) hn) rfl ⟨ex_none C2.ex hn, _, upd_same, rl.rep n.toNat⟩ q4⟩
  rw [rl.len]
  have : xs.length * n.toNat ≤ 100 * 1000 := Nat.mul_le_mul hw (by omega)
  exact Evl.sz_of (by omega)

/-! ### in -/
def flatD : D → Bool
  | .non => true
  | .bl _ => true
  | .int _ => true
  | .str _ => true
  | _ => false
/-- == of flat data -/
def eqF : D → D → Bool
  | .non, .non => true
  | .bl a, .bl b => a == b
  | .bl a, .int b => (if a then 1 else 0) == b
  | .int a, .bl b => a == (if b then 1 else 0)
  | .int a, .int b => a == b
  | .str a, .str b => a == b
  | _, _ => false
theorem beq_mkS (a b : List Nat) : (mkS a == mkS b) = (a == b) := by
  by_cases h : a = b
  · subst h
    simp
  · rw [beq_eq_false_iff_ne.mpr h, beq_eq_false_iff_ne.mpr (fun z => h (mkS_inj z))]
theorem eqF_V {F : Hp} {d e : D} {v u : V} (h : Rep F d v) (h' : Rep F e u) (f : flatD d = true) (f' : flatD e = true) : eqV v u = eqF d e := by
  cases d <;> first
    | (rw [Rep] at h; subst h; cases e <;> first
        | (rw [Rep] at h'; subst h'; first
            | rfl
            | exact beq_mkS _ _)
        | (exact absurd f' (by decide)) 
        | cases f')
    | (exact absurd f (by decide))
    | cases f
def inD (x : D) (xs : List D) : Bool := xs.any fun y => eqF y x
theorem inD_V {F : Hp} {x : D} {v : V} (hx : Rep F x v) (fx : flatD x = true) : ∀ {ds : List D} {vs : List V}, RepL F ds vs → ds.all flatD = true → inV v vs = inD x ds ∧ vs.all flatV = true
  | [], vs, r, _ => by
    rw [r.unnil]
    exact ⟨rfl, rfl⟩
  | d :: ds, vs, r, h => by
    obtain ⟨u, w, e, a, b⟩ := r.uncons
    subst e
    rw [List.all_cons, Bool.and_eq_true_iff] at h
    obtain ⟨i1, i2⟩ := inD_V hx fx b h.2
    refine ⟨?_, ?_⟩
    · unfold inV inD at i1 ⊢
      rw [List.any_cons, List.any_cons, i1, eqF_V a hx h.1 fx]
    · rw [List.all_cons, i2, Bool.and_true]
      have hd := h.1
      cases d <;> first
        | (rw [Rep] at a; subst a; rfl)
        | cases hd
theorem flat_V {F : Hp} {x : D} {v : V} (hx : Rep F x v) (fx : flatD x = true) : flatV v = true := by
  cases x <;> first
    | (rw [Rep] at hx; subst hx; rfl)
    | cases fx
/-- x in a list, in a tuple; a sign in a text -/
def dInQ (neg : Bool) : D2 := fun x y mu Q => match x, y with
  | .dat (.str c), .dat (.str s) => onSome (match c with | [a] => some a | _ => none) fun a => Q (.dat (.bl (if neg then !decide (a ∈ s) else decide (a ∈ s)))) mu
  | .dat d, z => onSome (match z with | .dat (.tup ds) => some ds | z => seqL mu z) fun ds => flatD d = true ∧ ds.all flatD = true ∧ Q (.dat (.bl (if neg then !inD d ds else inD d ds))) mu
  | _, _ => False
theorem dIn_seq {neg : Bool} {f : Value → Value → Sem Value} (h : OpR X f (rIn X.K neg)) : OpD X f (fun x y mu Q => match x with
    | .dat d => onSome (match y with | .dat (.tup ds) => some ds | z => seqL mu z) fun ds => flatD d = true ∧ ds.all flatD = true ∧ Q (.dat (.bl (if neg then !inD d ds else inD d ds))) mu
    | _ => False) := ⟨_, h, fun F al mu H x y v u Q R c rx ry q l => by
  cases x with
  | cel k => exact q.elim
  | dat d =>
    obtain ⟨ds, h1, f1, f2, q⟩ := onSome_out q
    have rd : Rep F d v := rx
    have lst : seqL mu y = some ds → rIn X.K neg v u H R := fun h1 => by
      obtain ⟨p, ws, e2, hp, rl⟩ := seqL_out c ry h1
      obtain ⟨i1, i2⟩ := inD_V rd f1 rl f2
      refine ⟨p, ws, e2, .inl (.inl (.inl hp)), flat_V rd f1, i2, ?_⟩
      rw [i1]
      exact l F al _ mu _ H Ext.refl c rv_bl q
    cases y with
    | cel k => exact lst h1
    | dat y =>
      cases y with
      | tup es =>
        have e : es = ds := Option.some.inj h1
        subst e
        obtain ⟨p, ws, e2, hp, rl⟩ := rv_tup_out ry
        obtain ⟨i1, i2⟩ := inD_V rd f1 rl f2
        refine ⟨p, ws, e2, .inr (.inl (.inl (c.ex _ _ hp))), flat_V rd f1, i2, ?_⟩
        rw [i1]
        exact l F al _ mu _ H Ext.refl c rv_bl q
      | _ => exact lst h1⟩
theorem found1 (c : Nat) (s : List Nat) : (!(Builtin.Str.occurrences (mkS s) (mkS [c]) 0 (mkS s).length 1).isEmpty) = decide (c ∈ s) := PySem.StrLaws.found_one (mkS s) c
theorem oIn : OpD X (compareOp .In) (dInQ false) := by
  have h2 : OpD X (compareOp .In) (fun x y mu Q => onS x fun c => onS y fun s => onSome (match c with | [a] => some a | _ => none) fun a => Q (.dat (.bl (decide (a ∈ s)))) mu) :=
    ⟨_, op_in_str, fun F al mu H x y v u Q R c rx ry q l => by
      obtain ⟨i, e1, e2, q⟩ := onS_out q rx
      obtain ⟨j, e3, e4, q⟩ := onS_out q ry
      obtain ⟨a, e5, q⟩ := onSome_out q
      have e6 : i = [a] := by
        cases i with
        | nil => cases e5
        | cons b r =>
          cases r with
          | nil =>
            have e7 : b = a := Option.some.inj e5
            rw [e7]
          | cons _ _ => cases e5
      subst e6
      refine ⟨_, _, e2, e4, ?_⟩
      rw [found1]
      exact l F al _ mu _ H Ext.refl c rv_bl q⟩
  refine ((dIn_seq op_in_seq).or h2).imp fun x y mu Q q => ?_
  unfold dInQ at q
  split at q
  · exact .inr q
  · exact .inl q
  · exact q.elim
theorem oNotIn : OpD X (compareOp .NotIn) (dInQ true) := by
  have h2 : OpD X (compareOp .NotIn) (fun x y mu Q => onS x fun c => onS y fun s => onSome (match c with | [a] => some a | _ => none) fun a => Q (.dat (.bl (!decide (a ∈ s)))) mu) :=
    ⟨_, op_notin_str, fun F al mu H x y v u Q R c rx ry q l => by
      obtain ⟨i, e1, e2, q⟩ := onS_out q rx
      obtain ⟨j, e3, e4, q⟩ := onS_out q ry
      obtain ⟨a, e5, q⟩ := onSome_out q
      have e6 : i = [a] := by
        cases i with
        | nil => cases e5
        | cons b r =>
          cases r with
          | nil =>
            have e7 : b = a := Option.some.inj e5
            rw [e7]
          | cons _ _ => cases e5
      subst e6
      refine ⟨_, _, e2, e4, ?_⟩
      rw [found1]
      exact l F al _ mu _ H Ext.refl c rv_bl q⟩
  refine ((dIn_seq op_notIn_seq).or h2).imp fun x y mu Q q => ?_
  unfold dInQ at q
  split at q
  · exact .inr q
  · exact .inl q
  · exact q.elim
end
end Dx

namespace Dx
open PySem PySem.Spec PyProof.Rows L2
open Evl (Ex)
variable [Tb]

/-! ### a cell is changed -/
theorem Cels.put {F H : Hp} {al : List Addr} {mu : Mu} {k : Nat} {a : Addr} {m m' : MC} {o : HO} (C : Cels F al mu H) (ha : al[k]? = some a) (hm : mu[k]? = some m) (live : isDead m = false) (new : CelOk F (upd H a o) a m') :
    Cels F al (mu.set k m') (upd H a o) ∧ Ext F al H F al (upd H a o) := by
  have hn : F a = none := (C.cel k a m ha hm).un live
  have ma : a ∈ al := List.mem_of_getElem? ha
  refine ⟨⟨fun b u h => ?_, C.nt, tabs_put C.tb ((C.cel k a m ha hm).plain live).choose_spec.1 ((C.cel k a m ha hm).plain live).choose_spec.2, by rw [List.length_set]; exact C.len, C.nd, fun j b x h1 h2 => ?_⟩, ⟨Ex.refl F, List.prefix_refl _, fun b h => .inl h, fun b h => .inl h, fun b u h e _ => ?_, fun b h => ?_⟩⟩
  · rw [upd_ne (ne_of_none h hn)]
    exact C.ex b u h
  · by_cases hj : j = k
    · subst hj
      rw [ha] at h1
      cases h1
      rw [List.getElem?_set_self (List.getElem?_eq_some_iff.mp hm).1] at h2
      cases h2
      exact new
    · have hb : b ≠ a := fun z => by
        subst z
        have e1 := List.getElem?_eq_some_iff.mp h1
        have e2 := List.getElem?_eq_some_iff.mp ha
        exact hj ((List.getElem_inj C.nd).mp (e1.2.trans e2.2.symm))
      rw [List.getElem?_set_ne (fun z => hj z.symm)] at h2
      exact (C.cel j b x h1 h2).mono (Ex.refl F) (fun z => z) (upd_ne hb)
  · have nb : b ≠ a := fun z => by
      subst z
      exact h ma
    rw [upd_ne nb]
    exact e
  · by_cases c : b = a
    · subst c
      rw [upd_same]
      exact fun z => nomatch z
    · rw [upd_ne c]
      exact h

/-! ### methods of built-in types -/
abbrev DM := DV → List DV → Mu → DQ → Prop
structure MtD (X : Cx) (T id : String) (t : DM) : Prop where
  ok : ∃ r, MtR X id r ∧ ∀ F al mu H x xs v vs Q R, Cels F al mu H → RepV F al x v → RepVs F al xs vs → t x xs mu Q → LK F al H Q R → r v vs H R
/-- what a value's type is, ahead of the arguments -/
def tyD (T : String) (mu : Mu) (x : DV) : Prop := match x with
  | .dat (.str _) => T = "str"
  | .dat (.dk _ _) => T = "dict"
  | .cel k => match mu[k]? with
    | some (.dk _ _) => T = "dict"
    | some (.lst _) => T = "list"
    | _ => False
  | .dat (.lst _) => T = "list"
  | _ => False
theorem tyD_out {K : PySem.W.Frag} {F H : Hp} {al : List Addr} {mu : Mu} {x : DV} {v : V} {T : String} (C : Cels F al mu H) (r : RepV F al x v) (h : tyD T mu x) : tyV K T v H := by
  cases x with
  | dat d =>
    cases d with
    | str s =>
      have e := rv_str_out r
      subst e
      exact h
    | lst ds =>
      obtain ⟨p, vs, e, q, _⟩ := rv_lst_out r
      subst e
      exact .inl ⟨h, vs, .inl (.inl (C.ex _ _ q))⟩
    | dk ks ds =>
      have r' : Rep F (.dk ks ds) v := r
      rw [Rep] at r'
      obtain ⟨p, vs, e, q, _⟩ := r'
      subst e
      exact .inr (.inr (.inl ⟨h, .inl ⟨_, C.ex _ _ q⟩⟩))
    | _ => exact h.elim
  | cel k =>
    obtain ⟨a, ha, e⟩ := r
    subst e
    have h' : (match mu[k]? with
      | some (.dk _ _) => T = "dict"
        | some (.lst _) => T = "list"
      | _ => False) := h
    cases q : mu[k]? with
    | none =>
      rw [q] at h'
      exact h'.elim
    | some m =>
      rw [q] at h'
      have ok := C.cel k a m ha q
      cases m with
      | dead => exact h'.elim
      | lst ds =>
        obtain ⟨_, vs, z, _⟩ := ok
        exact .inl ⟨h', vs, .inl (.inl z)⟩
      | dk ks ds =>
        obtain ⟨_, vs, z, _⟩ := ok
        exact .inr (.inr (.inl ⟨h', .inl ⟨_, z⟩⟩))
      | dt w ks ds => exact h'.elim
def dBM (T : String) (t : DM) (to : DE) (ta : DA) : DE := fun rho mu Q => to rho mu fun x mu1 => tyD T mu1 x ∧ ta rho mu1 fun xs mu2 => t x xs mu2 Q
section
variable {X : Cx} {e a b o : Expr} {es : List Expr} {ta tb to : DE} {pos apos cpos : Pos} {T id : String} {name : Str}
theorem ce_bm {t : DM} {tr : DA} (hm : MtD X T id t) (pa : PlainAttrs T) (slot : Slot T name id) (hty : typeOf (.builtin id) = pure (.type "method_descriptor")) (ho : CE X o to) (ha : CA X (e :: es) tr)
    (hbase : attributeBase o name X.env (eval o X.env) = eval o X.env := by rfl)
    (hfew : ((backTo cpos (starEach (e :: es) X.env)).all (fun x => !x.1) && (backToKw cpos (keywordEach [] X.env)).all (fun x => x.1.isSome)
      && decide ((e :: es).length + ([] : List Keyword).length + (if ([] : List Keyword).isEmpty then 0 else 1) < 30)) = true := by rfl)
    (hline : (apos.endLine == cpos.line) = true := by rfl) (hs : starEach (e :: es) X.env = (false, eval e X.env) :: starEach es X.env := by rfl) (hplain : (backTo cpos (starEach es X.env)).any (·.1) = false := by rfl) :
    CE X (.Call (.Attribute o name apos) (e :: es) [] cpos) (dBM T t to tr) := by
  obtain ⟨r, hr, g⟩ := hm.ok
  obtain ⟨_, po, go⟩ := ho.ok
  obtain ⟨_, pr, gr⟩ := ha.ok
  refine ⟨_, pe_bm pa slot hty hr po pr hbase hfew hline hs hplain, fun F al rho mu σ H Q R S q l => go F al rho mu σ H _ _ S q fun F1 al1 x mu1 v H1 E1 C1 r1 q1 => ?_⟩
  refine ⟨tyD_out C1 r1 q1.1, gr F1 al1 rho mu1 σ H1 _ _ (S.of C1 E1.ex E1.pf) q1.2 fun F2 al2 xs mu2 vs H2 E2 C2 r2 q2 => ?_⟩
  exact g F2 al2 mu2 H2 x xs v vs Q R C2 (r1.mono E2.ex E2.pf) r2 q2 ((l.trans E1).trans E2)
theorem ce_bm0 {t : DM} (hm : MtD X T id t) (pa : PlainAttrs T) (slot : Slot T name id) (hty : typeOf (.builtin id) = pure (.type "method_descriptor")) (ho : CE X o to)
    (hbase : attributeBase o name X.env (eval o X.env) = eval o X.env := by rfl) (hline : (apos.endLine == cpos.line) = true := by rfl) : CE X (.Call (.Attribute o name apos) [] [] cpos) (dBM T t to aNil) := by
  obtain ⟨r, hr, g⟩ := hm.ok
  obtain ⟨_, po, go⟩ := ho.ok
  refine ⟨_, pe_bm0 pa slot hty hr po hbase hline, fun F al rho mu σ H Q R S q l => go F al rho mu σ H _ _ S q fun F1 al1 x mu1 v H1 E1 C1 r1 q1 => ?_⟩
  exact ⟨tyD_out C1 r1 q1.1, g F1 al1 mu1 H1 x [] v [] Q R C1 r1 .nil q1.2 (l.trans E1)⟩
/-- the list of a cell -/
def onLst (x : DV) (mu : Mu) (k : Nat → List D → Prop) : Prop := match x with
  | .cel j => match mu[j]? with
    | some (.lst ds) => k j ds
    | _ => False
  | _ => False
theorem onLst_out {F H : Hp} {al : List Addr} {mu : Mu} {x : DV} {v : V} {k : Nat → List D → Prop} (C : Cels F al mu H) (r : RepV F al x v) (h : onLst x mu k) :
    ∃ j a ds vs, v = .ref a ∧ al[j]? = some a ∧ mu[j]? = some (.lst ds) ∧ F a = none ∧ H a = some (.lst vs) ∧ RepL F ds vs ∧ k j ds := by
  cases x with
  | dat d => exact h.elim
  | cel j =>
    obtain ⟨a, ha, e⟩ := r
    have h' : (match mu[j]? with
      | some (.lst ds) => k j ds
      | _ => False) := h
    cases q : mu[j]? with
    | none =>
      rw [q] at h'
      exact h'.elim
    | some m =>
      rw [q] at h'
      cases m with
      | lst ds =>
        obtain ⟨z, vs, hv, rl⟩ := C.cel j a _ ha q
        exact ⟨j, a, ds, vs, e, ha, q, z, hv, rl, h'⟩
      | _ => exact h'.elim
def onD (x : DV) (k : D → Prop) : Prop := match x with
  | .dat d => k d
  | _ => False
theorem onD_out {x : DV} {k : D → Prop} (h : onD x k) : ∃ d, x = .dat d ∧ k d := by
  cases x with
  | cel _ => exact h.elim
  | dat d => exact ⟨d, rfl, h⟩
theorem vs0 {F : Hp} {al : List Addr} {xs : List DV} {vs : List V} (r : RepVs F al xs vs) (h : xs = []) : vs = [] := by
  subst h
  cases r
  rfl
def dAppend : DM := fun x xs mu Q => on1 xs fun y => onD y fun d => onLst x mu fun j ds => ds.length < 100000 ∧ Q (.dat .non) (mu.set j (.lst (ds ++ [d])))
theorem mAppend : MtD X "list" "list.append" dAppend := ⟨_, mt_append, fun F al mu H x xs v vs Q R c r rs q l => by
  obtain ⟨y, w, ev, ry, q⟩ := on1_out q rs
  obtain ⟨d, e1, q⟩ := onD_out q
  subst e1
  obtain ⟨j, p, ds, us, e2, ha, hm, hn, hp, rl, hz, q⟩ := onLst_out c r q
  have rd : Rep F d w := ry
  obtain ⟨c2, e3⟩ := c.put (m' := .lst (ds ++ [d])) (o := .lst (us ++ [w])) ha hm rfl ⟨hn, _, upd_same, rl.app (.cons rd .nil)⟩
  exact ⟨p, us, w, e2, ev, hp, by rw [rl.len]; exact Evl.sz_lt hz, l F al _ _ _ _ e3 c2 rv_non q⟩⟩
def dPop : DM := fun x xs mu Q => xs = [] ∧ onLst x mu fun j ds => onSome (ds.getLast?) fun d => Q (.dat d) (mu.set j (.lst ds.dropLast))
theorem RepL.dropLast {F : Hp} {ds : List D} {vs : List V} (h : RepL F ds vs) : RepL F ds.dropLast vs.dropLast := by
  rw [List.dropLast_eq_take, List.dropLast_eq_take, h.len]
  exact h.take _
theorem mPop : MtD X "list" "list.pop" dPop := ⟨_, mt_pop, fun F al mu H x xs v vs Q R c r rs q l => by
  obtain ⟨e0, q⟩ := q
  obtain ⟨j, p, ds, us, e2, ha, hm, hn, hp, rl, q⟩ := onLst_out c r q
  obtain ⟨d, hd, q⟩ := onSome_out q
  rw [List.getLast?_eq_getElem?] at hd
  obtain ⟨w, hw, rd⟩ := rl.get hd
  obtain ⟨c2, e3⟩ := c.put (m' := .lst ds.dropLast) (o := .lst us.dropLast) ha hm rfl ⟨hn, _, upd_same, rl.dropLast⟩
  exact ⟨p, us, w, e2, vs0 rs e0, hp, by rw [rl.len]; exact hw, l F al (.dat d) _ _ _ e3 c2 rd q⟩⟩
def dPopAt : DM := fun x xs mu Q => on1 xs fun y => onI y fun i => onLst x mu fun j ds => 0 ≤ i ∧ i < ds.length ∧ ds.length ≤ 100000 ∧ onSome (ds[i.toNat]?) fun d => Q (.dat d) (mu.set j (.lst (ds.eraseIdx i.toNat)))
theorem RepL.erase {F : Hp} : ∀ {ds : List D} {vs : List V} (i : Nat), RepL F ds vs → RepL F (ds.eraseIdx i) (vs.eraseIdx i)
  | [], vs, i, h => by
    rw [h.unnil]
    exact RepL.nil
  | d :: ds, vs, 0, h => by
    obtain ⟨v, r, e, a, b⟩ := h.uncons
    subst e
    exact b
  | d :: ds, vs, i + 1, h => by
    obtain ⟨v, r, e, a, b⟩ := h.uncons
    subst e
    exact RepL.cons a (RepL.erase i b)
theorem seqIx {i : Int} {n : Nat} (h0 : 0 ≤ i) (h1 : i < n) : seqIndex? i n = some i.toNat := by
  have e : L2.ixN n i = some i.toNat := by
    unfold L2.ixN
    rw [if_pos h0, if_pos h1]
  exact (ixN_seq e).1
theorem mPopAt : MtD X "list" "list.pop" dPopAt := ⟨_, mt_popAt, fun F al mu H x xs v vs Q R c r rs q l => by
  obtain ⟨y, w, ev, ry, q⟩ := on1_out q rs
  obtain ⟨i, e1, e4, q⟩ := onI_out q ry
  obtain ⟨j, p, ds, us, e2, ha, hm, hn, hp, rl, h0, h1, hz, q⟩ := onLst_out c r q
  obtain ⟨d, hd, q⟩ := onSome_out q
  obtain ⟨w, hw, rd⟩ := rl.get hd
  obtain ⟨c2, e3⟩ := c.put (m' := .lst (ds.eraseIdx i.toNat)) (o := .lst (us.eraseIdx i.toNat)) ha hm rfl ⟨hn, _, upd_same, rl.erase _⟩
  subst e4
  exact ⟨p, us, i, i.toNat, w, e2, ev, hp, by omega, by omega, by rw [rl.len]; exact seqIx h0 h1, hw, l F al (.dat d) _ _ _ e3 c2 rd q⟩⟩
def dReverse : DM := fun x xs mu Q => xs = [] ∧ onLst x mu fun j ds => Q (.dat .non) (mu.set j (.lst ds.reverse))
theorem RepL.rev {F : Hp} : ∀ {ds : List D} {vs : List V}, RepL F ds vs → RepL F ds.reverse vs.reverse
  | [], vs, h => by
    rw [h.unnil]
    exact RepL.nil
  | d :: ds, vs, h => by
    obtain ⟨v, r, e, a, b⟩ := h.uncons
    subst e
    rw [List.reverse_cons, List.reverse_cons]
    exact (RepL.rev b).app (.cons a .nil)
theorem mReverse : MtD X "list" "list.reverse" dReverse := ⟨_, mt_reverse, fun F al mu H x xs v vs Q R c r rs q l => by
  obtain ⟨e0, q⟩ := q
  obtain ⟨j, p, ds, us, e2, ha, hm, hn, hp, rl, q⟩ := onLst_out c r q
  obtain ⟨c2, e3⟩ := c.put (m' := .lst ds.reverse) (o := .lst us.reverse) ha hm rfl ⟨hn, _, upd_same, rl.rev⟩
  exact ⟨p, us, e2, vs0 rs e0, hp, l F al _ _ _ _ e3 c2 rv_non q⟩⟩
def dClear : DM := fun x xs mu Q => xs = [] ∧ onLst x mu fun j ds => Q (.dat .non) (mu.set j (.lst []))
theorem mClear : MtD X "list" "list.clear" dClear := ⟨_, mt_clear, fun F al mu H x xs v vs Q R c r rs q l => by
  obtain ⟨e0, q⟩ := q
  obtain ⟨j, p, ds, us, e2, ha, hm, hn, hp, rl, q⟩ := onLst_out c r q
  obtain ⟨c2, e3⟩ := c.put (m' := .lst []) (o := .lst []) ha hm rfl ⟨hn, _, upd_same, .nil⟩
  exact ⟨p, us, e2, vs0 rs e0, hp, l F al _ _ _ _ e3 c2 rv_non q⟩⟩
/-- xs.extend(ys), ys data or another cell -/
def dExtend : DM := fun x xs mu Q => on1 xs fun y => onSome (seqL mu y) fun es => onLst x mu fun j ds => ds.length + es.length ≤ 100000 ∧ Q (.dat .non) (mu.set j (.lst (ds ++ es)))
theorem mExtend : MtD X "list" "list.extend" dExtend := ⟨_, mt_extend, fun F al mu H x xs v vs Q R c r rs q l => by
  obtain ⟨y, w, ev, ry, q⟩ := on1_out q rs
  obtain ⟨es, h1, q⟩ := onSome_out q
  obtain ⟨p', ws, e1, hp', rl'⟩ := seqL_out c ry h1
  obtain ⟨j, p, ds, us, e2, ha, hm, hn, hp, rl, hz, q⟩ := onLst_out c r q
  obtain ⟨c2, e3⟩ := c.put (m' := .lst (ds ++ es)) (o := .lst (us ++ ws)) ha hm rfl ⟨hn, _, upd_same, rl.app rl'⟩
  subst e1
  exact ⟨p, p', us, ws, e2, ev, hp, hp', by rw [rl.len, rl'.len]; exact Evl.sz_of hz, l F al _ _ _ _ e3 c2 rv_non q⟩⟩
/-- text methods -/
@[irreducible] def dFind3 : DM := fun x xs mu Q => onS x fun s => on2 xs fun y z => onS y fun c => onI z fun i => Q (.dat (.int (Txt.find3 (mkS s) (mkS c) i))) mu
theorem mFind3 : MtD X "str" "str.find" dFind3 := ⟨_, mt_find3, fun F al mu H x xs v vs Q R c r rs q l => by
  unfold dFind3 at q
  obtain ⟨s, e1, e2, q⟩ := onS_out q r
  obtain ⟨y, z, u, w, ev, ry, rz, q⟩ := on2_out q rs
  obtain ⟨ch, e3, e4, q⟩ := onS_out q ry
  obtain ⟨i, e5, e6, q⟩ := onI_out q rz
  subst e4
  subst e6
  exact ⟨mkS s, mkS ch, i, e2, ev, l F al _ _ _ _ Ext.refl c rv_int q⟩⟩
theorem join_eq (s : List Nat) (ws : List (List Nat)) : Txt.join (mkS s) (ws.map mkS) = mkS (TL.joinL s ws) := SX.join_S s ws
@[irreducible] def dJoin : DM := fun x xs mu Q => onS x fun s => on1 xs fun y => onSome (((match y with | .dat (.tup ds) => some ds | z => seqL mu z)).bind toSs) fun ws =>
  (ws.map List.length).sum + ws.length * s.length ≤ 100000 ∧ Q (.dat (.str (TL.joinL s ws))) mu
theorem mJoin : MtD X "str" "str.join" dJoin := ⟨_, mt_join, fun F al mu H x xs v vs Q R c r rs q l => by
  unfold dJoin at q
  obtain ⟨s, e1, e2, q⟩ := onS_out q r
  obtain ⟨y, w, ev, ry, q⟩ := on1_out q rs
  obtain ⟨ws, h1, hz, q⟩ := onSome_out q
  obtain ⟨ds, h2, h3⟩ := bind_out h1
  have fin : ∀ p, w = .ref p → (SqL X.K H p ((ws.map mkS).map V.str) ∨ SqT X.K H p ((ws.map mkS).map V.str)) → ∃ a p, ∃ ys : List Str, v = .str a ∧ vs = [.ref p] ∧ (SqL X.K H p (ys.map V.str) ∨ SqT X.K H p (ys.map V.str)) ∧ (ys.map (·.length)).sum + ys.length * a.length ≤ 16777216 ∧ R (.str (Txt.join a ys)) H := fun p e h => by
    refine ⟨mkS s, p, ws.map mkS, e2, by rw [ev, e], h, ?_, ?_⟩
    · rw [List.map_map, List.length_map, mkS_len]
      have e9 : ((fun x : Str => x.length) ∘ mkS) = List.length := by
        funext z
        exact mkS_len z
      rw [e9]
      omega
    · rw [join_eq]
      exact l F al _ _ _ _ Ext.refl c rv_str q
  have lst : seqL mu y = some ds → ∃ a p, ∃ ys : List Str, v = .str a ∧ vs = [.ref p] ∧ (SqL X.K H p (ys.map V.str) ∨ SqT X.K H p (ys.map V.str)) ∧ (ys.map (·.length)).sum + ys.length * a.length ≤ 16777216 ∧ R (.str (Txt.join a ys)) H := fun h2 => by
    obtain ⟨p, us, e3, hp, rl⟩ := seqL_out c ry h2
    rw [toSs_map h3] at rl
    rw [rl.strs] at hp
    exact fin p e3 (.inl (.inl (.inl hp)))
  cases y with
  | cel k => exact lst h2
  | dat d =>
    cases d with
    | tup es =>
      have e : es = ds := Option.some.inj h2
      subst e
      obtain ⟨p, us, e3, hp, rl⟩ := rv_tup_out ry
      rw [toSs_map h3] at rl
      rw [rl.strs] at hp
      exact fin p e3 (.inr (.inl (.inl (c.ex _ _ hp))))
    | _ => exact lst h2⟩
end

/-! ### promises of defs over data -/
inductive RV where
  | dv (x : DV) | new (m : MC)
abbrev FS := List DV → Mu → (RV → Mu → Prop) → Prop
def RetV (F : Hp) (al : List Addr) (H : Hp) : RV → V → Prop
  | .dv x, v => RepV F al x v
  | .new m, v => ∃ p, v = .ref p ∧ p ∉ al ∧ isDead m = false ∧ CelOk F H p m
/-- what is told is new to the asker: it stood in no heap ahead -/
def Fresh (H : Hp) : RV → V → Prop
  | .dv _, _ => True
  | .new _, v => ∀ p, v = .ref p → H p = none
def spOf (S : FS) : Sp := fun vs H Q _ => ∃ F al dvs mu Qd, Cels F al mu H ∧ RepVs F al dvs vs ∧ S dvs mu Qd ∧
  ∀ F' mu' rv v H', Ext F al H F' al H' → Cels F' al mu' H' → RetV F' al H' rv v → Fresh H rv v → Qd rv mu' → Q v H'
/-- no cells are handed on; what comes back as data -/
def backD (mu : Mu) (Q : DQ) : RV → Mu → Prop := fun rv _ => match rv with
  | .dv (.dat d) => Q (.dat d) mu
  | .new m => Q (.dat m.toD) mu
  | _ => False
def backN (mu : Mu) (Q : MC → Mu → Prop) : RV → Mu → Prop := fun rv _ => match rv with
  | .new m => Q m mu
  | _ => False
def allD : List DV → Bool
  | [] => true
  | .dat _ :: r => allD r
  | .cel _ :: _ => false
theorem allD_vs {F : Hp} {al : List Addr} : ∀ {xs : List DV} {vs : List V}, RepVs F al xs vs → allD xs = true → RepVs F [] xs vs
  | _, _, .nil, _ => .nil
  | .dat d :: xs, _, .cons h t, e => .cons (show Rep F d _ from h) (allD_vs t e)
  | .cel _ :: xs, _, .cons h t, e => by cases e
theorem Cels.empt {F H : Hp} (e : Ex F H) (n : ∀ a ps, F a ≠ some (.tbl ps)) (t : LamX.Tabs Tb.tabs H) : Cels F [] [] H := ⟨e, n, t, rfl, List.nodup_nil, fun k a m h => by simp at h⟩
/-- the cells stand through a call that has none of them -/
theorem Cels.over {F H F' H' : Hp} {al : List Addr} {mu : Mu} (C : Cels F al mu H) (E : Ext F [] H F' [] H') (C' : Ex F' H') (nt : ∀ a ps, F' a ≠ some (.tbl ps)) (tb : LamX.Tabs Tb.tabs H') : Cels F' al mu H' ∧ Ext F al H F' al H' := by
  have nf : ∀ a, H a ≠ none → F a = none → F' a = none := fun a h1 h2 => by
    cases q : F' a with
    | none => rfl
    | some u =>
      rcases E.nf a (by rw [q]; exact fun z => nomatch z) with w | w | w
      · exact absurd h2 w
      · exact absurd w h1
      · simp at w
  refine ⟨⟨C', nt, tb, C.len, C.nd, fun k a m h1 h2 => ?_⟩, ⟨E.ex, List.prefix_refl _, fun a h => ?_, fun a h => .inl h, fun a o _ h => E.kp a o (by simp) h, E.dm⟩⟩
  · have ok := C.cel k a m h1 h2
    exact ok.keep E.ex (nf a ok.there) (fun u q nt => E.kp a u (by simp) q nt) (E.dm a)
  · rcases E.nf a h with w | w | w
    · exact .inl w
    · exact .inr (.inl w)
    · simp at w
def dCall (S : FS) (ta : DA) : DE := fun rho mu Q => ta rho mu fun xs mu1 => allD xs = true ∧ S xs [] (backD mu1 Q)
def fCall (S : FS) (ta : DA) : DF := fun rho mu Q => ta rho mu fun xs mu1 => allD xs = true ∧ S xs [] (backN mu1 Q)
theorem ge_call {S : FS} {te : TA} {ta : DA} {E0 : XK} (g : GA te ta) : GE (tCall (spOf S) [] E0 te) (dCall S ta) := fun F al rho mu σ H Q R St q l =>
  g F al rho mu σ H _ _ St q fun F1 al1 xs mu1 vs H1 E1 C1 r1 q1 => by
    show spOf S (vs ++ []) H1 R E0
    rw [List.append_nil]
    refine ⟨F1, [], xs, [], _, Cels.empt C1.ex C1.nt C1.tb, allD_vs r1 q1.1, q1.2, fun F' mu' rv v H' E' C' rr fr q' => ?_⟩
    obtain ⟨C2, E2⟩ := C1.over E' C'.ex C'.nt C'.tb
    cases rv with
    | dv x =>
      cases x with
      | cel k => exact q'.elim
      | dat d => exact l F' al1 (.dat d) mu1 v H' (E1.trans E2) C2 rr q'
    | new m =>
      obtain ⟨p, ev, na, dd, ok⟩ := rr
      obtain ⟨o, ho, rep⟩ := ok.frz dd
      have h0 : H1 p = none := fr p ev
      have hn := ok.un dd
      subst ev
      exact l _ al1 (.dat m.toD) mu1 (.ref p) H' ((E1.trans E2).frz hn (none_back (E1.dm p) h0)) (C2.frz ho hn (C1.not_al h0) (ok.frzN dd ho)) (rep _ (ex_upd hn) upd_same) q'
theorem gf_call {S : FS} {te : TA} {ta : DA} {E0 : XK} (g : GA te ta) : GF (tCall (spOf S) [] E0 te) (fCall S ta) := fun F al rho mu σ H Q R St q l =>
  g F al rho mu σ H _ _ St q fun F1 al1 xs mu1 vs H1 E1 C1 r1 q1 => by
    show spOf S (vs ++ []) H1 R E0
    rw [List.append_nil]
    refine ⟨F1, [], xs, [], _, Cels.empt C1.ex C1.nt C1.tb, allD_vs r1 q1.1, q1.2, fun F' mu' rv v H' E' C' rr fr q' => ?_⟩
    obtain ⟨C2, E2⟩ := C1.over E' C'.ex C'.nt C'.tb
    cases rv with
    | dv x => exact q'.elim
    | new m =>
      obtain ⟨p, ev, na, dd, ok⟩ := rr
      have h0 : H1 p = none := fr p ev
      subst ev
      exact l F' al1 m mu1 p H' (E1.trans E2) C2 (C1.not_al h0) (none_back (E1.dm p) h0) dd ok q'
/-- the first argument is a cell that the def may change; the others are data -/
def backR (j : Nat) (mu : Mu) (Q : DQ) : RV → Mu → Prop := fun rv mu' => match mu' with
  | [m'] => match rv with
    | .dv (.dat d) => Q (.dat d) (mu.set j m')
    | .new m => Q (.dat m.toD) (mu.set j m')
    | _ => False
  | _ => False
def backRN (j : Nat) (mu : Mu) (Q : MC → Mu → Prop) : RV → Mu → Prop := fun rv mu' => match mu' with
  | [m'] => match rv with
    | .new m => Q m (mu.set j m')
    | _ => False
  | _ => False
def onCel (xs : List DV) (mu : Mu) (k : Nat → MC → List DV → Prop) : Prop := match xs with
  | .cel j :: r => match mu[j]? with
    | some m => isDead m = false ∧ allD r = true ∧ k j m r
    | none => False
  | _ => False
def dCallR (S : FS) (ta : DA) : DE := fun rho mu Q => ta rho mu fun xs mu1 => onCel xs mu1 fun j m r => S (.cel 0 :: r) [m] (backR j mu1 Q)
def fCallR (S : FS) (ta : DA) : DF := fun rho mu Q => ta rho mu fun xs mu1 => onCel xs mu1 fun j m r => S (.cel 0 :: r) [m] (backRN j mu1 Q)
theorem Cels.one {F H : Hp} {al : List Addr} {mu : Mu} {j : Nat} {a : Addr} {m : MC} (C : Cels F al mu H) (ha : al[j]? = some a) (hm : mu[j]? = some m) : Cels F [a] [m] H :=
  ⟨C.ex, C.nt, C.tb, rfl, by simp, fun k b x h1 h2 => by
    cases k with
    | zero =>
      cases h1
      cases h2
      exact C.cel j a m ha hm
    | succ k => simp at h1⟩
/-- .. that has one of them -/
theorem Cels.over1 {F H F' H' : Hp} {al : List Addr} {mu : Mu} {j : Nat} {a : Addr} {m m' : MC} (C : Cels F al mu H) (ha : al[j]? = some a) (hm : mu[j]? = some m) (E : Ext F [a] H F' [a] H') (C' : Cels F' [a] [m'] H') :
    Cels F' al (mu.set j m') H' ∧ Ext F al H F' al H' := by
  have ma : a ∈ al := List.mem_of_getElem? ha
  have nf : ∀ b, b ≠ a → H b ≠ none → F b = none → F' b = none := fun b hb h1 h2 => by
    cases q : F' b with
    | none => rfl
    | some u =>
      rcases E.nf b (by rw [q]; exact fun z => nomatch z) with w | w | w
      · exact absurd h2 w
      · exact absurd w h1
      · rw [List.mem_singleton] at w
        exact absurd w hb
  refine ⟨⟨C'.ex, C'.nt, C'.tb, by rw [List.length_set]; exact C.len, C.nd, fun k b x h1 h2 => ?_⟩, ⟨E.ex, List.prefix_refl _, fun b h => ?_, fun b h => .inl h, fun b o hb h => E.kp b o (fun z => hb (by rw [List.mem_singleton] at z; rw [z]; exact ma)) h, E.dm⟩⟩
  · by_cases hj : k = j
    · subst hj
      rw [ha] at h1
      cases h1
      rw [List.getElem?_set_self (List.getElem?_eq_some_iff.mp hm).1] at h2
      cases h2
      exact C'.cel 0 a m' rfl rfl
    · have hb : b ≠ a := fun z => by
        subst z
        have e1 := List.getElem?_eq_some_iff.mp h1
        have e2 := List.getElem?_eq_some_iff.mp ha
        exact hj ((List.getElem_inj C.nd).mp (e1.2.trans e2.2.symm))
      rw [List.getElem?_set_ne (fun z => hj z.symm)] at h2
      have ok := C.cel k b x h1 h2
      exact ok.keep E.ex (nf b hb ok.there) (fun u q nt => E.kp b u (fun z => hb (by rw [List.mem_singleton] at z; exact z)) q nt) (E.dm b)
  · rcases E.nf b h with w | w | w
    · exact .inl w
    · exact .inr (.inl w)
    · rw [List.mem_singleton] at w
      exact .inr (.inr (w ▸ ma))
theorem onCel_out {F H : Hp} {al : List Addr} {mu : Mu} {xs : List DV} {vs : List V} {k : Nat → MC → List DV → Prop} (C : Cels F al mu H) (r : RepVs F al xs vs) (h : onCel xs mu k) :
    ∃ j a m r, al[j]? = some a ∧ mu[j]? = some m ∧ RepVs F [a] (.cel 0 :: r) vs ∧ k j m r := by
  cases r with
  | nil => exact h.elim
  | cons h0 t =>
    rename_i x v xs' vs'
    cases x with
    | dat d => exact h.elim
    | cel j =>
      obtain ⟨a, ha, e⟩ := h0
      have h' : (match mu[j]? with
        | some m => isDead m = false ∧ allD xs' = true ∧ k j m xs'
        | none => False) := h
      cases q : mu[j]? with
      | none =>
        rw [q] at h'
        exact h'.elim
      | some m =>
        rw [q] at h'
        refine ⟨j, a, m, xs', ha, q, .cons ⟨a, rfl, e⟩ ?_, h'.2.2⟩
        have w := allD_vs t h'.2.1
        exact w.mono (Ex.refl F) ⟨[a], rfl⟩
theorem ge_callR {S : FS} {te : TA} {ta : DA} {E0 : XK} (g : GA te ta) : GE (tCall (spOf S) [] E0 te) (dCallR S ta) := fun F al rho mu σ H Q R St q l =>
  g F al rho mu σ H _ _ St q fun F1 al1 xs mu1 vs H1 E1 C1 r1 q1 => by
    show spOf S (vs ++ []) H1 R E0
    rw [List.append_nil]
    obtain ⟨j, a, m, r, ha, hm, rs, q2⟩ := onCel_out C1 r1 q1
    refine ⟨F1, [a], .cel 0 :: r, [m], _, C1.one ha hm, rs, q2, fun F' mu' rv v H' E' C' rr fr q' => ?_⟩
    cases mu' with
    | nil => exact q'.elim
    | cons m' t =>
      cases t with
      | cons _ _ => exact q'.elim
      | nil =>
        obtain ⟨C2, E2⟩ := C1.over1 ha hm E' C'
        cases rv with
        | dv x =>
          cases x with
          | cel k => exact q'.elim
          | dat d => exact l F' al1 (.dat d) _ v H' (E1.trans E2) C2 rr q'
        | new m2 =>
          obtain ⟨p, ev, na, dd, ok⟩ := rr
          obtain ⟨o, ho, rep⟩ := ok.frz dd
          have h0 : H1 p = none := fr p ev
          have hn := ok.un dd
          subst ev
          exact l _ al1 (.dat m2.toD) _ (.ref p) H' ((E1.trans E2).frz hn (none_back (E1.dm p) h0)) (C2.frz ho hn (C1.not_al h0) (ok.frzN dd ho)) (rep _ (ex_upd hn) upd_same) q'
theorem gf_callR {S : FS} {te : TA} {ta : DA} {E0 : XK} (g : GA te ta) : GF (tCall (spOf S) [] E0 te) (fCallR S ta) := fun F al rho mu σ H Q R St q l =>
  g F al rho mu σ H _ _ St q fun F1 al1 xs mu1 vs H1 E1 C1 r1 q1 => by
    show spOf S (vs ++ []) H1 R E0
    rw [List.append_nil]
    obtain ⟨j, a, m, r, ha, hm, rs, q2⟩ := onCel_out C1 r1 q1
    refine ⟨F1, [a], .cel 0 :: r, [m], _, C1.one ha hm, rs, q2, fun F' mu' rv v H' E' C' rr fr q' => ?_⟩
    cases mu' with
    | nil => exact q'.elim
    | cons m' t =>
      cases t with
      | cons _ _ => exact q'.elim
      | nil =>
        obtain ⟨C2, E2⟩ := C1.over1 ha hm E' C'
        cases rv with
        | dv x => exact q'.elim
        | new m2 =>
          obtain ⟨p, ev, na, dd, ok⟩ := rr
          have h0 : H1 p = none := fr p ev
          subst ev
          exact l F' al1 m2 _ p H' (E1.trans E2) C2 (C1.not_al h0) (none_back (E1.dm p) h0) dd ok q'
section
variable {X : Cx} {e : Expr} {es : List Expr} {pos p : Pos} {x : Str} {f : Addr} {fd : FuncData} {ps : List Str} {k : Nat} {S : FS} {tr : DA}
theorem ce_call (G : FnOk X.prog X.w X.K X.mg X.base CX0 k f fd ps (spOf S)) (hr : Room k X.A) (hm : X.mg x = some (.ref f)) (hk : PySem.W.keepIn X.K (.ref f) = true) (hb : Binds X.K fd ps []) (ha : CA X (e :: es) tr) (hg : Gl X x := by rfl)
    (hdb : (x == ("__debug__" : Str)) = false := by decide) (he : starEach (e :: es) X.env = (false, eval e X.env) :: starEach es X.env := by rfl) (hpl : (backTo pos (starEach es X.env)).any (·.1) = false := by rfl) :
    CE X (.Call (.Name x p) (e :: es) [] pos) (dCall S tr) := by
  obtain ⟨_, pa, ga⟩ := ha.ok
  exact ⟨_, pe_call (E := E0) G hr hg hm hk hb .nil pass0 pa hdb he hpl, ge_call ga⟩
theorem cf_call (G : FnOk X.prog X.w X.K X.mg X.base CX0 k f fd ps (spOf S)) (hr : Room k X.A) (hm : X.mg x = some (.ref f)) (hk : PySem.W.keepIn X.K (.ref f) = true) (hb : Binds X.K fd ps []) (ha : CA X (e :: es) tr) (hg : Gl X x := by rfl)
    (hdb : (x == ("__debug__" : Str)) = false := by decide) (he : starEach (e :: es) X.env = (false, eval e X.env) :: starEach es X.env := by rfl) (hpl : (backTo pos (starEach es X.env)).any (·.1) = false := by rfl) :
    CF X (.Call (.Name x p) (e :: es) [] pos) (fCall S tr) := by
  obtain ⟨_, pa, ga⟩ := ha.ok
  exact ⟨_, pe_call (E := E0) G hr hg hm hk hb .nil pass0 pa hdb he hpl, gf_call ga⟩
theorem ce_callR (G : FnOk X.prog X.w X.K X.mg X.base CX0 k f fd ps (spOf S)) (hr : Room k X.A) (hm : X.mg x = some (.ref f)) (hk : PySem.W.keepIn X.K (.ref f) = true) (hb : Binds X.K fd ps []) (ha : CA X (e :: es) tr) (hg : Gl X x := by rfl)
    (hdb : (x == ("__debug__" : Str)) = false := by decide) (he : starEach (e :: es) X.env = (false, eval e X.env) :: starEach es X.env := by rfl) (hpl : (backTo pos (starEach es X.env)).any (·.1) = false := by rfl) :
    CE X (.Call (.Name x p) (e :: es) [] pos) (dCallR S tr) := by
  obtain ⟨_, pa, ga⟩ := ha.ok
  exact ⟨_, pe_call (E := E0) G hr hg hm hk hb .nil pass0 pa hdb he hpl, ge_callR ga⟩
theorem cf_callR (G : FnOk X.prog X.w X.K X.mg X.base CX0 k f fd ps (spOf S)) (hr : Room k X.A) (hm : X.mg x = some (.ref f)) (hk : PySem.W.keepIn X.K (.ref f) = true) (hb : Binds X.K fd ps []) (ha : CA X (e :: es) tr) (hg : Gl X x := by rfl)
    (hdb : (x == ("__debug__" : Str)) = false := by decide) (he : starEach (e :: es) X.env = (false, eval e X.env) :: starEach es X.env := by rfl) (hpl : (backTo pos (starEach es X.env)).any (·.1) = false := by rfl) :
    CF X (.Call (.Name x p) (e :: es) [] pos) (fCallR S tr) := by
  obtain ⟨_, pa, ga⟩ := ha.ok
  exact ⟨_, pe_call (E := E0) G hr hg hm hk hb .nil pass0 pa hdb he hpl, gf_callR ga⟩
end
end Dx

namespace Dx
open PySem PySem.Spec PyProof.Rows L2
open Evl (Ex)
variable [Tb]

/-! ### slots are stored -/
def setD : Rho → Nat → DV → Rho
  | [], _, _ => []
  | _ :: r, 0, x => some x :: r
  | y :: r, n + 1, x => y :: setD r n x
theorem setD_eq : ∀ (rho : Rho) (i : Nat) (x : DV), setD rho i x = rho.set i (some x)
  | [], _, _ => rfl
  | _ :: r, 0, x => rfl
  | y :: r, n + 1, x => by
    rw [setD, List.set_cons_succ, setD_eq r n x]
theorem Sim.set {F : Hp} {al : List Addr} {rho : Rho} {mu : Mu} {σ : L2.St} {H : Hp} {x : DV} {v : V} (S : Sim F al rho mu σ H) (i : Nat) (r : RepV F al x v) : Sim F al (setD rho i x) mu (σ.set i (some v)) H where
  toCels := S.toCels
  slen := by rw [setD_eq, List.length_set, List.length_set]; exact S.slen
  slot := fun j y h => by
    rw [setD_eq] at h
    by_cases hj : j = i
    · subst hj
      by_cases hl : j < rho.length
      · rw [List.getElem?_set_self hl] at h
        cases h
        exact ⟨v, by rw [List.getElem?_set_self (by rw [← S.slen]; exact hl)], r⟩
      · rw [List.getElem?_eq_none (by rw [List.length_set]; omega)] at h
        cases h
    · rw [List.getElem?_set_ne (fun z => hj z.symm)] at h
      obtain ⟨w, q1, q2⟩ := S.slot j y h
      exact ⟨w, by rw [List.getElem?_set_ne (fun z => hj z.symm)]; exact q1, q2⟩

/-! ### statements -/
structure DEnds where
  nx : Rho → Mu → Prop
  rt : RV → Mu → Prop
  bk : Rho → Mu → Prop := fun _ _ => False
  ct : Rho → Mu → Prop := fun _ _ => False
abbrev DS := DEnds → Rho → Mu → Prop
structure LS (F : Hp) (al : List Addr) (H : Hp) (D : DEnds) (E : Ends) : Prop where
  nx : ∀ F' al' rho' mu' σ' H', Ext F al H F' al' H' → Sim F' al' rho' mu' σ' H' → D.nx rho' mu' → E.nx σ' H'
  rt : ∀ F' al' mu' rv v H', Ext F al H F' al' H' → Cels F' al' mu' H' → RetV F' al' H' rv v → Fresh H rv v → D.rt rv mu' → E.rt v H'
  bk : ∀ F' al' rho' mu' σ' H', Ext F al H F' al' H' → Sim F' al' rho' mu' σ' H' → D.bk rho' mu' → E.bk σ' H'
  ct : ∀ F' al' rho' mu' σ' H', Ext F al H F' al' H' → Sim F' al' rho' mu' σ' H' → D.ct rho' mu' → E.ct σ' H'
theorem Fresh.back {H H1 : Hp} {rv : RV} {v : V} (h : Fresh H1 rv v) (d : ∀ a, H a ≠ none → H1 a ≠ none) : Fresh H rv v := by
  cases rv with
  | dv x => trivial
  | new m => exact fun p e => none_back (d p) (h p e)
theorem LS.trans {F F1 : Hp} {al al1 : List Addr} {H H1 : Hp} {D : DEnds} {E : Ends} (l : LS F al H D E) (e : Ext F al H F1 al1 H1) : LS F1 al1 H1 D E where
  nx := fun F' al' rho' mu' σ' H' e' => l.nx F' al' rho' mu' σ' H' (e.trans e')
  rt := fun F' al' mu' rv v H' e' C r f => l.rt F' al' mu' rv v H' (e.trans e') C r (f.back e.dm)
  bk := fun F' al' rho' mu' σ' H' e' => l.bk F' al' rho' mu' σ' H' (e.trans e')
  ct := fun F' al' rho' mu' σ' H' e' => l.ct F' al' rho' mu' σ' H' (e.trans e')
def GS (ts : TS) (t : DS) : Prop := ∀ F al rho mu σ H D E, Sim F al rho mu σ H → t D rho mu → LS F al H D E → ts E σ H
structure CS (X : Cx) (st : Stmt) (t : DS) : Prop where
  ok : ∃ ts, PS X st ts ∧ GS ts t
structure CSs (X : Cx) (st : List Stmt) (t : DS) : Prop where
  ok : ∃ ts, PSs X st ts ∧ GS ts t
def dNext : DS := fun D rho mu => D.nx rho mu
def dSeq (t u : DS) : DS := fun D rho mu => t { D with nx := u D } rho mu
section
variable {X : Cx} {st : Stmt} {rest : List Stmt} {t u : DS} {e a b : Expr} {te ta tb : DE} {pos pos' : Pos} {i : Nat} {x : Str}
theorem css_nil : CSs X [] dNext := ⟨_, pss_nil, fun F al rho mu σ H D E S q l => l.nx F al rho mu σ H Ext.refl S q⟩
theorem gs_seq {ts us : TS} (g1 : GS ts t) (g2 : GS us u) : GS (tSeq ts us) (dSeq t u) := fun F al rho mu σ H D E S q l =>
  g1 F al rho mu σ H _ _ S q ⟨fun F1 al1 rho1 mu1 σ1 H1 e1 S1 q1 => g2 F1 al1 rho1 mu1 σ1 H1 D E S1 q1 (l.trans e1), l.rt, l.bk, l.ct⟩
theorem css_cons (h1 : CS X st t) (h2 : CSs X rest u) : CSs X (st :: rest) (dSeq t u) := let ⟨_, p, g⟩ := h1.ok; let ⟨_, p2, g2⟩ := h2.ok; ⟨_, pss_cons p p2, gs_seq g g2⟩
theorem css_one (h1 : CS X st t) : CSs X [st] t := let ⟨_, p, g⟩ := h1.ok; ⟨_, pss_one p, g⟩
theorem css_doc {j p1 p2} {s : Str} (h2 : CSs X rest u) : CSs X (.Expr (.Constant (.str s) j p1) p2 :: rest) u := by
  obtain ⟨_, p, g⟩ := h2.ok
  exact ⟨_, pss_cons ps_doc p, fun F al rho mu σ H D E S q l => g F al rho mu σ H D E S q l⟩
theorem cs_pass : CS X (.Pass pos) dNext := ⟨_, ps_pass, fun F al rho mu σ H D E S q l => l.nx F al rho mu σ H Ext.refl S q⟩
def dBreak : DS := fun D rho mu => D.bk rho mu
def dCont : DS := fun D rho mu => D.ct rho mu
theorem cs_break : CS X (.Break pos) dBreak := ⟨_, ps_break, fun F al rho mu σ H D E S q l => l.bk F al rho mu σ H Ext.refl S q⟩
theorem cs_continue : CS X (.Continue pos) dCont := ⟨_, ps_continue, fun F al rho mu σ H D E S q l => l.ct F al rho mu σ H Ext.refl S q⟩
def dNever : DS := fun _ _ _ => False
theorem cs_never : CS X st dNever := ⟨_, ps_never, fun F al rho mu σ H D E S q l => q.elim⟩
def dDrop (te : DE) : DS := fun D rho mu => te rho mu fun _ mu1 => D.nx rho mu1
theorem cs_expr (he : CE X e te) (hs : swapsWith e none pos.line X.env = pure false := by rfl) : CS X (.Expr e pos) (dDrop te) := by
  obtain ⟨_, p, g⟩ := he.ok
  exact ⟨_, ps_expr p hs, fun F al rho mu σ H D E S q l => g F al rho mu σ H _ _ S q fun F1 al1 x mu1 v H1 e1 C1 r1 q1 => l.nx F1 al1 rho mu1 σ H1 e1 (S.of C1 e1.ex e1.pf) q1⟩
def dRet (te : DE) : DS := fun D rho mu => te rho mu fun x mu1 => D.rt (.dv x) mu1
theorem cs_ret (he : CE X e te) : CS X (.Return (some e) pos) (dRet te) := by
  obtain ⟨_, p, g⟩ := he.ok
  exact ⟨_, ps_ret p, fun F al rho mu σ H D E S q l => g F al rho mu σ H _ _ S q fun F1 al1 x mu1 v H1 e1 C1 r1 q1 => l.rt F1 al1 mu1 (.dv x) v H1 e1 C1 r1 trivial q1⟩
def dRetF (te : DF) : DS := fun D rho mu => te rho mu fun m mu1 => D.rt (.new m) mu1
theorem cs_retF {te : DF} (he : CF X e te) : CS X (.Return (some e) pos) (dRetF te) := by
  obtain ⟨_, p, g⟩ := he.ok
  exact ⟨_, ps_ret p, fun F al rho mu σ H D E S q l => g F al rho mu σ H _ _ S q fun F1 al1 m mu1 p H1 e1 C1 na h0 dd ok q1 => l.rt F1 al1 mu1 (.new m) (.ref p) H1 e1 C1 ⟨p, rfl, na, dd, ok⟩ (fun p' ev => by cases ev; exact h0) q1⟩
def dRetN : DS := fun D rho mu => D.rt (.dv (.dat .non)) mu
theorem cs_retN : CS X (.Return none pos) dRetN := ⟨_, ps_retN, fun F al rho mu σ H D E S q l => l.rt F al mu (.dv (.dat .non)) .non H Ext.refl S.toCels (rv_non (F := F) (al := al)) trivial q⟩
def dIf (c : DT) (t u : DS) : DS := fun D rho mu => c rho mu fun b mu1 => if b = true then t D rho mu1 else u D rho mu1
theorem cs_if {c : Expr} {as bs : List Stmt} {tc : DT} (hc : CT X c tc) (ha : CSs X as t) (hb : CSs X bs u) : CS X (.If c as bs pos) (dIf tc t u) := by
  obtain ⟨_, p, g⟩ := hc.ok
  obtain ⟨_, pa, ga⟩ := ha.ok
  obtain ⟨_, pb, gb⟩ := hb.ok
  refine ⟨_, ps_if p pa pb, fun F al rho mu σ H D E S q l => g F al rho mu σ H _ _ S q fun F1 al1 c mu1 H1 e1 C1 q1 => ?_⟩
  cases c with
  | true => exact ga F1 al1 rho mu1 σ H1 D E (S.of C1 e1.ex e1.pf) q1 (l.trans e1)
  | false => exact gb F1 al1 rho mu1 σ H1 D E (S.of C1 e1.ex e1.pf) q1 (l.trans e1)
def dSet (i : Nat) (te : DE) : DS := fun D rho mu => te rho mu fun x mu1 => D.nx (setD rho i x) mu1
theorem cs_set (i : Nat) (hN : X.N.Nodup) (he : CE X e te) (hi : X.N[i]? = some x := by rfl) (hx : Loc X.env.scope x := by first | exact Or.inl rfl | exact Or.inr rfl) (hs : swapsWith e (some (.Name x pos')) pos.line X.env = pure false := by rfl) (hf : X.fn x = true ∨ X.env.scope.names.lookup x = some .local := by first | exact .inl rfl | exact .inr rfl | assumption) :
    CS X (.Assign [.Name x pos'] e pos) (dSet i te) := by
  obtain ⟨_, p, g⟩ := he.ok
  exact ⟨_, ps_set hN hi hx p hs hf, fun F al rho mu σ H D E S q l => g F al rho mu σ H _ _ S q fun F1 al1 y mu1 v H1 e1 C1 r1 q1 => l.nx F1 al1 _ mu1 _ H1 e1 ((S.of C1 e1.ex e1.pf).set i r1) q1⟩
/-- name op= e, ints or texts -/
structure IpD (X : Cx) (op : Operator) (t : D2) : Prop where
  ok : ∃ r, PIp X op r ∧ ∀ F al mu H x y v u Q R, Cels F al mu H → RepV F al x v → RepV F al y u → t x y mu Q → LK F al H Q R → r v u H R
def dAug (i : Nat) (t : D2) (te : DE) : DS := fun D rho mu => match slotD rho i with
  | some x => te rho mu fun y mu1 => t x y mu1 fun z mu2 => D.nx (setD rho i z) mu2
  | none => False
theorem cs_aug {op : Operator} {tp : D2} (i : Nat) (hN : X.N.Nodup) (hp : IpD X op tp) (he : CE X e te) (hi : X.N[i]? = some x := by rfl) (hx : Loc X.env.scope x := by first | exact Or.inl rfl | exact Or.inr rfl) (hf : X.fn x = true ∨ X.env.scope.names.lookup x = some .local := by first | exact .inl rfl | exact .inr rfl | assumption) :
    CS X (.AugAssign (.Name x pos') op e pos) (dAug i tp te) := by
  obtain ⟨_, p, g⟩ := he.ok
  obtain ⟨r, pr, gr⟩ := hp.ok
  refine ⟨_, ps_aug hN hi hx p pr hf, fun F al rho mu σ H D E S q l => ?_⟩
  unfold dAug at q
  cases hs : slotD rho i with
  | none =>
    rw [hs] at q
    exact q.elim
  | some y =>
    rw [hs] at q
    obtain ⟨v, ev, rv⟩ := S.slot i y (slotD_at hs)
    refine ⟨v, ev, g F al rho mu σ H _ _ S q fun F1 al1 z mu1 w H1 e1 C1 r1 q1 => ?_⟩
    refine gr F1 al1 mu1 H1 y z v w _ _ C1 (rv.mono e1.ex e1.pf) r1 q1 fun F2 al2 o mu2 k H2 e2 C2 r2 q2 => ?_
    exact l.nx F2 al2 _ mu2 _ H2 (e1.trans e2) ((S.of C2 (e1.ex.trans e2.ex) (e1.pf.trans e2.pf)).set i r2) q2
theorem ipAdd : IpD X .Add (dI2 fun i j => .int (i + j)) := ⟨_, ip_add, fun F al mu H x y v u Q R c rx ry q l => by
  obtain ⟨i, e1, e2, q⟩ := onI_out q rx
  obtain ⟨j, e3, e4, q⟩ := onI_out q ry
  exact ⟨i, j, e2, e4, l F al _ mu _ H Ext.refl c rv_int q⟩⟩
theorem ipSub : IpD X .Sub (dI2 fun i j => .int (i - j)) := ⟨_, ip_sub, fun F al mu H x y v u Q R c rx ry q l => by
  obtain ⟨i, e1, e2, q⟩ := onI_out q rx
  obtain ⟨j, e3, e4, q⟩ := onI_out q ry
  exact ⟨i, j, e2, e4, l F al _ mu _ H Ext.refl c rv_int q⟩⟩
/-- xs[i] = e, xs a cell's list -/
def dPutL (to ti te : DE) : DS := fun D rho mu => te rho mu fun y mu1 => to rho mu1 fun o mu2 => ti rho mu2 fun z mu3 => onD y fun d => onI z fun k => onLst o mu3 fun j ds => onSome (L2.ixN ds.length k) fun n => D.nx rho (mu3.set j (.lst (ds.set n d)))
theorem cs_putL {o i' : Expr} {to ti : DE} (he : CE X e te) (ho : CE X o to) (hi : CE X i' ti) (hs : swapsWithSole [.Subscript o i' pos'] e pos.line X.env = pure false := by rfl) (hw : swappedStores [.Subscript o i' pos'] e X.env = pure none := by rfl)
    (h1 : (assignEach [.Subscript o i' pos'] X.env).map (·.2) = [assign (.Subscript o i' pos') X.env] := by rfl)
    (ha : ∀ v, assign (.Subscript o i' pos') X.env v = (do
      let ov ← holding [v] (eval o X.env)
      let iv ← holding [v, ov] (eval i' X.env)
      standAt pos'
      holding [v, ov, iv] (setItem ov iv v)
      release [v, ov, iv] []) := by intro _; rfl) : CS X (.Assign [.Subscript o i' pos'] e pos) (dPutL to ti te) := by
  obtain ⟨_, p, g⟩ := he.ok
  obtain ⟨_, po, go⟩ := ho.ok
  obtain ⟨_, pi, gi⟩ := hi.ok
  refine ⟨_, ps_asg p (pg_sub po pi set_list ha) hs hw h1, fun F al rho mu σ H D E S q l => g F al rho mu σ H _ _ S q fun F1 al1 y mu1 v H1 e1 C1 r1 q1 => ?_⟩
  refine go F1 al1 rho mu1 σ H1 _ _ (S.of C1 e1.ex e1.pf) q1 fun F2 al2 o mu2 w H2 e2 C2 r2 q2 => ?_
  refine gi F2 al2 rho mu2 σ H2 _ _ (S.of C2 (e1.ex.trans e2.ex) (e1.pf.trans e2.pf)) q2 fun F3 al3 z mu3 k H3 e3 C3 r3 q3 => ?_
  obtain ⟨d, ey, q4⟩ := onD_out q3
  obtain ⟨n, ez, ek, q5⟩ := onI_out q4 r3
  obtain ⟨j, a, ds, us, ew, ha, hm, hn, hp, rl, q6⟩ := onLst_out C3 (r2.mono e3.ex e3.pf) q5
  obtain ⟨m, em, q7⟩ := onSome_out q6
  subst ey
  have rd : Rep F3 d v := (r1.mono e2.ex e2.pf).mono e3.ex e3.pf
  obtain ⟨c2, e4⟩ := C3.put (m' := .lst (ds.set m d)) (o := .lst (us.set m v)) ha hm rfl ⟨hn, _, upd_same, rl.setI rd m⟩
  have ee := ((e1.trans e2).trans e3).trans e4
  exact ⟨a, us, n, m, ew, ek, hp, by rw [rl.len]; exact em, l.nx F3 al3 rho _ σ _ ee (S.of c2 ee.ex ee.pf) q7⟩

/-! ### targets -/
abbrev DG := D → Rho → (Rho → Prop) → Prop
def Only (ws : List Nat) (σ σ' : L2.St) : Prop := ∀ vs : List Nat, (∀ w ∈ ws, w ∈ vs) → wipe σ' vs = wipe σ vs
theorem Only.set {ws : List Nat} {σ : L2.St} {i : Nat} {v : Option V} (h : i ∈ ws) : Only ws σ (σ.set i v) := fun vs hv => by
  have hi := hv i h
  clear hv h
  have key : ∀ vs : List Nat, wipe (σ.set i v) vs = (wipe σ vs).set i (if i ∈ vs then none else v) := by
    intro vs
    induction vs with
    | nil =>
      rw [if_neg (by simp)]
      rfl
    | cons w r ih =>
      show (wipe (σ.set i v) r).set w none = ((wipe σ r).set w none).set i _
      rw [ih]
      by_cases c : i = w
      · subst c
        rw [if_pos (List.mem_cons_self), List.set_set, List.set_set]
      · rw [List.set_comm _ _ (fun z => c z)]
        by_cases d : i ∈ r
        · rw [if_pos d, if_pos (by simp [d])]
        · rw [if_neg d, if_neg (by simp [c, d])]
  rw [key, if_pos hi]
  have none_at : ∀ vs : List Nat, i ∈ vs → (wipe σ vs).set i none = wipe σ vs := by
    intro vs
    induction vs with
    | nil => intro h; simp at h
    | cons w r ih =>
      intro h
      show ((wipe σ r).set w none).set i none = (wipe σ r).set w none
      by_cases c : i = w
      · subst c
        rw [List.set_set]
      · rw [List.set_comm _ _ (fun z => c z.symm), ih (by simpa [c] using h)]
  exact none_at vs hi
theorem Only.trans {ws : List Nat} {σ σ1 σ2 : L2.St} (a : Only ws σ σ1) (b : Only ws σ1 σ2) : Only ws σ σ2 := fun vs h => (b vs h).trans (a vs h)
structure CG (X : Cx) (tg : Expr) (t : DG) (ws : List Nat) : Prop where
  ok : ∃ g, PG X tg g ∧ ∀ F al rho mu σ H d v Q R, Sim F al rho mu σ H → Rep F d v → t d rho Q → (∀ rho' σ', Sim F al rho' mu σ' H → Only ws σ σ' → Q rho' → R σ' H) → g v σ H R
abbrev DGs := List D → Rho → (Rho → Prop) → Prop
structure CGs (X : Cx) (ts : List Expr) (t : DGs) (ws : List Nat) : Prop where
  ok : ∃ g, PGs X ts g ∧ ∀ F al rho mu σ H ds vs Q R, Sim F al rho mu σ H → RepL F ds vs → t ds rho Q → (∀ rho' σ', Sim F al rho' mu σ' H → Only ws σ σ' → Q rho' → R σ' H) → g vs σ H R
theorem Only.mono {ws ws' : List Nat} {σ σ' : L2.St} (h : Only ws σ σ') (k : ∀ w ∈ ws, w ∈ ws') : Only ws' σ σ' := fun vs hv => h vs fun w hw => hv w (k w hw)
theorem Only.refl {ws : List Nat} {σ : L2.St} : Only ws σ σ := fun _ _ => rfl
def dgN (i : Nat) : DG := fun d rho Q => Q (setD rho i (.dat d))
theorem cg_name (i : Nat) (hN : X.N.Nodup) (hi : X.N[i]? = some x := by rfl) (hx : Loc X.env.scope x := by first | exact Or.inl rfl | exact Or.inr rfl) (hf : X.fn x = true ∨ X.env.scope.names.lookup x = some .local := by first | exact .inl rfl | exact .inr rfl | assumption) : CG X (.Name x pos) (dgN i) [i] :=
  ⟨_, pg_name hN hi hx hf, fun F al rho mu σ H d v Q R S r q l => l _ _ (S.set (x := .dat d) i r) (Only.set (by simp)) q⟩
def dgNil : DGs := fun ds rho Q => match ds with
  | [] => Q rho
  | _ => False
def dgCons (t : DG) (u : DGs) : DGs := fun ds rho Q => match ds with
  | d :: r => t d rho fun rho' => u r rho' Q
  | [] => False
theorem cgs_nil : CGs X [] dgNil [] := ⟨_, pgs_nil, fun F al rho mu σ H ds vs Q R S r q l => by
  cases ds with
  | cons _ _ => exact q.elim
  | nil => exact ⟨r.unnil, l rho σ S Only.refl q⟩⟩
theorem cgs_cons {es : List Expr} {t : DG} {u : DGs} {w1 w2 : List Nat} (h1 : CG X e t w1) (h2 : CGs X es u w2) (hs : (assignEach (e :: es) X.env).map (·.2) = assign e X.env :: (assignEach es X.env).map (·.2) := by rfl) : CGs X (e :: es) (dgCons t u) (w1 ++ w2) := by
  obtain ⟨_, p, g⟩ := h1.ok
  obtain ⟨_, p2, g2⟩ := h2.ok
  refine ⟨_, pgs_cons p p2 hs, fun F al rho mu σ H ds vs Q R S r q l => ?_⟩
  cases ds with
  | nil => exact q.elim
  | cons d ds =>
    obtain ⟨v, w, ev, rd, rl⟩ := r.uncons
    exact ⟨v, w, ev, g F al rho mu σ H d v _ _ S rd q fun rho' σ' S' o1 q' => g2 F al rho' mu σ' H ds w Q R S' rl q' fun rho2 σ2 S2 o2 q2 => l rho2 σ2 S2 ((o1.mono fun w h => List.mem_append_left _ h).trans (o2.mono fun w h => List.mem_append_right _ h)) q2⟩
def dgTup (n : Nat) (t : DGs) : DG := fun d rho Q => match d with
  | .tup ds => ds.length = n ∧ t ds rho Q
  | _ => False
theorem cg_tup {es : List Expr} {k : Nat} {t : DGs} {n : Nat} {ws : List Nat} (hc : X.calm = true) (h : CGs X es t ws) (hn : (assignEach es X.env).length = n := by rfl) (hst : (assignEach es X.env).findIdx? (·.1) = none := by rfl) : CG X (.Tuple es k pos) (dgTup n t) ws := by
  obtain ⟨_, p, g⟩ := h.ok
  refine ⟨_, pg_tup hc p hn hst, fun F al rho mu σ H d v Q R S r q l => ?_⟩
  cases d with
  | tup ds =>
    obtain ⟨p, vs, ev, hp, rl⟩ := rv_tup_out (al := al) r
    exact ⟨p, vs, ev, .inl (.inl (S.ex _ _ hp)), by rw [rl.len]; exact q.1, g F al rho mu σ H ds vs Q R S rl q.2 l⟩
  | _ => exact q.elim
def dAsg (te : DE) (t : DG) : DS := fun D rho mu => te rho mu fun x mu1 => onD x fun d => t d rho fun rho' => D.nx rho' mu1
theorem cs_asg {tg : Expr} {t : DG} {ws : List Nat} (he : CE X e te) (hg : CG X tg t ws) (hs : swapsWithSole [tg] e pos.line X.env = pure false := by rfl) (hw : swappedStores [tg] e X.env = pure none := by rfl)
    (h1 : (assignEach [tg] X.env).map (·.2) = [assign tg X.env] := by rfl) : CS X (.Assign [tg] e pos) (dAsg te t) := by
  obtain ⟨_, p, g⟩ := he.ok
  obtain ⟨_, p2, g2⟩ := hg.ok
  refine ⟨_, ps_asg p p2 hs hw h1, fun F al rho mu σ H D E S q l => g F al rho mu σ H _ _ S q fun F1 al1 y mu1 v H1 e1 C1 r1 q1 => ?_⟩
  obtain ⟨d, ed, q1⟩ := onD_out q1
  subst ed
  exact g2 F1 al1 rho mu1 σ H1 d v _ _ (S.of C1 e1.ex e1.pf) r1 q1 fun rho' σ' S' _ q' => l.nx F1 al1 rho' mu1 σ' H1 e1 S' q'
/-- a, b = e1, e2: two plain local names -/
def dPar (i j : Nat) (ta : DA) : DS := fun D rho mu => ta rho mu fun xs mu1 => on2 xs fun x y => D.nx (setD (setD rho i x) j y) mu1
theorem cs_par {i j : Nat} {y : Str} {tr : DA} {px py pt : Pos} {kt k2 pt2} (hc : X.calm = true) (hN : X.N.Nodup) (ha : CA X [a, b] tr) (hi : X.N[i]? = some x := by rfl) (hj : X.N[j]? = some y := by rfl) (hij : i ≠ j := by decide)
    (hx : X.env.scope.names.lookup x = some .local := by rfl) (hy : X.env.scope.names.lookup y = some .local := by rfl)
    (hw : swappedStores [.Tuple [.Name x px, .Name y py] kt pt] (.Tuple [a, b] k2 pt2) X.env = pure (some [x, y]) := by rfl)
    (hs : swapsWithSole [.Tuple [.Name x px, .Name y py] kt pt] (.Tuple [a, b] k2 pt2) pos.line X.env = pure false := by rfl) :
    CS X (.Assign [.Tuple [.Name x px, .Name y py] kt pt] (.Tuple [a, b] k2 pt2) pos) (dPar i j tr) := by
  obtain ⟨_, p, g⟩ := ha.ok
  refine ⟨_, ps_par hc hN hi hj hij hx hy p hw hs, fun F al rho mu σ H D E S q l => g F al rho mu σ H _ _ S q fun F1 al1 xs mu1 vs H1 e1 C1 r1 q1 => ?_⟩
  obtain ⟨x, y, v, u, ev, rx, ry, q2⟩ := on2_out q1 r1
  exact ⟨v, u, ev, l.nx F1 al1 _ mu1 _ H1 e1 (((S.of C1 e1.ex e1.pf).set i rx).set j ry) q2⟩

/-! ### freezing a cell by its name: it is data from here on -/
def killO (k : Nat) (d : D) : Option DV → Option DV
  | some (.cel j) => match Nat.beq j k with
    | true => some (.dat d)
    | false => some (.cel j)
  | x => x
def killD (k : Nat) (d : D) (r : Rho) : Rho := r.map (killO k d)
theorem killD_len (k : Nat) (d : D) (rho : Rho) : (killD k d rho).length = rho.length := List.length_map _
theorem killD_at {k : Nat} {d : D} {rho : Rho} {i : Nat} {x : DV} (h : (killD k d rho)[i]? = some (some x)) : rho[i]? = some (some x) ∨ (rho[i]? = some (some (.cel k)) ∧ x = .dat d) := by
  unfold killD at h
  rw [List.getElem?_map] at h
  cases hr : rho[i]? with
  | none => rw [hr] at h; cases h
  | some o =>
    rw [hr] at h
    have h := Option.some.inj h
    cases o with
    | none => cases h
    | some y =>
      cases y with
      | dat e => exact .inl (congrArg some h)
      | cel j =>
        have h2 : (match Nat.beq j k with
          | true => some (DV.dat d)
          | false => some (DV.cel j)) = some x := h
        cases c : Nat.beq j k with
        | true =>
          rw [c] at h2
          have c := Nat.eq_of_beq_eq_true c
          subst c
          exact .inr ⟨rfl, (Option.some.inj h2).symm⟩
        | false =>
          rw [c] at h2
          exact .inl (congrArg some h2)
/-- ahead of the rest: slot i's cell becomes data -/
def dFz (i : Nat) (t : DS) : DS := fun D rho mu => match slotD rho i with
  | some (.cel k) => match mu[k]? with
    | some m => isDead m = false ∧ t D (killD k m.toD rho) (mu.set k .dead)
    | none => False
  | _ => False
theorem gs_fz {ts : TS} (i : Nat) (g : GS ts t) : GS ts (dFz i t) := fun F al rho mu σ H D E S q l => by
  unfold dFz at q
  cases hs : slotD rho i with
  | none =>
    rw [hs] at q
    exact q.elim
  | some y =>
    rw [hs] at q
    cases y with
    | dat d => exact q.elim
    | cel k =>
      cases hk : mu[k]? with
      | none =>
        simp only [hk] at q
      | some m =>
        simp only [hk] at q
        obtain ⟨live, q⟩ := q
        obtain ⟨v, ev, a, ha, er⟩ := S.slot i _ (slotD_at hs)
        have ok := S.cel k a m ha hk
        obtain ⟨o, ho, rep⟩ := ok.frz live
        have hn := ok.un live
        have ma : a ∈ al := List.mem_of_getElem? ha
        have ex' : Ex F (upd F a o) := ex_upd hn
        have C' : Cels (upd F a o) al (mu.set k .dead) H := ⟨fun b w hb => by
            by_cases c : b = a
            · subst c
              rw [upd_same] at hb
              cases hb
              exact ho
            · rw [upd_ne c] at hb
              exact S.ex b w hb, nt_upd S.nt (ok.frzN live ho), S.tb, by rw [List.length_set]; exact S.len, S.nd, fun j b x h1 h2 => by
            by_cases hj : j = k
            · subst hj
              rw [ha] at h1
              cases h1
              rw [List.getElem?_set_self (List.getElem?_eq_some_iff.mp hk).1] at h2
              cases h2
              exact ok.there
            · have hb : b ≠ a := fun z => by
                subst z
                have e1 := List.getElem?_eq_some_iff.mp h1
                have e2 := List.getElem?_eq_some_iff.mp ha
                exact hj ((List.getElem_inj S.nd).mp (e1.2.trans e2.2.symm))
              rw [List.getElem?_set_ne (fun z => hj z.symm)] at h2
              exact (S.cel j b x h1 h2).mono ex' (fun z => by rw [upd_ne hb]; exact z) rfl⟩
        have E' : Ext F al H (upd F a o) al H := ⟨ex', List.prefix_refl _, fun b hb => by
            by_cases c : b = a
            · subst c
              exact .inr (.inr ma)
            · rw [upd_ne c] at hb
              exact .inl hb, fun b hb => .inl hb, fun b w _ h _ => h, fun b h => h⟩
        refine g (upd F a o) al _ _ σ H D E ⟨C', by rw [killD_len]; exact S.slen, fun j x hx => ?_⟩ q (l.trans E')
        rcases killD_at hx with h | ⟨h, e⟩
        · obtain ⟨w, q1, q2⟩ := S.slot j x h
          exact ⟨w, q1, q2.mono ex' (List.prefix_refl _)⟩
        · obtain ⟨w, q1, a', q2, q3⟩ := S.slot j _ h
          rw [ha] at q2
          cases q2
          subst e
          subst q3
          exact ⟨_, q1, rep _ ex' upd_same⟩
theorem css_fz (i : Nat) (h : CSs X rest u) : CSs X rest (dFz i u) := let ⟨_, p, g⟩ := h.ok; ⟨_, p, gs_fz i g⟩
theorem cs_fz (i : Nat) (h : CS X st u) : CS X st (dFz i u) := let ⟨_, p, g⟩ := h.ok; ⟨_, p, gs_fz i g⟩

/-! ### while -/
def dWhile (c : DT) (tb : DS) : DS := fun D rho mu => ∃ W : Nat → Rho → Mu → Prop, (∃ m, W m rho mu) ∧ ∀ m rho mu, W m rho mu →
  c rho mu fun b mu1 => if b = true then tb { D with nx := fun r u => ∃ m', m' < m ∧ W m' r u, ct := fun r u => ∃ m', m' < m ∧ W m' r u, bk := D.nx } rho mu1 else D.nx rho mu1
theorem cs_while {c : Expr} {body : List Stmt} {tc : DT} {tb : DS} (hp : PassesOwn (model X.prog X.w) X.A X.env X.xe) (hc : CT X c tc) (hb : CSs X body tb) : CS X (.While c body [] pos) (dWhile tc tb) := by
  obtain ⟨_, p, g⟩ := hc.ok
  obtain ⟨_, pb, gb⟩ := hb.ok
  refine ⟨_, ps_while hp p pb, fun F al rho mu σ H D E S q l => ?_⟩
  obtain ⟨W, ⟨m0, w0⟩, turn⟩ := q
  refine ⟨fun m σ' H' => ∃ F' al' rho' mu', Ext F al H F' al' H' ∧ Sim F' al' rho' mu' σ' H' ∧ W m rho' mu', ⟨m0, F, al, rho, mu, Ext.refl, S, w0⟩, ?_⟩
  rintro m σ1 H1 ⟨F1, al1, rho1, mu1, e1, S1, w1⟩
  refine g F1 al1 rho1 mu1 σ1 H1 _ _ S1 (turn m rho1 mu1 w1) fun F2 al2 b mu2 H2 e2 C2 q2 => ?_
  have S2 := S1.of C2 e2.ex e2.pf
  cases b with
  | false => exact l.nx F2 al2 rho1 mu2 σ1 H2 (e1.trans e2) S2 q2
  | true =>
    refine ⟨fun σ' H' => ∃ m', m' < m ∧ ∃ F' al' rho' mu', Ext F al H F' al' H' ∧ Sim F' al' rho' mu' σ' H' ∧ W m' rho' mu', fun σ' H' h => h, ?_⟩
    refine gb F2 al2 rho1 mu2 σ1 H2 _ _ S2 q2 ⟨fun F3 al3 rho3 mu3 σ3 H3 e3 S3 q3 => ?_, (l.trans (e1.trans e2)).rt, fun F3 al3 rho3 mu3 σ3 H3 e3 S3 q3 => (l.trans (e1.trans e2)).nx F3 al3 rho3 mu3 σ3 H3 e3 S3 q3, fun F3 al3 rho3 mu3 σ3 H3 e3 S3 q3 => ?_⟩
    · obtain ⟨m', hm, w3⟩ := q3
      exact ⟨m', hm, F3, al3, rho3, mu3, (e1.trans e2).trans e3, S3, w3⟩
    · obtain ⟨m', hm, w3⟩ := q3
      exact ⟨m', hm, F3, al3, rho3, mu3, (e1.trans e2).trans e3, S3, w3⟩

/-! ### what a loop walks -/
def ItD (F : Hp) (J : It) (ds : List D) : Prop := ∀ F1 al1 mu1 H1, Ex F F1 → Cels F1 al1 mu1 H1 → ∀ i,
  (∀ d, ds[i]? = some d → J.go i H1 ∧ ∀ x H2, J.yld i H1 x H2 → ∃ F2, Ext F1 al1 H1 F2 al1 H2 ∧ Cels F2 al1 mu1 H2 ∧ Rep F2 d x) ∧ (ds.length ≤ i → J.stop i H1)
abbrev DI := Rho → Mu → (List D → Mu → Prop) → Prop
structure CI (X : Cx) (tg iter : Expr) (t : DI) : Prop where
  ok : ∃ wi, PI X tg iter wi ∧ ∀ F al rho mu σ H Q R, Sim F al rho mu σ H → t rho mu Q → (∀ F' al' ds mu' J H', Ext F al H F' al' H' → Cels F' al' mu' H' → ItD F' J ds → Q ds mu' → R J H') → wi σ H R
def dForL (t : DG) (tb : DS) (N : DEnds) : List D → Rho → Mu → Prop
  | [], rho, mu => N.nx rho mu
  | d :: ds, rho, mu => t d rho fun rho' => tb { N with nx := dForL t tb N ds, ct := dForL t tb N ds, bk := N.nx } rho' mu
def dFor (ti : DI) (t : DG) (tb : DS) : DS := fun D rho mu => ti rho mu fun ds mu1 => dForL t tb D ds rho mu1
theorem cs_for {tg iter : Expr} {body : List Stmt} {ti : DI} {t : DG} {tb : DS} {ws : List Nat} (hp : PassesOwn (model X.prog X.w) X.A X.env X.xe) (hc : X.calm = true) (hi : CI X tg iter ti) (hg : CG X tg t ws) (hb : CSs X body tb)
    (hs : ∀ x, foldedSetIterable iter X.env x = pure x := by intro _; rfl) : CS X (.For tg iter body [] pos) (dFor ti t tb) := by
  obtain ⟨_, p, g⟩ := hi.ok
  obtain ⟨_, pg, gg⟩ := hg.ok
  obtain ⟨_, pb, gb⟩ := hb.ok
  refine ⟨_, ps_for hp hc p pg pb hs, fun F al rho mu σ H D E S q l => g F al rho mu σ H _ _ S q fun F1 al1 ds mu1 J H1 e1 C1 it q1 => ?_⟩
  refine ⟨fun i m σ' H' => ∃ F' al' rho' mu', m = ds.length - i ∧ Ext F1 al1 H1 F' al' H' ∧ Sim F' al' rho' mu' σ' H' ∧ dForL t tb D (ds.drop i) rho' mu', ⟨_, F1, al1, rho, mu1, rfl, Ext.refl, S.of C1 e1.ex e1.pf, q1⟩, ?_⟩
  rintro i m σ2 H2 ⟨F2, al2, rho2, mu2, em, e2, S2, q2⟩
  have itw := it F2 al2 mu2 H2 e2.ex S2.toCels i
  by_cases hl : i < ds.length
  · have hd : ds[i]? = some ds[i] := List.getElem?_eq_getElem hl
    have ed : ds.drop i = ds[i] :: ds.drop (i + 1) := List.drop_eq_getElem_cons hl
    obtain ⟨go, yl⟩ := itw.1 _ hd
    refine .inr ⟨go, fun σ' H' => ∃ m', m' < m ∧ ∃ F' al' rho' mu', m' = ds.length - (i + 1) ∧ Ext F1 al1 H1 F' al' H' ∧ Sim F' al' rho' mu' σ' H' ∧ dForL t tb D (ds.drop (i + 1)) rho' mu', fun σ' H' h => h, fun x H3 hy => ?_⟩
    obtain ⟨F3, e3, C3, rx⟩ := yl x H3 hy
    rw [ed] at q2
    have S3 := S2.of C3 e3.ex e3.pf
    refine gg F3 al2 rho2 mu2 σ2 H3 ds[i] x _ _ S3 rx q2 fun rho4 σ4 S4 _ q4 => ?_
    have e13 := e2.trans e3
    have ll := l.trans (e1.trans e13)
    have nxt : ∀ F5 al5 rho5 mu5 σ5 H5, Ext F3 al2 H3 F5 al5 H5 → Sim F5 al5 rho5 mu5 σ5 H5 → dForL t tb D (ds.drop (i + 1)) rho5 mu5 → ∃ m', m' < m ∧ ∃ F' al' rho' mu', m' = ds.length - (i + 1) ∧ Ext F1 al1 H1 F' al' H5 ∧ Sim F' al' rho' mu' σ5 H5 ∧ dForL t tb D (ds.drop (i + 1)) rho' mu' :=
      fun F5 al5 rho5 mu5 σ5 H5 e5 S5 q5 => ⟨_, by omega, F5, al5, rho5, mu5, rfl, e13.trans e5, S5, q5⟩
    exact gb F3 al2 rho4 mu2 σ4 H3 _ _ S4 q4 ⟨nxt, ll.rt, fun F5 al5 rho5 mu5 σ5 H5 e5 S5 q5 => ll.nx F5 al5 rho5 mu5 σ5 H5 e5 S5 q5, nxt⟩
  · refine .inl ⟨itw.2 (by omega), ?_⟩
    rw [List.drop_eq_nil_of_le (by omega)] at q2
    exact l.nx F2 al2 rho2 mu2 σ2 H2 (e1.trans e2) S2 q2
/-- over a list, over a tuple (data) -/
def iDat (te : DE) : DI := fun rho mu Q => te rho mu fun x mu1 => match x with
  | .dat (.lst ds) => Q ds mu1
  | _ => False
def iDatT (te : DE) : DI := fun rho mu Q => te rho mu fun x mu1 => match x with
  | .dat (.tup ds) => Q ds mu1
  | _ => False
theorem itD_list {K : PySem.W.Frag} {F : Hp} {p : Addr} {vs : List V} {ds : List D} (hp : F p = some (.lst vs)) (rl : RepL F ds vs) : ItD F (Itl K p) ds := fun F1 al1 mu1 H1 e C i => by
  have h1 : SqL K H1 p vs := .inl (.inl (C.ex _ _ (e _ _ hp)))
  have rl1 := rl.mono e
  refine ⟨fun d hd => ?_, fun hl => ⟨vs, h1, by rw [rl.len]; exact hl⟩⟩
  obtain ⟨v, hv, rd⟩ := rl1.get hd
  refine ⟨⟨vs, v, h1, hv⟩, fun x H2 y => ?_⟩
  obtain ⟨eH, y⟩ := y
  subst eH
  have := (y vs h1).symm.trans hv
  cases this
  exact ⟨F1, Ext.refl, C, rd⟩
theorem itD_tup {K : PySem.W.Frag} {F : Hp} {p : Addr} {vs : List V} {ds : List D} (hp : F p = some (.tup vs)) (rl : RepL F ds vs) : ItD F (Itt K p) ds := fun F1 al1 mu1 H1 e C i => by
  have h1 : SqT K H1 p vs := .inl (.inl (C.ex _ _ (e _ _ hp)))
  have rl1 := rl.mono e
  refine ⟨fun d hd => ?_, fun hl => ⟨vs, h1, by rw [rl.len]; exact hl⟩⟩
  obtain ⟨v, hv, rd⟩ := rl1.get hd
  refine ⟨⟨vs, v, h1, hv⟩, fun x H2 y => ?_⟩
  obtain ⟨eH, y⟩ := y
  subst eH
  have := (y vs h1).symm.trans hv
  cases this
  exact ⟨F1, Ext.refl, C, rd⟩
variable {tg : Expr}
theorem ci_list (he : CE X e te) : CI X tg e (iDat te) := by
  obtain ⟨_, p, g⟩ := he.ok
  refine ⟨_, pi_list p, fun F al rho mu σ H Q R S q l => g F al rho mu σ H _ _ S q fun F1 al1 x mu1 v H1 e1 C1 r1 q1 => ?_⟩
  cases x with
  | cel k => exact q1.elim
  | dat d =>
    cases d with
    | lst ds =>
      obtain ⟨p, vs, ev, hp, rl⟩ := rv_lst_out r1
      exact ⟨p, ev, ⟨vs, .inl (.inl (C1.ex _ _ hp))⟩, l F1 al1 ds mu1 _ H1 e1 C1 (itD_list hp rl) q1⟩
    | _ => exact q1.elim
theorem ci_tup (he : CE X e te) : CI X tg e (iDatT te) := by
  obtain ⟨_, p, g⟩ := he.ok
  refine ⟨_, pi_tup p, fun F al rho mu σ H Q R S q l => g F al rho mu σ H _ _ S q fun F1 al1 x mu1 v H1 e1 C1 r1 q1 => ?_⟩
  cases x with
  | cel k => exact q1.elim
  | dat d =>
    cases d with
    | tup ds =>
      obtain ⟨p, vs, ev, hp, rl⟩ := rv_tup_out r1
      exact ⟨p, ev, ⟨vs, .inl (.inl (C1.ex _ _ hp))⟩, l F1 al1 ds mu1 _ H1 e1 C1 (itD_tup hp rl) q1⟩
    | _ => exact q1.elim
/-- over a text, sign by sign -/
def iStrD (te : DE) : DI := fun rho mu Q => te rho mu fun x mu1 => onS x fun s => Q (s.map fun c => D.str [c]) mu1
theorem ci_str (he : CE X e te) : CI X tg e (iStrD te) := by
  obtain ⟨_, p, g⟩ := he.ok
  refine ⟨_, pi_str p, fun F al rho mu σ H Q R S q l => g F al rho mu σ H _ _ S q fun F1 al1 x mu1 v H1 e1 C1 r1 q1 => ?_⟩
  obtain ⟨s, ex, ev, q1⟩ := onS_out q1 r1
  refine ⟨mkS s, ev, l F1 al1 _ mu1 _ H1 e1 C1 (fun F2 al2 mu2 H2 e2 C2 i => ?_) q1⟩
  have hsz : (mkS s).cps.size = s.length := mkS_len s
  refine ⟨fun d hd => ?_, fun hl => by rw [List.length_map] at hl; show (mkS s).cps.size ≤ i; omega⟩
  rw [List.getElem?_map] at hd
  cases hc : s[i]? with
  | none =>
    rw [hc] at hd
    cases hd
  | some c =>
    rw [hc] at hd
    have ed : d = D.str [c] := (Option.some.inj hd).symm
    have hi : i < s.length := (List.getElem?_eq_some_iff.mp hc).1
    refine ⟨by show i < (mkS s).cps.size; omega, fun x H3 y => ?_⟩
    obtain ⟨eH, c', hc', ex'⟩ := y
    subst eH
    have e5 : c' = c := by
      have e6 : (mkS s).cps[i]? = s[i]? := by
        show s.toArray[i]? = s[i]?
        simp
      rw [e6, hc] at hc'
      exact (Option.some.inj hc').symm
    subst e5
    subst ed
    subst ex'
    exact ⟨F2, Ext.refl, C2, by rw [Rep]⟩
/-- over ranges -/
def rngD (lo : Int) (n : Nat) : List D := (List.range n).map fun (k : Nat) => D.int (lo + k)
def iRg1 (ta : DA) : DI := fun rho mu Q => ta rho mu fun xs mu1 => on1 xs fun x => onI x fun j => j < 2 ^ 60 ∧ -(2 ^ 60) < j ∧ Q (rngD 0 j.toNat) mu1
def iRg2 (ta : DA) : DI := fun rho mu Q => ta rho mu fun xs mu1 => on2 xs fun x y => onI x fun i => onI y fun j => (-(2 ^ 60) < i ∧ i < 2 ^ 60 ∧ -(2 ^ 60) < j ∧ j < 2 ^ 60) ∧ Q (rngD i (j - i).toNat) mu1
theorem itD_rng {F : Hp} (lo : Int) (n : Nat) : ItD F (Itr lo n) (rngD lo n) := fun F1 al1 mu1 H1 e C i => by
  unfold rngD
  refine ⟨fun d hd => ?_, fun hl => by rw [List.length_map, List.length_range] at hl; exact hl⟩
  rw [List.getElem?_map] at hd
  by_cases hi : i < n
  · rw [List.getElem?_range hi] at hd
    have ed : d = D.int (lo + (i : Nat)) := (Option.some.inj hd).symm
    refine ⟨hi, fun x H2 y => ?_⟩
    obtain ⟨eH, ex⟩ := y
    subst eH
    subst ed
    subst ex
    exact ⟨F1, Ext.refl, C, by rw [Rep]⟩
  · rw [List.getElem?_eq_none (by rw [List.length_range]; omega)] at hd
    cases hd
theorem ci_rg1 {p : Pos} {tr : DA} (hm : X.mg "range" = none) (ha : CA X [a] tr) (hg : Gl X "range" := by rfl) (hs : starEach [a] X.env = [(false, eval a X.env)] := by rfl) : CI X tg (.Call (.Name "range" p) [a] [] pos) (iRg1 tr) := by
  obtain ⟨_, pa, g⟩ := ha.ok
  refine ⟨_, pi_range1 hg hm pa hs, fun F al rho mu σ H Q R S q l => g F al rho mu σ H _ _ S q fun F1 al1 xs mu1 vs H1 e1 C1 r1 q1 => ?_⟩
  obtain ⟨x, v, ev, rx, q1⟩ := on1_out q1 r1
  obtain ⟨j, ex, ej, q2, q3, q1⟩ := onI_out q1 rx
  subst ej
  exact ⟨j, ev, by omega, by omega, l F1 al1 _ mu1 _ H1 e1 C1 (itD_rng 0 j.toNat) q1⟩
theorem ci_rg2 {p : Pos} {tr : DA} (hm : X.mg "range" = none) (ha : CA X [a, b] tr) (hg : Gl X "range" := by rfl) (hs : starEach [a, b] X.env = [(false, eval a X.env), (false, eval b X.env)] := by rfl) (hs2 : starEach [b] X.env = [(false, eval b X.env)] := by rfl) :
    CI X tg (.Call (.Name "range" p) [a, b] [] pos) (iRg2 tr) := by
  obtain ⟨_, pa, g⟩ := ha.ok
  refine ⟨_, pi_range2 hg hm pa hs hs2, fun F al rho mu σ H Q R S q l => g F al rho mu σ H _ _ S q fun F1 al1 xs mu1 vs H1 e1 C1 r1 q1 => ?_⟩
  obtain ⟨x, y, v, u, ev, rx, ry, q1⟩ := on2_out q1 r1
  obtain ⟨i, ex, ei, q1⟩ := onI_out q1 rx
  obtain ⟨j, ey, ej, q2, q1⟩ := onI_out q1 ry
  subst ei
  subst ej
  exact ⟨i, j, ev, ⟨by omega, by omega, by omega, by omega⟩, l F1 al1 _ mu1 _ H1 e1 C1 (itD_rng i (j - i).toNat) q1⟩
/-- over range(i, j, -1), reversed(range(n)) -/
def rngB (hi : Int) (n : Nat) : List D := (List.range n).map fun (k : Nat) => D.int (hi - k)
theorem itD_rngB {F : Hp} (hi : Int) (n : Nat) : ItD F (Itc hi (-1) n) (rngB hi n) := fun F1 al1 mu1 H1 e C i => by
  unfold rngB
  refine ⟨fun d hd => ?_, fun hl => by rw [List.length_map, List.length_range] at hl; exact hl⟩
  rw [List.getElem?_map] at hd
  by_cases h : i < n
  · rw [List.getElem?_range h] at hd
    have ed : d = D.int (hi - (i : Nat)) := (Option.some.inj hd).symm
    refine ⟨h, fun x H2 y => ?_⟩
    obtain ⟨eH, ex⟩ := y
    subst eH
    subst ed
    subst ex
    refine ⟨F1, Ext.refl, C, ?_⟩
    rw [Rep]
    congr 1
    omega
  · rw [List.getElem?_eq_none (by rw [List.length_range]; omega)] at hd
    cases hd
def on3 (xs : List DV) (k : DV → DV → DV → Prop) : Prop := match xs with
  | [x, y, z] => k x y z
  | _ => False
theorem on3_out {F : Hp} {al : List Addr} {xs : List DV} {vs : List V} {k : DV → DV → DV → Prop} (h : on3 xs k) (r : RepVs F al xs vs) : ∃ x y z v u w, vs = [v, u, w] ∧ RepV F al x v ∧ RepV F al y u ∧ RepV F al z w ∧ k x y z := by
  cases r with
  | nil => exact h.elim
  | cons a t =>
    cases t with
    | nil => exact h.elim
    | cons b u =>
      cases u with
      | nil => exact h.elim
      | cons c w =>
        cases w with
        | nil => exact ⟨_, _, _, _, _, _, rfl, a, b, c, h⟩
        | cons d z => exact h.elim
def iRg3 (ta : DA) : DI := fun rho mu Q => ta rho mu fun xs mu1 => on3 xs fun x y z => onI x fun i => onI y fun j => onI z fun c => c = -1 ∧ (-(2 ^ 60) < i ∧ i < 2 ^ 60 ∧ -(2 ^ 60) < j ∧ j < 2 ^ 60) ∧ Q (rngB i (i - j).toNat) mu1
theorem ci_rg3 {c : Expr} {p : Pos} {tr : DA} (hm : X.mg "range" = none) (ha : CA X [a, b, c] tr) (hg : Gl X "range" := by rfl)
    (hs : starEach [a, b, c] X.env = (false, eval a X.env) :: starEach [b, c] X.env := by rfl) (hp : (backTo pos (starEach [b, c] X.env)).any (·.1) = false := by rfl) :
    CI X tg (.Call (.Name "range" p) [a, b, c] [] pos) (iRg3 tr) := by
  obtain ⟨_, pa, g⟩ := ha.ok
  refine ⟨_, pi_range3 hg hm pa hs hp, fun F al rho mu σ H Q R S q l => g F al rho mu σ H _ _ S q fun F1 al1 xs mu1 vs H1 e1 C1 r1 q1 => ?_⟩
  obtain ⟨x, y, z, v, u, w, ev, rx, ry, rz, q1⟩ := on3_out q1 r1
  obtain ⟨i, ex, ei, q1⟩ := onI_out q1 rx
  obtain ⟨j, ey, ej, q1⟩ := onI_out q1 ry
  obtain ⟨k, ez, ek, q0, q2, q1⟩ := onI_out q1 rz
  subst ei
  subst ej
  subst ek
  subst q0
  exact ⟨i, j, -1, _, ev, RgC.neg (by omega) (by omega) (by omega) (by omega), l F1 al1 _ mu1 _ H1 e1 C1 (itD_rngB i (i - j).toNat) q1⟩
end

/-! ### a def -/
/-- the end of a def: what it hands back, its first n cells -/
def retQ (n : Nat) (Q : RV → Mu → Prop) : RV → Mu → Prop := fun rv mu => match rv with
  | .dv (.dat d) => Q (.dv (.dat d)) (mu.take n)
  | .dv (.cel k) => match mu[k]? with
    | some m => n ≤ k ∧ isDead m = false ∧ Q (.new m) (mu.take n)
    | none => False
  | .new m => Q (.new m) (mu.take n)
def startD (N : List Str) (xs : List DV) : Rho := xs.map some ++ List.replicate (N.length - xs.length) none
theorem sim_start {F : Hp} {al : List Addr} {mu : Mu} {H : Hp} {xs : List DV} {vs : List V} {N : List Str} (C : Cels F al mu H) (r : RepVs F al xs vs) : Sim F al (startD N xs) mu (L2.start N vs) H where
  toCels := C
  slen := by
    unfold startD L2.start
    rw [List.length_append, List.length_append, List.length_map, List.length_map, List.length_replicate, List.length_replicate, r.len]
  slot := fun i x h => by
    unfold startD at h
    unfold L2.start
    by_cases hi : i < xs.length
    · rw [List.getElem?_append_left (by rw [List.length_map]; exact hi), List.getElem?_map] at h
      rw [List.getElem?_append_left (by rw [List.length_map, r.len]; exact hi), List.getElem?_map]
      have w : ∀ {xs : List DV} {vs : List V} {i : Nat} {x : DV}, RepVs F al xs vs → xs[i]? = some x → ∃ v, vs[i]? = some v ∧ RepV F al x v := by
        intro xs vs i x r
        induction r generalizing i with
        | nil => intro h; simp at h
        | cons h t ih =>
          intro e
          cases i with
          | zero =>
            simp at e
            subst e
            exact ⟨_, rfl, h⟩
          | succ i => exact ih (by simpa using e)
      cases hx : xs[i]? with
      | none =>
        rw [hx] at h
        cases h
      | some y =>
        rw [hx] at h
        have ey : y = x := Option.some.inj (Option.some.inj h)
        subst ey
        obtain ⟨v, q1, q2⟩ := w r hx
        exact ⟨v, by rw [q1]; rfl, q2⟩
    · rw [List.getElem?_append_right (by rw [List.length_map]; omega)] at h
      have := List.mem_of_getElem? h
      rw [List.mem_replicate] at this
      cases this.2
theorem Cels.cutTo {F F' H H' : Hp} {al al' : List Addr} {mu' : Mu} (C : Cels F' al' mu' H') (E : Ext F al H F' al' H') : Cels F' al (mu'.take al.length) H' ∧ Ext F al H F' al H' := by
  obtain ⟨t, e⟩ := E.pf
  have hl : al.length ≤ mu'.length := by
    rw [← C.len, ← e, List.length_append]
    omega
  refine ⟨⟨C.ex, C.nt, C.tb, by rw [List.length_take]; omega, ?_, fun k a m h1 h2 => ?_⟩, ⟨E.ex, List.prefix_refl _, E.nf, fun a h => .inl h, E.kp, E.dm⟩⟩
  · have w := C.nd
    rw [← e, List.nodup_append] at w
    exact w.1
  · have hk := (List.getElem?_eq_some_iff.mp h1).1
    rw [List.getElem?_take_of_lt hk] at h2
    exact C.cel k a m (by rw [← e, List.getElem?_append_left hk]; exact h1) h2
/-- THE RULE for a def over data -/
theorem dfn {P : Program} {w : World} {K : PySem.W.Frag} {mg : Str → Option Value} {base : Heap} {x qual : Str} {st : Stmt} {f : Addr} {fd : FuncData} {N ps : List Str} {k : Nat} {S : FS} (F : Fun K x qual st f fd) (sc : FnScope N ps (defScope st))
    (len : ∀ xs mu Q, S xs mu Q → xs.length = ps.length)
    (body : ∀ (cdv : Value) (A : Around) (outer : List Env) (s : Shared) (H : Hp) (E : XK), Room k (A.deeper (envOfC qual (defScope st) s.heap.objs.size f cdv)) →
      ∃ t, CSs (cxOf CX0 P w K mg base N qual (defScope st) f cdv A outer s H E).nox (defBody st) t ∧ ∀ xs mu Q, S xs mu Q → t { nx := fun _ mu' => retQ mu.length Q (.dv (.dat .non)) mu', rt := retQ mu.length Q } (startD N xs) mu) :
    FnOk P w K mg base CX0 (k + 1) f fd ps (spOf S) := by
  refine F.ok sc (fun vs H Q E h => ?_) (fun cdv A outer s H vs Q E hr h => ?_)
  · obtain ⟨F0, al, xs, mu, Qd, C, r, q, _⟩ := h
    rw [r.len]
    exact len _ _ _ q
  · obtain ⟨F0, al, xs, mu, Qd, C, r, q, l⟩ := h
    obtain ⟨t, hc, hq⟩ := body cdv A outer s H E hr
    obtain ⟨ts, hp, g⟩ := hc.ok
    refine ⟨ts, hp, g F0 al (startD N xs) mu (L2.start N vs) H _ _ (sim_start C r) (hq xs mu Qd q) ?_⟩
    have rt : ∀ F' al' mu' rv v H', Ext F0 al H F' al' H' → Cels F' al' mu' H' → RetV F' al' H' rv v → Fresh H rv v → retQ mu.length Qd rv mu' → Q v H' := fun F' al' mu' rv v H' E' C' rr fr q' => by
      obtain ⟨C2, E2⟩ := C'.cutTo E'
      rw [C.len] at C2
      cases rv with
      | dv x =>
        cases x with
        | dat d => exact l F' _ (.dv (.dat d)) v H' E2 C2 rr fr q'
        | cel j =>
          obtain ⟨a, ha, ev⟩ := rr
          have q2 : (match mu'[j]? with
            | some m => mu.length ≤ j ∧ isDead m = false ∧ Qd (.new m) (mu'.take mu.length)
            | none => False) := q'
          cases hm : mu'[j]? with
          | none =>
            rw [hm] at q2
            exact q2.elim
          | some m =>
            rw [hm] at q2
            obtain ⟨hj, dd, q2⟩ := q2
            have na : a ∉ al := fun z => by
              obtain ⟨i, hi, ei⟩ := List.getElem_of_mem z
              obtain ⟨t, et⟩ := E'.pf
              have e1 : al'[i]? = some a := by
                rw [← et, List.getElem?_append_left hi, List.getElem?_eq_getElem hi, ei]
              have e2 := List.getElem?_eq_some_iff.mp e1
              have e3 := List.getElem?_eq_some_iff.mp ha
              have e4 := (List.getElem_inj C'.nd).mp (e2.2.trans e3.2.symm)
              have := C.len
              omega
            refine l F' _ (.new m) v H' E2 C2 ⟨a, ev, na, dd, C'.cel j a m ha hm⟩ (fun p ep => ?_) q2
            rw [ev] at ep
            cases ep
            rcases E'.nc a (List.mem_of_getElem? ha) with z | z
            · exact absurd z na
            · exact z
      | new m =>
        obtain ⟨p, ev, na, dd, ok⟩ := rr
        exact l F' _ (.new m) v H' E2 C2 ⟨p, ev, fun z => na (E'.pf.subset z), dd, ok⟩ fr q'
    exact ⟨fun F' al' rho' mu' σ' H' E' S' q' => rt F' al' mu' (.dv (.dat .non)) .non H' E' S'.toCels (rv_non (F := F') (al := al')) trivial q', rt, fun _ _ _ _ _ _ _ _ z => z.elim, fun _ _ _ _ _ _ _ _ z => z.elim⟩
end Dx

namespace Dx
open PySem PySem.Spec PyProof.Rows L2
open Evl (Ex)
variable [Tb]

/-! ### the weakest reading of a reading over data -/
def teOf (t : DE) : TE := fun σ H R => ∃ F al rho mu Q, Sim F al rho mu σ H ∧ t rho mu Q ∧ LK F al H Q R
def ttOf (t : DT) : TT := fun σ H R => ∃ F al rho mu Q, Sim F al rho mu σ H ∧ t rho mu Q ∧ LT F al H Q R
def tgOf (t : DG) (ws : List Nat) : TG := fun v σ H R => ∃ F al rho mu d Q, Sim F al rho mu σ H ∧ Rep F d v ∧ t d rho Q ∧ (∀ rho' σ', Sim F al rho' mu σ' H → Only ws σ σ' → Q rho' → R σ' H)
section
variable {X : Cx} {e : Expr}
theorem CE.pe {t : DE} (h : CE X e t) : PE X e (teOf t) := by
  obtain ⟨te, p, g⟩ := h.ok
  refine ⟨fun pins s σ H Q I hw => ?_⟩
  obtain ⟨F, al, rho, mu, Qd, S, q, l⟩ := hw
  exact p.run pins s σ H Q I (g F al rho mu σ H Qd Q S q l)
theorem CT.pt {t : DT} (h : CT X e t) : PT X e (ttOf t) := by
  obtain ⟨te, p, g⟩ := h.ok
  refine ⟨fun pins s σ H Q I hw => ?_⟩
  obtain ⟨F, al, rho, mu, Qd, S, q, l⟩ := hw
  exact p.run pins s σ H Q I (g F al rho mu σ H Qd Q S q l)
theorem CG.pg {t : DG} {ws : List Nat} (h : CG X e t ws) : PG X e (tgOf t ws) := by
  obtain ⟨te, p, g⟩ := h.ok
  refine ⟨fun pins s σ H v u Q I r hw => ?_⟩
  obtain ⟨F, al, rho, mu, d, Qd, S, rd, q, l⟩ := hw
  exact p.run pins s σ H v u Q I r (g F al rho mu σ H d v Qd Q S rd q l)
end

/-! ### beside: an object that is neither frozen nor a cell changes -/
theorem Cels.side {F : Hp} {al : List Addr} {mu : Mu} {H : Hp} {p : Addr} {o : HO} (S : Cels F al mu H) (hf : F p = none) (na : p ∉ al) {o1 : HO} (h1 : H p = some o1) (pl : Plain p o1) : Cels F al mu (upd H p o) where
  ex := fun a u h => by
    rw [upd_ne (ne_of_none h hf)]
    exact S.ex a u h
  nt := S.nt
  tb := tabs_put S.tb h1 pl
  len := S.len
  nd := S.nd
  cel := fun k a m h1' h2 => by
    have ne : a ≠ p := fun z => by
      subst z
      exact na (List.mem_of_getElem? h1')
    exact (S.cel k a m h1' h2).mono (Ex.refl F) (fun z => z) (upd_ne ne)
theorem Ext.side {F F' H H' : Hp} {al al' : List Addr} {p : Addr} {o : HO} (E : Ext F al H F' al' H') (hp : H p = none) : Ext F al H F' al' (upd H' p o) where
  ex := E.ex
  pf := E.pf
  nf := E.nf
  nc := E.nc
  kp := fun a u h q nt => by
    rw [upd_ne (ne_of_none q hp)]
    exact E.kp a u h q nt
  dm := fun a h => by
    by_cases c : a = p
    · subst c
      exact absurd hp h
    · rw [upd_ne c]
      exact E.dm a h
/-- the object stays beside -/
theorem Ext.stays {F F' H H' : Hp} {al al' : List Addr} {p : Addr} {o : HO} (E : Ext F al H F' al' H') (hp : H p = some o) (hf : F p = none) (na : p ∉ al) (nt : ∀ ps, o ≠ .tbl ps := by intro _ z; cases z) : H' p = some o ∧ F' p = none ∧ p ∉ al' := by
  refine ⟨E.kp p o na hp nt, ?_, fun z => ?_⟩
  · cases q : F' p with
    | none => rfl
    | some u =>
      rcases E.nf p (by rw [q]; exact fun z => nomatch z) with w | w | w
      · exact absurd hf w
      · rw [w] at hp
        cases hp
      · exact absurd w na
  · rcases E.nc p z with w | w
    · exact na w
    · rw [w] at hp
      cases hp

/-! ### comprehensions -/
def clrD : Rho → Nat → Rho
  | [], _ => []
  | _ :: r, 0 => none :: r
  | y :: r, n + 1 => y :: clrD r n
theorem clrD_eq : ∀ (rho : Rho) (i : Nat), clrD rho i = rho.set i none
  | [], _ => rfl
  | _ :: r, 0 => rfl
  | y :: r, n + 1 => by
    rw [clrD, List.set_cons_succ, clrD_eq r n]
def wipeD (rho : Rho) : List Nat → Rho
  | [] => rho
  | v :: vs => clrD (wipeD rho vs) v
theorem Sim.clr {F : Hp} {al : List Addr} {rho : Rho} {mu : Mu} {σ : L2.St} {H : Hp} (S : Sim F al rho mu σ H) (i : Nat) : Sim F al (clrD rho i) mu (σ.set i none) H where
  toCels := S.toCels
  slen := by rw [clrD_eq, List.length_set, List.length_set]; exact S.slen
  slot := fun j y h => by
    rw [clrD_eq] at h
    by_cases hj : j = i
    · subst hj
      by_cases hl : j < rho.length
      · rw [List.getElem?_set_self hl] at h
        cases h
      · rw [List.getElem?_eq_none (by rw [List.length_set]; omega)] at h
        cases h
    · rw [List.getElem?_set_ne (fun z => hj z.symm)] at h
      obtain ⟨w, q1, q2⟩ := S.slot j y h
      exact ⟨w, by rw [List.getElem?_set_ne (fun z => hj z.symm)]; exact q1, q2⟩
theorem Sim.wipe {F : Hp} {al : List Addr} {rho : Rho} {mu : Mu} {σ : L2.St} {H : Hp} (S : Sim F al rho mu σ H) : ∀ vs : List Nat, Sim F al (wipeD rho vs) mu (L2.wipe σ vs) H
  | [] => S
  | v :: vs => (S.wipe vs).clr v
def dYes : DT := fun _ mu Q => Q true mu
def dCompL (t : DG) (tt : DT) (te : DE) (rho : Rho) (Q : List D → Mu → Prop) : List D → List D → Mu → Prop
  | [], acc, mu => Q acc mu
  | d :: ds, acc, mu => t d rho fun rho' => tt rho' mu fun b mu1 => if b = true then te rho' mu1 fun x mu2 => onD x fun y => acc.length < 100000 ∧ dCompL t tt te rho Q ds (acc ++ [y]) mu2 else dCompL t tt te rho Q ds acc mu1
def fLc (ti : DI) (t : DG) (tt : DT) (te : DE) (vs : List Nat) : DF := fun rho mu Q => ti rho mu fun ds mu1 => dCompL t tt te (wipeD rho vs) (fun acc mu2 => Q (.lst acc) mu2) ds [] mu1
theorem wipe_wipe (σ : L2.St) (vs : List Nat) : wipe (wipe σ vs) vs = wipe σ vs := by
  have none_at : ∀ (i : Nat) (vs : List Nat), i ∈ vs → (wipe σ vs).set i none = wipe σ vs := by
    intro i vs
    induction vs with
    | nil => intro h; simp at h
    | cons w r ih =>
      intro h
      show ((wipe σ r).set w none).set i none = (wipe σ r).set w none
      by_cases c : i = w
      · subst c
        rw [List.set_set]
      · rw [List.set_comm _ _ (fun z => c z.symm), ih (by simpa [c] using h)]
  have key : ∀ (ws : List Nat), (∀ w ∈ ws, w ∈ vs) → wipe (wipe σ vs) ws = wipe σ vs := by
    intro ws
    induction ws with
    | nil => intro _; rfl
    | cons w r ih =>
      intro h
      show (wipe (wipe σ vs) r).set w none = wipe σ vs
      rw [ih fun u hu => h u (by simp [hu])]
      exact none_at w vs (h w (by simp))
  exact key vs fun w h => h
theorem gf_lc {wi : TI} {ti : DI} {t : DG} {tt : DT} {te : DE} {ws vs : List Nat} (hw : ∀ w ∈ ws, w ∈ vs)
    (gi : ∀ F al rho mu σ H Q R, Sim F al rho mu σ H → ti rho mu Q → (∀ F' al' ds mu' J H', Ext F al H F' al' H' → Cels F' al' mu' H' → ItD F' J ds → Q ds mu' → R J H') → wi σ H R) :
    GF (tLc wi (tgOf t ws) (ttOf tt) (teOf te) vs) (fLc ti t tt te vs) := fun F al rho mu σ H Q R S q l =>
  gi F al rho mu σ H _ _ S q fun F1 al1 ds mu1 J H1 e1 C1 it q1 => by
    intro L hL
    have S1 := S.of C1 e1.ex e1.pf
    refine ⟨fun i m Hc => ∃ F' al' mu' acc accV, m = ds.length - i ∧ Ext F1 al1 H1 F' al' Hc ∧ Cels F' al' mu' Hc ∧ L ∉ al' ∧ F' L = none ∧ Hc L = some (.lst accV) ∧ RepL F' acc accV ∧
      dCompL t tt te (wipeD rho vs) (fun acc mu2 => Q (.lst acc) mu2) (ds.drop i) acc mu', ⟨_, F1, al1, mu1, [], [], rfl, Ext.loose hL, C1.loose hL, C1.not_al hL, ex_none C1.ex hL, upd_same, .nil, q1⟩, ?_⟩
    rintro i m Hc ⟨F2, al2, mu2, acc, accV, em, e2, C2, na, fn, hc, ra, q2⟩
    have itw := it F2 al2 mu2 Hc e2.ex C2 i
    by_cases hl : i < ds.length
    · have hd : ds[i]? = some ds[i] := List.getElem?_eq_getElem hl
      have ed : ds.drop i = ds[i] :: ds.drop (i + 1) := List.drop_eq_getElem_cons hl
      obtain ⟨go, yl⟩ := itw.1 _ hd
      rw [ed] at q2
      refine .inr ⟨go, fun Hn => ∃ m', m' < m ∧ ∃ F' al' mu' acc accV, m' = ds.length - (i + 1) ∧ Ext F1 al1 H1 F' al' Hn ∧ Cels F' al' mu' Hn ∧ L ∉ al' ∧ F' L = none ∧ Hn L = some (.lst accV) ∧ RepL F' acc accV ∧
        dCompL t tt te (wipeD rho vs) (fun acc mu2 => Q (.lst acc) mu2) (ds.drop (i + 1)) acc mu', fun _ h => h, fun x H3 hy => ?_⟩
      obtain ⟨F3, e3, C3, rx⟩ := yl x H3 hy
      obtain ⟨h3, f3, n3⟩ := e3.stays hc fn na
      have e13 := e2.trans e3
      have S3 : Sim F3 al2 (wipeD rho vs) mu2 (wipe σ vs) H3 := (S1.of C3 e13.ex e13.pf).wipe vs
      refine ⟨F3, al2, _, mu2, ds[i], _, S3, rx, q2, fun rho4 σ4 S4 on q4 => ?_⟩
      refine ⟨?_, ?_⟩
      · have w := on vs hw
        rw [wipe_wipe] at w
        exact w
      · refine ⟨F3, al2, rho4, mu2, _, S4, q4, fun F5 al5 b mu5 H5 e5 C5 q5 => ?_⟩
        obtain ⟨h5, f5, n5⟩ := e5.stays h3 f3 n3
        cases b with
        | false => exact ⟨_, by omega, F5, al5, mu5, acc, accV, rfl, e13.trans e5, C5, n5, f5, h5, (ra.mono e3.ex).mono e5.ex, q5⟩
        | true =>
          refine ⟨F5, al5, rho4, mu5, _, S4.of C5 e5.ex e5.pf, q5, fun F6 al6 y mu6 v H6 e6 C6 ry q6 => ?_⟩
          obtain ⟨h6, f6, n6⟩ := e6.stays h5 f5 n5
          obtain ⟨d, ey, hz, q7⟩ := onD_out q6
          subst ey
          have rd : Rep F6 d v := ry
          have ra6 := ((ra.mono e3.ex).mono e5.ex).mono e6.ex
          exact ⟨accV, h6, by rw [ra.len]; exact Evl.sz_lt hz, _, by omega, F6, al6, mu6, acc ++ [d], accV ++ [v], rfl, ((e13.trans e5).trans e6).side hL, C6.side f6 n6 h6 plain_lst, n6, f6, upd_same, ra6.app (.cons rd .nil), q7⟩
    · refine .inl ⟨itw.2 (by omega), ?_⟩
      rw [List.drop_eq_nil_of_le (by omega)] at q2
      exact l F2 al2 (.lst acc) mu2 L Hc (e1.trans e2) C2 na (none_back (e1.dm L) hL) rfl ⟨fn, accV, hc, ra⟩ q2
structure CTs (X : Cx) (ifs : List Expr) (t : DT) : Prop where
  ok : PTs X ifs (ttOf t)
section
variable {X : Cx}
theorem cts_nil : CTs X [] dYes := ⟨⟨fun pins s σ H Q I h => by
  obtain ⟨F, al, rho, mu, Qd, S, q, l⟩ := h
  exact wpAny_tests_nil ⟨H, I, l F al true mu H Ext.refl S.toCels q⟩⟩⟩
theorem cts_one {c : Expr} {t : DT} (h : CT X c t) : CTs X [c] t := ⟨pts_one h.pt⟩
variable {elt tg iter : Expr} {ifs : List Expr} {scope : Scope} {own : List (Str × Nat)} {pos : Pos} {ti : DI} {t : DG} {tt : DT} {te : DE} {ws : List Nat}
theorem cf_lc (own : List (Str × Nat)) (hc : X.calm = true) (hN : X.N.Nodup) (ok : blkC X.N X.env.scope scope own = true) (hi : CI X tg iter ti)
    (hg : ∀ (s : Shared) (H : Hp) (C : Addr) (cl : List (Str × Addr)) (fp : List Addr), CG (X.blk s H scope (compEnvC scope cl C X.env) fp) tg t ws)
    (ht : ∀ (s : Shared) (H : Hp) (C : Addr) (cl : List (Str × Addr)) (fp : List Addr), CTs (X.blk s H scope (compEnvC scope cl C X.env) fp) ifs tt)
    (he : ∀ (s : Shared) (H : Hp) (C : Addr) (cl : List (Str × Addr)) (fp : List Addr), CE (X.blk s H scope (compEnvC scope cl C X.env) fp) elt te)
    (hw : ∀ w ∈ ws, w ∈ own.map (·.2) := by decide) (hs : ∀ x, foldedSetIterable iter X.env x = pure x := by intro _; rfl) :
    CF X (.ListComp elt [⟨tg, iter, ifs, 0⟩] scope pos) (fLc ti t tt te (own.map (·.2))) := by
  obtain ⟨_, p, g⟩ := hi.ok
  exact ⟨_, pe_lc hc hN p (blkOk_by ok) (fun s H C cl fp => (hg s H C cl fp).pg) (fun s H C cl fp => (ht s H C cl fp).ok) (fun s H C cl fp => (he s H C cl fp).pe) hs, gf_lc hw g⟩
/-- name = [..]: as data, as a new cell -/
theorem gs_setF {te : TE} {t : DF} {i : Nat} (g : GF te t) : GS (tAsg te (gName i)) (dSet i (dFrz t)) := fun F al rho mu σ H D E S q l =>
  ge_frz g F al rho mu σ H _ _ S q fun F1 al1 y mu1 v H1 e1 C1 r1 q1 => l.nx F1 al1 _ mu1 _ H1 e1 ((S.of C1 e1.ex e1.pf).set i r1) q1
theorem gs_setN {te : TE} {t : DF} {i : Nat} (g : GF te t) : GS (tAsg te (gName i)) (dSet i (dNew t)) := fun F al rho mu σ H D E S q l =>
  ge_new g F al rho mu σ H _ _ S q fun F1 al1 y mu1 v H1 e1 C1 r1 q1 => l.nx F1 al1 _ mu1 _ H1 e1 ((S.of C1 e1.ex e1.pf).set i r1) q1
theorem cs_setLc (i : Nat) (own : List (Str × Nat)) {y : Str} {py spos : Pos} (hc : X.calm = true) (hN : X.N.Nodup) (ok : blkC X.N X.env.scope scope own = true) (hi : CI X tg iter ti)
    (hg : ∀ (s : Shared) (H : Hp) (C : Addr) (cl : List (Str × Addr)) (fp : List Addr), CG (X.blk s H scope (compEnvC scope cl C X.env) fp) tg t ws)
    (ht : ∀ (s : Shared) (H : Hp) (C : Addr) (cl : List (Str × Addr)) (fp : List Addr), CTs (X.blk s H scope (compEnvC scope cl C X.env) fp) ifs tt)
    (he : ∀ (s : Shared) (H : Hp) (C : Addr) (cl : List (Str × Addr)) (fp : List Addr), CE (X.blk s H scope (compEnvC scope cl C X.env) fp) elt te)
    (hy : X.N[i]? = some y := by rfl) (hyl : X.env.scope.names.lookup y = some .local := by rfl) (hk : X.env.scope.kind = .function := by rfl) (hln : (py.line == pos.line) = true := by rfl)
    (hna : (scope.names.any fun (n, k) => n == y && (k == .local || k == .cell)) = false := by decide +kernel)
    (hw : ∀ w ∈ ws, w ∈ own.map (·.2) := by decide) (hs : ∀ x, foldedSetIterable iter X.env x = pure x := by intro _; rfl) :
    CS X (.Assign [.Name y py] (.ListComp elt [⟨tg, iter, ifs, 0⟩] scope pos) spos) (dSet i (dFrz (fLc ti t tt te (own.map (·.2))))) := by
  obtain ⟨_, p, g⟩ := hi.ok
  exact ⟨_, ps_setLc hc hN hy hyl (sw_true hk hyl hln hna) p (blkOk_by ok) (fun s H C cl fp => (hg s H C cl fp).pg) (fun s H C cl fp => (ht s H C cl fp).ok) (fun s H C cl fp => (he s H C cl fp).pe) hs, gs_setF (gf_lc hw g)⟩
theorem cs_setLcN (i : Nat) (own : List (Str × Nat)) {y : Str} {py spos : Pos} (hc : X.calm = true) (hN : X.N.Nodup) (ok : blkC X.N X.env.scope scope own = true) (hi : CI X tg iter ti)
    (hg : ∀ (s : Shared) (H : Hp) (C : Addr) (cl : List (Str × Addr)) (fp : List Addr), CG (X.blk s H scope (compEnvC scope cl C X.env) fp) tg t ws)
    (ht : ∀ (s : Shared) (H : Hp) (C : Addr) (cl : List (Str × Addr)) (fp : List Addr), CTs (X.blk s H scope (compEnvC scope cl C X.env) fp) ifs tt)
    (he : ∀ (s : Shared) (H : Hp) (C : Addr) (cl : List (Str × Addr)) (fp : List Addr), CE (X.blk s H scope (compEnvC scope cl C X.env) fp) elt te)
    (hy : X.N[i]? = some y := by rfl) (hyl : X.env.scope.names.lookup y = some .local := by rfl) (hk : X.env.scope.kind = .function := by rfl) (hln : (py.line == pos.line) = true := by rfl)
    (hna : (scope.names.any fun (n, k) => n == y && (k == .local || k == .cell)) = false := by decide +kernel)
    (hw : ∀ w ∈ ws, w ∈ own.map (·.2) := by decide) (hs : ∀ x, foldedSetIterable iter X.env x = pure x := by intro _; rfl) :
    CS X (.Assign [.Name y py] (.ListComp elt [⟨tg, iter, ifs, 0⟩] scope pos) spos) (dSet i (dNew (fLc ti t tt te (own.map (·.2))))) := by
  obtain ⟨_, p, g⟩ := hi.ok
  exact ⟨_, ps_setLc hc hN hy hyl (sw_true hk hyl hln hna) p (blkOk_by ok) (fun s H C cl fp => (hg s H C cl fp).pg) (fun s H C cl fp => (ht s H C cl fp).ok) (fun s H C cl fp => (he s H C cl fp).pe) hs, gs_setN (gf_lc hw g)⟩
end
end Dx

namespace Dx
open PySem PySem.Spec PyProof.Rows L2
open Evl (Ex)
variable [Tb]

section
variable {X : Cx} {e a b : Expr} {es : List Expr} {ta tb : DE} {pos : Pos}
/-! ### list(a text) -/
theorem call_list_text (hc : X.calm = true) : CallR X (.type "list") (fun xs H Q => ∃ s : List Nat, xs = [.str (mkS s)] ∧ s.length ≤ 100000 ∧ ∀ l, H l = none → Q (.ref l) (upd H l (.lst (s.map fun c => V.str (mkS [c]))))) := by
  intro pins st σ H xs us Q I r h
  obtain ⟨s, ex, hz, q⟩ := h
  subst ex
  obtain ⟨u, eu, rx⟩ := vals1 r
  subst eu
  obtain ⟨t, et⟩ := rx
  subst et
  refine call_list_str (hn := by show s.toArray.size ≤ sizeLine; rw [List.size_toArray]; exact Evl.sz_of hz) (I.ok.hd hc) (mkS s) t fun h' tk acc c' hk hS hacc => ?_
  have hsz : acc.size = s.length := by
    rw [hacc.1]
    show s.toArray.size = s.length
    exact List.size_toArray
  have hv : Vals (s.map fun c => V.str (mkS [c])) acc.toList := by
    have key : ∀ (s : List Nat) (l : List Value), l.length = s.length → (∀ (j : Nat) (v : Value), l[j]? = some v → ∃ c t, s[j]? = some c ∧ v = Value.str (mkS [c]) t) → Vals (s.map fun c => V.str (mkS [c])) l := by
      intro s
      induction s with
      | nil =>
        intro l hl _
        rw [List.eq_nil_of_length_eq_zero hl]
        exact .nil
      | cons c s ih =>
        intro l hl h
        cases l with
        | nil => cases hl
        | cons v l =>
          obtain ⟨c', t, e1, e2⟩ := h 0 v rfl
          have e3 : c = c' := Option.some.inj e1
          subst e3
          exact .cons ⟨t, e2⟩ (ih l (by simpa using hl) fun j v hj => h (j + 1) v (by simpa using hj))
    refine key s acc.toList (by rw [Array.length_toList, hsz]) fun j v hj => ?_
    obtain ⟨c, t, e1, e2⟩ := hacc.2 j v (by rw [← Array.getElem?_toList]; exact hj)
    have e6 : (mkS s).cps[j]? = s[j]? := by
      show s.toArray[j]? = s[j]?
      simp
    exact ⟨c, t, by rw [← e6]; exact e1, e2⟩
  exact ⟨.ref st.heap.objs.size, _, I.laid (t' := tk) hk (Nat.le_refl _) (show ObjOk X.prog X.w _ h' _ (.lst (s.map fun c => V.str (mkS [c]))) from ⟨by rw [List.length_map]; exact Evl.sz_of hz, acc.toList, c', hv, by rw [Array.toArray_toList]; exact hS⟩), rfl, q _ (I.hok.fresh (Nat.le_refl _))⟩
/-- list(the script) -/
def fListScr (K : PySem.W.Frag) : DCallF := fun xs mu Q => on1 xs fun x => match x with
  | .dat (.scr K' ns) => K' = K ∧ Q (.lst (ns.map D.int)) mu
  | _ => False
theorem cListScr : CallF X (.type "list") (fListScr X.K) := ⟨_, call_list_of, fun F al mu H xs vs Q R c r q l => by
  obtain ⟨x, v, ev, rx, q⟩ := on1_out q r
  cases x with
  | cel k => exact q.elim
  | dat d =>
    cases d with
    | scr K' ns =>
      obtain ⟨ek, q⟩ := q
      subst ek
      have r' : Rep F (.scr X.K ns) v := rx
      rw [Rep] at r'
      obtain ⟨a, e, hs⟩ := r'
      subst e
      exact ⟨a, _, ev, .inl (Evl.ex_l c.ex hs), fun n hn => l F al (.lst (ns.map D.int)) mu n _ (Ext.loose hn) (c.loose hn) (c.not_al hn) hn rfl ⟨ex_none c.ex hn, _, upd_same, RepL.toInts ns⟩ q⟩
    | _ => exact q.elim⟩
def fListS : DCallF := fun xs mu Q => on1 xs fun x => onS x fun s => s.length ≤ 100000 ∧ Q (.lst (s.map fun c => D.str [c])) mu
theorem repL_signs {F : Hp} : ∀ s : List Nat, RepL F (s.map fun c => D.str [c]) (s.map fun c => V.str (mkS [c]))
  | [] => RepL.nil
  | c :: r => RepL.cons (by rw [Rep]; rfl) (repL_signs r)
theorem cListS (hc : X.calm = true) : CallF X (.type "list") fListS := ⟨_, call_list_text hc, fun F al mu H xs vs Q R c r q l => by
  obtain ⟨x, v, ev, rx, q⟩ := on1_out q r
  obtain ⟨s, ex, es, hz, q⟩ := onS_out q rx
  subst es
  exact ⟨s, ev, hz, fun n hn => l F al (.lst (s.map fun c => D.str [c])) mu n _ (Ext.loose hn) (c.loose hn) (c.not_al hn) hn rfl ⟨ex_none c.ex hn, _, upd_same, repL_signs s⟩ q⟩⟩

/-! ### isinstance of data -/
def tyN : D → String
  | .non => "NoneType"
  | .bl _ => "bool"
  | .int _ => "int"
  | .str _ => "str"
  | .lst _ => "list"
  | .tup _ => "tuple"
  | .dk _ _ => "dict"
  | .dt _ _ _ => "dict"
  | .scr _ _ => "script"
def isScr : D → Bool
  | .scr _ _ => true
  | .dt _ _ _ => true
  | _ => false
theorem tyN_of {K : PySem.W.Frag} {F H : Hp} (ex : Ex F H) {d : D} {v : V} (ns : isScr d = false) (r : Rep F d v) : TyOf K H v (.type (tyN d)) := by
  cases d with
  | non =>
    rw [Rep] at r
    subst r
    exact .non
  | bl b =>
    rw [Rep] at r
    subst r
    exact .bl b
  | int b =>
    rw [Rep] at r
    subst r
    exact .int b
  | str b =>
    rw [Rep] at r
    subst r
    exact .str _
  | lst b =>
    rw [Rep] at r
    obtain ⟨a, vs, e, q, _⟩ := r
    subst e
    exact .lst (ex _ _ q)
  | tup b =>
    rw [Rep] at r
    obtain ⟨a, vs, e, q, _⟩ := r
    subst e
    exact .tup (ex _ _ q)
  | dk ks ds =>
    rw [Rep] at r
    obtain ⟨a, vs, e, q, _⟩ := r
    subst e
    exact .dK (ex _ _ q)
  | dt => cases ns
  | scr => cases ns
/-- a value's type: data, or a cell -/
def tyDV (mu : Mu) : DV → Option String
  | .dat d => if isScr d then none else some (tyN d)
  | .cel k => match mu[k]? with
    | some (.lst _) => some "list"
    | some (.dk _ _) => some "dict"
    | _ => none
theorem tyDV_of {K : PySem.W.Frag} {F H : Hp} {al : List Addr} {mu : Mu} {x : DV} {v : V} {T : String} (C : Cels F al mu H) (r : RepV F al x v) (h : tyDV mu x = some T) : TyOf K H v (.type T) := by
  cases x with
  | dat d =>
    have h' : (if isScr d then none else some (tyN d)) = some T := h
    cases q : isScr d with
    | true =>
      rw [q] at h'
      cases h'
    | false =>
      rw [q] at h'
      have e : tyN d = T := Option.some.inj h'
      subst e
      exact tyN_of C.ex q r
  | cel k =>
    obtain ⟨a, ha, e⟩ := r
    subst e
    have h' : (match mu[k]? with
      | some (.lst _) => some "list"
      | some (.dk _ _) => some "dict"
      | _ => none) = some T := h
    cases q : mu[k]? with
    | none =>
      rw [q] at h'
      cases h'
    | some m =>
      rw [q] at h'
      have ok := C.cel k a m ha q
      cases m with
      | dead => cases h'
      | lst ds =>
        obtain ⟨_, vs, z, _⟩ := ok
        cases h'
        exact .lst z
      | dk ks ds =>
        obtain ⟨_, vs, z, _⟩ := ok
        cases h'
        exact .dK z
      | dt w ks ds => cases h'
def isiB (a b : String) : Bool := a == b || (a == "bool" && b == "int")
def known (b : String) : Bool := ["list", "tuple", "bool", "int", "str", "dict"].contains b
def known7 (b : String) : Bool := ["list", "tuple", "bool", "int", "str", "dict", "NoneType"].contains b
theorem isi_kit {K : PySem.W.Frag} {a b : String} (ha : known7 a = true) (hb : known b = true) : PySem.W.kitOne K (.type a) (.type b) = some (isiB a b) := by
  have ha' : a = "list" ∨ a = "tuple" ∨ a = "bool" ∨ a = "int" ∨ a = "str" ∨ a = "dict" ∨ a = "NoneType" := by
    unfold known7 at ha
    simpa using ha
  have hb' : b = "list" ∨ b = "tuple" ∨ b = "bool" ∨ b = "int" ∨ b = "str" ∨ b = "dict" := by
    unfold known at hb
    simpa using hb
  rcases ha' with rfl | rfl | rfl | rfl | rfl | rfl | rfl <;> rcases hb' with rfl | rfl | rfl | rfl | rfl | rfl <;> exact kit_ty (by decide +kernel)
theorem tyDV_known {mu : Mu} {x : DV} {T : String} (h : tyDV mu x = some T) : known7 T = true := by
  cases x with
  | dat d =>
    have h' : (if isScr d then none else some (tyN d)) = some T := h
    cases q : isScr d with
    | true =>
      rw [q] at h'
      cases h'
    | false =>
      rw [q] at h'
      have e : tyN d = T := Option.some.inj h'
      subst e
      cases d <;> first
        | rfl
        | cases q
  | cel k =>
    have h' : (match mu[k]? with
      | some (.lst _) => some "list"
      | some (.dk _ _) => some "dict"
      | _ => none) = some T := h
    cases q : mu[k]? with
    | none =>
      rw [q] at h'
      cases h'
    | some m =>
      rw [q] at h'
      cases m <;> cases h' <;> rfl
def dIsi (T : String) (te : DE) : DE := fun rho mu Q => te rho mu fun x mu1 => onSome (tyDV mu1 x) fun S => Q (.dat (.bl (isiB S T))) mu1
def dIsi2 (T T' : String) (te : DE) : DE := fun rho mu Q => te rho mu fun x mu1 => onSome (tyDV mu1 x) fun S => Q (.dat (.bl (isiB S T || isiB S T'))) mu1
theorem ce_isi {T : String} {p p2 : Pos} {n : Str} (hm : X.mg "isinstance" = none) (hmT : X.mg n = none) (hv : bootBuiltins n = some (.type T)) (he : CE X e ta) (hk : known T = true := by decide) (hg : Gl X "isinstance" := by rfl) (hgT : Gl X n := by rfl)
    (hvi : bootBuiltins "isinstance" = some (.builtin "isinstance") := by decide +kernel) (hn : n ≠ "__name__" := by decide) (hdb : (n == ("__debug__" : Str)) = false := by decide)
    (hst : starEach [e, .Name n p2] X.env = (false, eval e X.env) :: starEach [.Name n p2] X.env := by rfl) (hst2 : starEach [.Name n p2] X.env = (false, eval (.Name n p2) X.env) :: starEach [] X.env := by rfl) (hpl : (backTo pos (starEach [.Name n p2] X.env)).any (·.1) = false := by rfl) :
    CE X (.Call (.Name "isinstance" p) [e, .Name n p2] [] pos) (dIsi T ta) := by
  obtain ⟨_, pe, g⟩ := he.ok
  refine ⟨_, pe_callB call_isi hg hm hvi (pa_cons pe (pa_cons (pe_bltn (v := .ty T) hgT hmT hv rfl hn hdb) pa_nil hst2) hst) (by decide) (by decide) hst hpl, fun F al rho mu σ H Q R S q l => g F al rho mu σ H _ _ S q fun F1 al1 x mu1 v H1 e1 C1 r1 q1 => ?_⟩
  obtain ⟨Ty, h1, q2⟩ := onSome_out q1
  exact ⟨v, .ty T, .type Ty, .type T, isiB Ty T, rfl, .ty T, .base (tyDV_of C1 r1 h1), isi_kit (tyDV_known h1) hk, l F1 al1 _ mu1 _ H1 e1 C1 rv_bl q2⟩
theorem ce_isi2 {T T' : String} {p p2 p3 p4 : Pos} {kt : Nat} {n n' : Str} (hm : X.mg "isinstance" = none) (hmT : X.mg n = none) (hmT' : X.mg n' = none) (hv : bootBuiltins n = some (.type T)) (hv' : bootBuiltins n' = some (.type T')) (he : CE X e ta) (hk : known T = true := by decide) (hk' : known T' = true := by decide)
    (hg : Gl X "isinstance" := by rfl) (hgT : Gl X n := by rfl) (hgT' : Gl X n' := by rfl)
    (hvi : bootBuiltins "isinstance" = some (.builtin "isinstance") := by decide +kernel) (hn : n ≠ "__name__" := by decide) (hdb : (n == ("__debug__" : Str)) = false := by decide) (hn' : n' ≠ "__name__" := by decide) (hdb' : (n' == ("__debug__" : Str)) = false := by decide)
    (hst : starEach [e, .Tuple [.Name n p2, .Name n' p3] kt p4] X.env = (false, eval e X.env) :: starEach [.Tuple [.Name n p2, .Name n' p3] kt p4] X.env := by rfl) (hst2 : starEach [.Tuple [.Name n p2, .Name n' p3] kt p4] X.env = (false, eval (.Tuple [.Name n p2, .Name n' p3] kt p4) X.env) :: starEach [] X.env := by rfl)
    (hst3 : starEach [.Name n p2, .Name n' p3] X.env = (false, eval (.Name n p2) X.env) :: starEach [.Name n' p3] X.env := by rfl) (hst4 : starEach [.Name n' p3] X.env = (false, eval (.Name n' p3) X.env) :: starEach [] X.env := by rfl)
    (hpl : (backTo pos (starEach [.Tuple [.Name n p2, .Name n' p3] kt p4] X.env)).any (·.1) = false := by rfl) :
    CE X (.Call (.Name "isinstance" p) [e, .Tuple [.Name n p2, .Name n' p3] kt p4] [] pos) (dIsi2 T T' ta) := by
  obtain ⟨_, pe, g⟩ := he.ok
  refine ⟨_, pe_callB call_isiT hg hm hvi (pa_cons pe (pa_cons (pe_tup (pa_cons (pe_bltn (v := .ty T) hgT hmT hv rfl hn hdb) (pa_cons (pe_bltn (v := .ty T') hgT' hmT' hv' rfl hn' hdb') pa_nil hst4) hst3)) pa_nil hst2) hst) (by decide) (by decide) hst hpl, fun F al rho mu σ H Q R S q l => g F al rho mu σ H _ _ S q fun F1 al1 x mu1 v H1 e1 C1 r1 q1 => ?_⟩
  obtain ⟨Ty, h1, q2⟩ := onSome_out q1
  refine ⟨by show 2 ≤ sizeLine; decide, fun tp ht => ?_⟩
  have tyv : TyOf X.K (upd H1 tp (.tup [.ty T, .ty T'])) v (.type Ty) := tyDV_of (C1.loose (o := .tup [.ty T, .ty T']) ht) r1 h1
  refine ⟨v, tp, [.ty T, .ty T'], .type Ty, [.type T, .type T'], isiB Ty T || isiB Ty T', rfl, upd_same, .cons (.ty T) (.cons (.ty T') .nil), .base tyv, ?_, ?_⟩
  · refine kitAny_cons (b := isiB Ty T) (isi_kit (tyDV_known h1) hk) (fun hb => ?_) (fun hb => by rw [hb]; rfl)
    rw [hb, Bool.false_or]
    exact kitAny_cons (b := isiB Ty T') (isi_kit (tyDV_known h1) hk') (fun hb' => by rw [hb']; exact kitAny_nil) (fun hb' => hb')
  · exact l F1 al1 _ mu1 _ _ (e1.trans (Ext.loose ht)) (C1.loose ht) rv_bl q2
end

/-! ### a call that only reads its arguments, cells among them, and hands back a flat thing -/
def rdM (mu : Mu) : DV → Option D
  | .dat d => some d
  | .cel k => match mu[k]? with
    | some m => if isDead m then none else some m.toD
    | none => none
def rdMs (mu : Mu) : List DV → Option (List D)
  | [] => some []
  | x :: r => match rdM mu x, rdMs mu r with
    | some d, some ds => some (d :: ds)
    | _, _ => none
def backS (mu : Mu) (Q : DQ) : RV → Mu → Prop := fun rv _ => match rv with
  | .dv (.dat d) => flatD d = true ∧ Q (.dat d) mu
  | _ => False
/-- F with every live cell frozen -/
noncomputable def frzAll (F : Hp) (al : List Addr) (mu : Mu) (H : Hp) : Hp := fun a => match F a with
  | some o => some o
  | none => open Classical in if ∃ (k : Nat) (m : MC), al[k]? = some a ∧ mu[k]? = some m ∧ isDead m = false then H a else none
theorem frzAll_F {F H : Hp} {al : List Addr} {mu : Mu} : Ex F (frzAll F al mu H) := fun a o h => by
  unfold frzAll
  rw [h]
theorem frzAll_H {F H : Hp} {al : List Addr} {mu : Mu} (C : Ex F H) : Ex (frzAll F al mu H) H := fun a o h => by
  unfold frzAll at h
  cases q : F a with
  | some u =>
    rw [q] at h
    rw [C a u q]
    exact h
  | none =>
    rw [q] at h
    simp only at h
    split at h
    · exact h
    · cases h
theorem frzAll_at {F H : Hp} {al : List Addr} {mu : Mu} {k : Nat} {a : Addr} {m : MC} (ha : al[k]? = some a) (hm : mu[k]? = some m) (l : isDead m = false) (hn : F a = none) : frzAll F al mu H a = H a := by
  unfold frzAll
  rw [hn]
  simp only
  rw [if_pos ⟨k, m, ha, hm, l⟩]
theorem frzAll_N {F H : Hp} {al : List Addr} {mu : Mu} (C : Cels F al mu H) : ∀ a ps, frzAll F al mu H a ≠ some (.tbl ps) := fun a ps z => by
  unfold frzAll at z
  cases q : F a with
  | some u =>
    rw [q] at z
    exact C.nt a ps (by rw [q]; exact z)
  | none =>
    rw [q] at z
    simp only at z
    split at z
    · rename_i h
      obtain ⟨k, m, h1, h2, h3⟩ := h
      exact (C.cel k a m h1 h2).frzN h3 z ps rfl
    · cases z
theorem rdM_rep {F H : Hp} {al : List Addr} {mu : Mu} {x : DV} {v : V} {d : D} (C : Cels F al mu H) (r : RepV F al x v) (h : rdM mu x = some d) : Rep (frzAll F al mu H) d v := by
  cases x with
  | dat d' =>
    have e : d' = d := Option.some.inj h
    subst e
    exact Rep.mono frzAll_F _ _ r
  | cel k =>
    obtain ⟨a, ha, e⟩ := r
    subst e
    have h' : (match mu[k]? with
      | some m => if isDead m then none else some m.toD
      | none => none) = some d := h
    cases q : mu[k]? with
    | none =>
      rw [q] at h'
      cases h'
    | some m =>
      rw [q] at h'
      simp only at h'
      by_cases dd : isDead m = true
      · rw [if_pos dd] at h'
        cases h'
      · rw [if_neg dd] at h'
        have e : m.toD = d := Option.some.inj h'
        subst e
        have live : isDead m = false := by simpa using dd
        have ok := C.cel k a m ha q
        obtain ⟨o, ho, rep⟩ := ok.frz live
        exact rep _ frzAll_F (by rw [frzAll_at ha q live (ok.un live)]; exact ho)
theorem rdMs_rep {F H : Hp} {al : List Addr} {mu : Mu} (C : Cels F al mu H) : ∀ {xs : List DV} {vs : List V} {ds : List D}, RepVs F al xs vs → rdMs mu xs = some ds → RepVs (frzAll F al mu H) [] (ds.map DV.dat) vs
  | [], _, ds, .nil, h => by
    cases h
    exact .nil
  | x :: r, _, ds, .cons a t, h => by
    have h' : (match rdM mu x, rdMs mu r with
      | some d, some ds => some (d :: ds)
      | _, _ => none) = some ds := h
    cases q : rdM mu x with
    | none =>
      rw [q] at h'
      cases h'
    | some d =>
      cases q2 : rdMs mu r with
      | none =>
        rw [q, q2] at h'
        cases h'
      | some es =>
        rw [q, q2] at h'
        cases h'
        exact .cons (rdM_rep C a q) (rdMs_rep C t q2)
theorem flat_any {F F' : Hp} {d : D} {v : V} (f : flatD d = true) (r : Rep F d v) : Rep F' d v := by
  cases d <;> first
    | (rw [Rep] at r ⊢; exact r)
    | cases f
def dCallS (S : FS) (ta : DA) : DE := fun rho mu Q => ta rho mu fun xs mu1 => onSome (rdMs mu1 xs) fun ds => S (ds.map DV.dat) [] (backS mu1 Q)
theorem ge_callS {S : FS} {te : TA} {ta : DA} {E0 : XK} (g : GA te ta) : GE (tCall (spOf S) [] E0 te) (dCallS S ta) := fun F al rho mu σ H Q R St q l =>
  g F al rho mu σ H _ _ St q fun F1 al1 xs mu1 vs H1 E1 C1 r1 q1 => by
    show spOf S (vs ++ []) H1 R E0
    rw [List.append_nil]
    obtain ⟨ds, hd, q2⟩ := onSome_out q1
    refine ⟨frzAll F1 al1 mu1 H1, [], ds.map DV.dat, [], _, Cels.empt (frzAll_H C1.ex) (frzAll_N C1) C1.tb, rdMs_rep C1 r1 hd, q2, fun F' mu' rv v H' E' C' rr fr q' => ?_⟩
    cases rv with
    | new m => exact q'.elim
    | dv x =>
      cases x with
      | cel k => exact q'.elim
      | dat d =>
        obtain ⟨fd, q3⟩ := q'
        -- what stood stands; F1 is enough
        have ex2 : Ex F1 H' := ((frzAll_F (al := al1) (mu := mu1) (H := H1)).trans E'.ex).trans C'.ex
        have C2 : Cels F1 al1 mu1 H' := ⟨ex2, C1.nt, C'.tb, C1.len, C1.nd, fun k a m h1 h2 => by
          have ok := C1.cel k a m h1 h2
          exact ok.keep (Ex.refl F1) (fun z => z) (fun u q nt => E'.kp a u (by simp) q nt) (E'.dm a)⟩
        have E2 : Ext F1 al1 H1 F1 al1 H' := ⟨Ex.refl F1, List.prefix_refl _, fun a h => .inl h, fun a h => .inl h, fun a o _ h => E'.kp a o (by simp) h, E'.dm⟩
        exact l F1 al1 (.dat d) mu1 v H' (E1.trans E2) C2 (flat_any fd rr) q3
section
variable {X : Cx} {e : Expr} {es : List Expr} {pos p : Pos} {x : Str} {f : Addr} {fd : FuncData} {ps : List Str} {k : Nat} {S : FS} {tr : DA}
theorem ce_callS (G : FnOk X.prog X.w X.K X.mg X.base CX0 k f fd ps (spOf S)) (hr : Room k X.A) (hm : X.mg x = some (.ref f)) (hk : PySem.W.keepIn X.K (.ref f) = true) (hb : Binds X.K fd ps []) (ha : CA X (e :: es) tr) (hg : Gl X x := by rfl)
    (hdb : (x == ("__debug__" : Str)) = false := by decide) (he : starEach (e :: es) X.env = (false, eval e X.env) :: starEach es X.env := by rfl) (hpl : (backTo pos (starEach es X.env)).any (·.1) = false := by rfl) :
    CE X (.Call (.Name x p) (e :: es) [] pos) (dCallS S tr) := by
  obtain ⟨_, pa, ga⟩ := ha.ok
  exact ⟨_, pe_call (E := E0) G hr hg hm hk hb .nil pass0 pa hdb he hpl, ge_callS ga⟩
end
end Dx

namespace Dx
open PySem PySem.Spec PyProof.Rows L2
open Evl (Ex)
variable [Tb]

/-! ### further expressions -/
section
variable {X : Cx} {e a b c : Expr} {es : List Expr} {ta tb tc : DE} {pos : Pos}
def dNeg (te : DE) : DE := fun rho mu Q => te rho mu fun x mu1 => onI x fun i => Q (.dat (.int (-i))) mu1
theorem ce_neg (h : CE X a ta) : CE X (.UnaryOp .USub a pos) (dNeg ta) := by
  obtain ⟨_, p, g⟩ := h.ok
  refine ⟨_, pe_un un_neg p, fun F al rho mu σ H Q R S q l => g F al rho mu σ H _ _ S q fun F1 al1 x mu1 v H1 e1 C1 r1 q1 => ?_⟩
  obtain ⟨i, ex, ei, q⟩ := onI_out q1 r1
  exact ⟨i, ei, l F1 al1 _ mu1 _ H1 e1 C1 rv_int q⟩
def dChain (t t' : D2) (ta tb tc : DE) : DE := fun rho mu Q => ta rho mu fun x mu1 => tb rho mu1 fun y mu2 => t x y mu2 fun z mu3 => onB (fun k mu4 => if k = true then tc rho mu4 fun w mu5 => t' y w mu5 Q else Q (.dat (.bl false)) mu4) z mu3
theorem ge_chain {te ue ve : TE} {r r' : R2} {t t' : D2} (ga : GE te ta) (gb : GE ue tb) (gc : GE ve tc) (hr : ∀ F al mu H x y v u Q R, Cels F al mu H → RepV F al x v → RepV F al y u → t x y mu Q → LK F al H Q R → r v u H R)
    (hr' : ∀ F al mu H x y v u Q R, Cels F al mu H → RepV F al x v → RepV F al y u → t' x y mu Q → LK F al H Q R → r' v u H R) : GE (tChain r r' te ue ve) (dChain t t' ta tb tc) :=
  fun F al rho mu σ H Q R S q l => ga F al rho mu σ H _ _ S q fun F1 al1 x mu1 v H1 E1 C1 r1 q1 =>
    gb F1 al1 rho mu1 σ H1 _ _ (S.of C1 E1.ex E1.pf) q1 fun F2 al2 y mu2 u H2 E2 C2 r2 q2 => by
      refine hr F2 al2 mu2 H2 x y v u _ _ C2 (r1.mono E2.ex E2.pf) r2 q2 fun F3 al3 z mu3 w H3 E3 C3 r3 q3 => ?_
      obtain ⟨k, ek, q4⟩ := onB_out q3 r3
      refine ⟨k, ek, ?_⟩
      have E := (E1.trans E2).trans E3
      cases k with
      | true =>
        show ve σ H3 _
        exact gc F3 al3 rho mu3 σ H3 _ _ (S.of C3 E.ex E.pf) q4 fun F4 al4 o mu4 p H4 E4 C4 r4 q5 => hr' F4 al4 mu4 H4 y o u p Q R C4 ((r2.mono E3.ex E3.pf).mono E4.ex E4.pf) r4 q5 (l.trans (E.trans E4))
      | false => exact l F3 al3 _ mu3 _ H3 E C3 rv_bl q4
theorem ce_chain {op op' : CmpOp} {t t' : D2} (ho : OpD X (compareOp op) t) (ho' : OpD X (compareOp op') t') (ha : CE X a ta) (hb : CE X b tb) (hc : CE X c tc)
    (hm : lastMarks [op, op'] [b, c] = false := by with_unfolding_all rfl) : CE X (.Compare a [op, op'] [b, c] pos) (dChain t t' ta tb tc) :=
  let ⟨_, r, g⟩ := ho.ok; let ⟨_, r', g'⟩ := ho'.ok; let ⟨_, pa, ga⟩ := ha.ok; let ⟨_, pb, gb⟩ := hb.ok; let ⟨_, pc, gc⟩ := hc.ok; ⟨_, pe_chain r r' pa pb pc hm, ge_chain ga gb gc g g'⟩
theorem ct_chain {op op' : CmpOp} {t t' : D2} (ho : OpD X (compareOp op) t) (ho' : OpD X (compareOp op') t') (ha : CE X a ta) (hb : CE X b tb) (hc : CE X c tc)
    (hm : lastMarks [op, op'] [b, c] = false := by with_unfolding_all rfl) : CT X (.Compare a [op, op'] [b, c] pos) (dTest (dChain t t' ta tb tc)) :=
  let ⟨_, r, g⟩ := ho.ok; let ⟨_, r', g'⟩ := ho'.ok; let ⟨_, pa, ga⟩ := ha.ok; let ⟨_, pb, gb⟩ := hb.ok; let ⟨_, pc, gc⟩ := hc.ok; ⟨_, pt_chain r r' pa pb pc hm, gt_test (ge_chain ga gb gc g g')⟩
end

/-! ### defs and calls, bundled -/
structure Df (K : PySem.W.Frag) (mg : Str → Option Value) (x : Str) (st : Stmt) (ps : List Str) : Prop where
  ok : ∃ f fd, Fun K x x st f fd ∧ mg x = some (.ref f) ∧ Binds K fd ps []
structure Cal (P : Program) (w : World) (K : PySem.W.Frag) (mg : Str → Option Value) (base : Heap) (k : Nat) (x : Str) (ps : List Str) (S : FS) : Prop where
  ok : ∃ f fd, FnOk P w K mg base CX0 k f fd ps (spOf S) ∧ mg x = some (.ref f) ∧ PySem.W.keepIn K (.ref f) = true ∧ Binds K fd ps []
/-- what is asked of a body's reading -/
def Body (t : DS) (N : List Str) (S : FS) : Prop := ∀ xs mu Q, S xs mu Q → t { nx := fun _ mu' => retQ mu.length Q (.dv (.dat .non)) mu', rt := retQ mu.length Q } (startD N xs) mu
theorem Df.cal {P : Program} {w : World} {K : PySem.W.Frag} {mg : Str → Option Value} {base : Heap} {x : Str} {st : Stmt} {N ps : List Str} {S : FS} {t : DS} (k : Nat) (D : Df K mg x st ps) (sc : FnScope N ps (defScope st))
    (len : ∀ xs mu Q, S xs mu Q → xs.length = ps.length) (rd : Body t N S)
    (body : ∀ (f : Addr) (cdv : Value) (A : Around) (outer : List Env) (s : Shared) (H : Hp) (E : XK), Room k (A.deeper (envOfC x (defScope st) s.heap.objs.size f cdv)) →
      CSs (cxOf CX0 P w K mg base N x (defScope st) f cdv A outer s H E).nox (defBody st) t) : Cal P w K mg base (k + 1) x ps S := by
  obtain ⟨f, fd, F, m, b⟩ := D.ok
  exact ⟨f, fd, dfn F sc len fun cdv A outer s H E hr => ⟨t, body f cdv A outer s H E hr, rd⟩, m, F.kp, b⟩
section
variable {X : Cx} {e : Expr} {es : List Expr} {pos p : Pos} {x : Str} {ps : List Str} {k : Nat} {S : FS} {tr : DA}
theorem cc (G : Cal X.prog X.w X.K X.mg X.base k x ps S) (hr : Room k X.A) (ha : CA X (e :: es) tr) (hg : Gl X x := by rfl)
    (hdb : (x == ("__debug__" : Str)) = false := by decide) (he : starEach (e :: es) X.env = (false, eval e X.env) :: starEach es X.env := by rfl) (hpl : (backTo pos (starEach es X.env)).any (·.1) = false := by rfl) :
    CE X (.Call (.Name x p) (e :: es) [] pos) (dCall S tr) := let ⟨_, _, g, m, kp, b⟩ := G.ok; ce_call g hr m kp b ha hg hdb he hpl
theorem ccF (G : Cal X.prog X.w X.K X.mg X.base k x ps S) (hr : Room k X.A) (ha : CA X (e :: es) tr) (hg : Gl X x := by rfl)
    (hdb : (x == ("__debug__" : Str)) = false := by decide) (he : starEach (e :: es) X.env = (false, eval e X.env) :: starEach es X.env := by rfl) (hpl : (backTo pos (starEach es X.env)).any (·.1) = false := by rfl) :
    CF X (.Call (.Name x p) (e :: es) [] pos) (fCall S tr) := let ⟨_, _, g, m, kp, b⟩ := G.ok; cf_call g hr m kp b ha hg hdb he hpl
theorem ccR (G : Cal X.prog X.w X.K X.mg X.base k x ps S) (hr : Room k X.A) (ha : CA X (e :: es) tr) (hg : Gl X x := by rfl)
    (hdb : (x == ("__debug__" : Str)) = false := by decide) (he : starEach (e :: es) X.env = (false, eval e X.env) :: starEach es X.env := by rfl) (hpl : (backTo pos (starEach es X.env)).any (·.1) = false := by rfl) :
    CE X (.Call (.Name x p) (e :: es) [] pos) (dCallR S tr) := let ⟨_, _, g, m, kp, b⟩ := G.ok; ce_callR g hr m kp b ha hg hdb he hpl
theorem ccRF (G : Cal X.prog X.w X.K X.mg X.base k x ps S) (hr : Room k X.A) (ha : CA X (e :: es) tr) (hg : Gl X x := by rfl)
    (hdb : (x == ("__debug__" : Str)) = false := by decide) (he : starEach (e :: es) X.env = (false, eval e X.env) :: starEach es X.env := by rfl) (hpl : (backTo pos (starEach es X.env)).any (·.1) = false := by rfl) :
    CF X (.Call (.Name x p) (e :: es) [] pos) (fCallR S tr) := let ⟨_, _, g, m, kp, b⟩ := G.ok; cf_callR g hr m kp b ha hg hdb he hpl
theorem ccS (G : Cal X.prog X.w X.K X.mg X.base k x ps S) (hr : Room k X.A) (ha : CA X (e :: es) tr) (hg : Gl X x := by rfl)
    (hdb : (x == ("__debug__" : Str)) = false := by decide) (he : starEach (e :: es) X.env = (false, eval e X.env) :: starEach es X.env := by rfl) (hpl : (backTo pos (starEach es X.env)).any (·.1) = false := by rfl) :
    CE X (.Call (.Name x p) (e :: es) [] pos) (dCallS S tr) := let ⟨_, _, g, m, kp, b⟩ := G.ok; ce_callS g hr m kp b ha hg hdb he hpl
end
end Dx

namespace Dx
open PySem PySem.Spec PyProof.Rows L2
open Evl (Ex)
variable [Tb]

/-- a written text's signs -/
def lit (s : String) : List Nat := (Str.ofString s).cps.toList
abbrev dSub : D2 := dI2 fun i j => .int (i - j)
abbrev dFdiv : D2 := dII CDiv fun i j => .int (i / j)
abbrev dMod : D2 := dII (fun _ j => 0 < j) fun i j => .int (i % j)
abbrev dPow : D2 := dII CPow fun i j => .int (i ^ j.toNat)
theorem b_len : bootBuiltins "len" = some (.builtin "len") := by decide +kernel
theorem b_list : bootBuiltins "list" = some (.type "list") := by decide +kernel
theorem b_tuple : bootBuiltins "tuple" = some (.type "tuple") := by decide +kernel
theorem b_int : bootBuiltins "int" = some (.type "int") := by decide +kernel
theorem b_bool : bootBuiltins "bool" = some (.type "bool") := by decide +kernel
theorem b_str : bootBuiltins "str" = some (.type "str") := by decide +kernel
theorem b_dict : bootBuiltins "dict" = some (.type "dict") := by decide +kernel
theorem b_all : bootBuiltins "all" = some (.builtin "all") := by decide +kernel
theorem b_any : bootBuiltins "any" = some (.builtin "any") := by decide +kernel
theorem b_sum : bootBuiltins "sum" = some (.builtin "sum") := by decide +kernel
theorem b_max : bootBuiltins "max" = some (.builtin "max") := by decide +kernel
theorem b_sorted : bootBuiltins "sorted" = some (.builtin "sorted") := by decide +kernel

/-! ### small words for the readings -/
theorem it2 {b : Bool} {A B : Prop} (h1 : b = true → A) (h2 : b = false → B) : if b = true then A else B := by
  cases b with
  | true => rw [if_pos rfl]; exact h1 rfl
  | false => rw [if_neg Bool.false_ne_true]; exact h2 rfl
theorem itD {p : Prop} [Decidable p] {A B : Prop} (h1 : p → A) (h2 : ¬ p → B) : if decide p = true then A else B :=
  it2 (fun h => h1 (of_decide_eq_true h)) (fun h => h2 (of_decide_eq_false h))
theorem itN {p : Prop} [Decidable p] {A B : Prop} (h1 : ¬ p → A) (h2 : p → B) : if (!decide p) = true then A else B := by
  by_cases h : p
  · rw [decide_eq_true h]; exact h2 h
  · rw [decide_eq_false h]; exact h1 h
theorem itI {i j : Int} {A B : Prop} (h1 : i = j → A) (h2 : ¬ i = j → B) : if (eqD (.int i) (.int j)) = true then A else B := by
  have e : eqD (.int i) (.int j) = decide (i = j) := by
    show (i == j) = decide (i = j)
    exact Bool.beq_eq_decide_eq i j
  rw [e]
  exact itD h1 h2
theorem eqD_int (i j : Int) : eqD (.int i) (.int j) = decide (i = j) := Bool.beq_eq_decide_eq i j
theorem eqD_str (a b : List Nat) : eqD (.str a) (.str b) = decide (a = b) := by
  show (mkS a == mkS b) = decide (a = b)
  rw [beq_mkS]
  exact Bool.beq_eq_decide_eq a b
theorem eqD_bl (a b : Bool) : eqD (.bl a) (.bl b) = (a == b) := rfl
theorem okD_int (n : Nat) (i : Int) : okD n (.int i) = true := by cases n <;> rfl
theorem okD_bl (n : Nat) (i : Bool) : okD n (.bl i) = true := by cases n <;> rfl

/-! ### draws -/
def FlowOk (m : MC) : Prop := ∃ (ns : List Int) (a b c d : Int), m = .lst [.lst (ns.map D.int), .int a, .int b, .int c, .int d] ∧ 0 ≤ a ∧ ns.length ≤ 63 ∧ 0 ≤ b ∧ 0 ≤ c ∧ c < 2147483647
def S_w_flow (K : PySem.W.Frag) : FS := fun xs mu Q => ∃ ns : List Int, xs = [.dat (.scr K ns)] ∧ ns.length ≤ 63 ∧ mu = [] ∧ Q (.new (.lst [.lst (ns.map D.int), .int 0, .int 0, .int 1, .int 0])) []
def S_w_pick : FS := fun xs mu Q => ∃ m n, mu = [m] ∧ FlowOk m ∧ xs = [.cel 0, .dat (.int n)] ∧ 0 < n ∧ n < 1073741824 ∧ ∀ r m', FlowOk m' → 0 ≤ r → r < n → Q (.dv (.dat (.int r))) [m']
def t_w_flow (K : PySem.W.Frag) : DS :=
  (dRetF (fLst (aCons (dFrz (fCB (fListScr K) (aCons (dVar 0) aNil))) (aCons (dC (.int 0)) (aCons (dC (.int 0)) (aCons (dC (.int 1)) (aCons (dC (.int 0)) aNil)))))))
theorem len_w_flow {K : PySem.W.Frag} : ∀ xs mu Q, S_w_flow K xs mu Q → xs.length = 1 := fun xs mu Q h => by
  obtain ⟨ns, rfl, _⟩ := h
  rfl
theorem rd_w_flow {K : PySem.W.Frag} : Body (t_w_flow K) ["_law_script"] (S_w_flow K) := fun xs mu Q h => by
  obtain ⟨ns, rfl, h63, rfl, q⟩ := h
  refine ⟨rfl, ?_⟩
  refine ⟨by show 5 ≤ 1000; omega, ?_⟩
  exact q
/- slots of w_pick: 0 flow_here, 1 many, 2 cell, 3 digit -/
def t_w_pick : DS :=
  (dSeq (dIf (dAnd (dTest (dOp dEq (dOp dIx (dVar 0) (dC (.int 2))) (dC (.int 0)))) (dTest (dOp dLt (dOp dIx (dVar 0) (dC (.int 1))) (dCB dLen (aCons (dOp dIx (dVar 0) (dC (.int 0))) aNil)))))
  (dSeq (dSet 2 (dOp dIx (dOp dIx (dVar 0) (dC (.int 0))) (dOp dIx (dVar 0) (dC (.int 1)))))
  (dSeq (dPutL (dVar 0) (dC (.int 1)) (dOp dAdd (dOp dIx (dVar 0) (dC (.int 1))) (dC (.int 1))))
  (dIf (dTest (dOp dGe (dVar 2) (dOp dPow (dC (.int 10)) (dC (.int 18)))))
  (dPutL (dVar 0) (dC (.int 2)) (dVar 2))
  (dPutL (dVar 0) (dC (.int 3)) (dOp dMod (dOp dAdd (dOp dAdd (dOp dMul (dOp dIx (dVar 0) (dC (.int 3))) (dC (.int 40013))) (dOp dMod (dVar 2) (dC (.int 1000003)))) (dC (.int 1))) (dC (.int 2147483647)))))))
  dNext)
  (dSeq (dIf (dTest (dOp dGt (dOp dIx (dVar 0) (dC (.int 2))) (dC (.int 0))))
  (dSeq (dSet 3 (dOp dMod (dOp dIx (dVar 0) (dC (.int 2))) (dVar 1)))
  (dSeq (dPutL (dVar 0) (dC (.int 2)) (dOp dFdiv (dOp dIx (dVar 0) (dC (.int 2))) (dVar 1)))
  (dRet (dVar 3))))
  dNext)
  (dSeq (dPutL (dVar 0) (dC (.int 4)) (dOp dAdd (dOp dIx (dVar 0) (dC (.int 4))) (dC (.int 1))))
  (dSeq (dPutL (dVar 0) (dC (.int 3)) (dOp dMod (dOp dAdd (dOp dAdd (dOp dMul (dOp dIx (dVar 0) (dC (.int 3))) (dC (.int 48271))) (dC (.int 12820163))) (dOp dIx (dVar 0) (dC (.int 4)))) (dC (.int 2147483647))))
  (dRet (dOp dMod (dOp dFdiv (dOp dMod (dOp dMul (dOp dAdd (dOp dMod (dOp dIx (dVar 0) (dC (.int 3))) (dC (.int 65521))) (dC (.int 1))) (dOp dAdd (dOp dFdiv (dOp dIx (dVar 0) (dC (.int 3))) (dC (.int 65521))) (dC (.int 7919)))) (dC (.int 1000003))) (dC (.int 7))) (dVar 1)))))))
theorem len_w_pick : ∀ xs mu Q, S_w_pick xs mu Q → xs.length = 2 := fun xs mu Q h => by
  obtain ⟨m, n, _, _, rfl, _⟩ := h
  rfl
/-- from the second half on -/
theorem pick_rest {ns : List Int} {a b c d n : Int} {x2 x3 : Option DV} {Q : RV → Mu → Prop} (h0 : 0 ≤ a) (h63 : ns.length ≤ 63) (hb : 0 ≤ b) (hc : 0 ≤ c) (hc2 : c < 2147483647) (hn : 0 < n) (hn2 : n < 1073741824)
    (q : ∀ r m', FlowOk m' → 0 ≤ r → r < n → Q (.dv (.dat (.int r))) [m']) :
  (dSeq (dIf (dTest (dOp dGt (dOp dIx (dVar 0) (dC (.int 2))) (dC (.int 0))))
  (dSeq (dSet 3 (dOp dMod (dOp dIx (dVar 0) (dC (.int 2))) (dVar 1)))
  (dSeq (dPutL (dVar 0) (dC (.int 2)) (dOp dFdiv (dOp dIx (dVar 0) (dC (.int 2))) (dVar 1)))
  (dRet (dVar 3))))
  dNext)
  (dSeq (dPutL (dVar 0) (dC (.int 4)) (dOp dAdd (dOp dIx (dVar 0) (dC (.int 4))) (dC (.int 1))))
  (dSeq (dPutL (dVar 0) (dC (.int 3)) (dOp dMod (dOp dAdd (dOp dAdd (dOp dMul (dOp dIx (dVar 0) (dC (.int 3))) (dC (.int 48271))) (dC (.int 12820163))) (dOp dIx (dVar 0) (dC (.int 4)))) (dC (.int 2147483647))))
  (dRet (dOp dMod (dOp dFdiv (dOp dMod (dOp dMul (dOp dAdd (dOp dMod (dOp dIx (dVar 0) (dC (.int 3))) (dC (.int 65521))) (dC (.int 1))) (dOp dAdd (dOp dFdiv (dOp dIx (dVar 0) (dC (.int 3))) (dC (.int 65521))) (dC (.int 7919)))) (dC (.int 1000003))) (dC (.int 7))) (dVar 1))))))
   { nx := fun _ mu' => retQ 1 Q (.dv (.dat .non)) mu', rt := retQ 1 Q } [some (.cel 0), some (.dat (.int n)), x2, x3] [.lst [.lst (ns.map D.int), .int a, .int b, .int c, .int d]] := by
  refine itD (p := (0 : Int) < b) (fun hb2 => ?_) (fun hb2 => ?_)
  · refine ⟨hn, ?_⟩
    refine ⟨⟨hn, hn2⟩, ?_⟩
    refine q _ _ ⟨ns, a, b / n, c, d, rfl, h0, h63, Int.ediv_nonneg hb (by omega), hc, hc2⟩ (Int.emod_nonneg _ (by omega)) (Int.emod_lt_of_pos _ hn)
  · refine ⟨.inr (by omega), ⟨(by show (0 : Int) < 2147483647; decide), ?_⟩⟩
    refine ⟨(by show (0 : Int) < 65521; decide), ?_⟩
    refine ⟨⟨by decide, by decide⟩, ?_⟩
    refine ⟨.inl ⟨?_, ?_⟩, ?_⟩
    · have := Int.emod_nonneg ((c * 48271 + 12820163 + (d + 1)) % 2147483647) (show (65521 : Int) ≠ 0 by decide)
      omega
    · have := Int.emod_lt_of_pos ((c * 48271 + 12820163 + (d + 1)) % 2147483647) (show (0 : Int) < 65521 by decide)
      omega
    refine ⟨(by show (0 : Int) < 1000003; decide), ?_⟩
    refine ⟨⟨by decide, by decide⟩, ?_⟩
    refine ⟨hn, ?_⟩
    refine q _ _ ⟨ns, a, b, (c * 48271 + 12820163 + (d + 1)) % 2147483647, d + 1, rfl, h0, h63, hb, Int.emod_nonneg _ (by decide), Int.emod_lt_of_pos _ (by decide)⟩ (Int.emod_nonneg _ (by omega)) (Int.emod_lt_of_pos _ hn)
theorem rd_w_pick : Body t_w_pick ["_law_flow_here", "_law_many", "_law_cell", "_law_digit"] S_w_pick := fun xs mu Q h => by
  obtain ⟨m, n, rfl, ⟨ns, a, b, c, d, rfl, h0, h63, hb, hc, hc2⟩, rfl, hn, hn2, q⟩ := h
  refine ⟨rfl, rfl, ?_⟩
  refine itI (fun hb0 => ?_) (fun hb0 => ?_)
  · refine itD (p := a < (((ns.map D.int).length : Nat) : Int)) (fun ha => ?_) (fun ha => ?_)
    · rw [List.length_map] at ha
      have hk : a.toNat < ns.length := by omega
      have ea : L2.atI (ns.map D.int) a = some (.int ns[a.toNat]) := by
        have w : L2.atI (ns.map D.int) ((a.toNat : Nat) : Int) = some (.int ns[a.toNat]) := L2.atI_nat (by rw [List.getElem?_map, List.getElem?_eq_getElem hk]; rfl)
        rwa [show ((a.toNat : Nat) : Int) = a by omega] at w
      show onSome (L2.atI (ns.map D.int) a) _
      rw [ea]
      refine ⟨⟨by decide, by decide, by decide⟩, ?_⟩
      refine itD (p := (10 : Int) ^ (18 : Nat) ≤ ns[a.toNat]) (fun hg => ?_) (fun hg => ?_)
      · exact pick_rest (by omega) h63 (Int.le_trans (by decide) hg) hc hc2 hn hn2 q
      · refine ⟨.inr (by omega), (by show (0 : Int) < 1000003; decide), (by show (0 : Int) < 2147483647; decide), ?_⟩
        exact pick_rest (by omega) h63 hb (Int.emod_nonneg _ (by decide)) (Int.emod_lt_of_pos _ (by decide)) hn hn2 q
    · exact pick_rest h0 h63 hb hc hc2 hn hn2 q
  · exact pick_rest h0 h63 hb hc hc2 hn hn2 q
end Dx

namespace Dx
open PySem PySem.Spec PyProof.Rows L2
open Evl (Ex)
variable [Tb]

/-! ### loops by an invariant -/
theorem for_inv {t : DG} {tb : DS} {N : DEnds} {ds : List D} {rho : Rho} {mu : Mu} (P : Nat → Rho → Mu → Prop) (h0 : P 0 rho mu)
    (step : ∀ (i : Nat) (d : D) (rho : Rho) (mu : Mu) (K : Rho → Mu → Prop), ds[i]? = some d → P i rho mu → (∀ rho mu, P (i + 1) rho mu → K rho mu) → t d rho fun rho' => tb { N with nx := K, ct := K, bk := N.nx } rho' mu)
    (hd : ∀ rho mu, P ds.length rho mu → N.nx rho mu) : dForL t tb N ds rho mu := by
  have key : ∀ (es : List D) (i : Nat), ds.drop i = es → i ≤ ds.length → ∀ rho mu, P i rho mu → dForL t tb N es rho mu := by
    intro es
    induction es with
    | nil =>
      intro i e hi rho mu p
      have hl : ds.length = i := by
        have := congrArg List.length e
        rw [List.length_drop, List.length_nil] at this
        omega
      rw [dForL]
      exact hd rho mu (by rw [hl]; exact p)
    | cons d es ih =>
      intro i e hi rho mu p
      have hl : i < ds.length := by
        have := congrArg List.length e
        rw [List.length_drop, List.length_cons] at this
        omega
      have e2 := List.drop_eq_getElem_cons hl
      rw [e] at e2
      injection e2 with e3 e4
      rw [dForL]
      exact step i d rho mu _ (by rw [List.getElem?_eq_getElem hl, e3]) p (fun rho mu p' => ih (i + 1) e4.symm hl rho mu p')
  exact key ds 0 (List.drop_zero) (Nat.zero_le _) rho mu h0
theorem comp_inv {t : DG} {tt : DT} {te : DE} {rho : Rho} {Q : List D → Mu → Prop} {ds : List D} {mu : Mu} (P : Nat → List D → Mu → Prop) (h0 : P 0 [] mu)
    (step : ∀ (i : Nat) (d : D) (acc : List D) (mu : Mu) (K : List D → Mu → Prop), ds[i]? = some d → P i acc mu → (∀ acc mu, P (i + 1) acc mu → K acc mu) →
      t d rho fun rho' => tt rho' mu fun b mu1 => if b = true then te rho' mu1 fun x mu2 => onD x fun y => acc.length < 100000 ∧ K (acc ++ [y]) mu2 else K acc mu1)
    (hd : ∀ acc mu, P ds.length acc mu → Q acc mu) : dCompL t tt te rho Q ds [] mu := by
  have key : ∀ (es : List D) (i : Nat), ds.drop i = es → i ≤ ds.length → ∀ acc mu, P i acc mu → dCompL t tt te rho Q es acc mu := by
    intro es
    induction es with
    | nil =>
      intro i e hi acc mu p
      have hl : ds.length = i := by
        have := congrArg List.length e
        rw [List.length_drop, List.length_nil] at this
        omega
      rw [dCompL]
      exact hd acc mu (by rw [hl]; exact p)
    | cons d es ih =>
      intro i e hi acc mu p
      have hl : i < ds.length := by
        have := congrArg List.length e
        rw [List.length_drop, List.length_cons] at this
        omega
      have e2 := List.drop_eq_getElem_cons hl
      rw [e] at e2
      injection e2 with e3 e4
      rw [dCompL]
      exact step i d acc mu _ (by rw [List.getElem?_eq_getElem hl, e3]) p (fun acc mu p' => ih (i + 1) e4.symm hl acc mu p')
  exact key ds 0 (List.drop_zero) (Nat.zero_le _) [] mu h0
theorem rng_len (lo : Int) (n : Nat) : (rngD lo n).length = n := by
  unfold rngD
  rw [List.length_map, List.length_range]
theorem rng_at {lo : Int} {n i : Nat} {d : D} (h : (rngD lo n)[i]? = some d) : d = .int (lo + i) ∧ i < n := by
  unfold rngD at h
  rw [List.getElem?_map] at h
  by_cases hi : i < n
  · rw [List.getElem?_range hi] at h
    exact ⟨(Option.some.inj h).symm, hi⟩
  · rw [List.getElem?_eq_none (by rw [List.length_range]; omega)] at h
    cases h
theorem rngB_len (lo : Int) (n : Nat) : (rngB lo n).length = n := by
  unfold rngB
  rw [List.length_map, List.length_range]
theorem rngB_at {lo : Int} {n i : Nat} {d : D} (h : (rngB lo n)[i]? = some d) : d = .int (lo - i) ∧ i < n := by
  unfold rngB at h
  rw [List.getElem?_map] at h
  by_cases hi : i < n
  · rw [List.getElem?_range hi] at h
    exact ⟨(Option.some.inj h).symm, hi⟩
  · rw [List.getElem?_eq_none (by rw [List.length_range]; omega)] at h
    cases h

/-! ### places, signs -/
theorem atI_of {α : Type} {xs : List α} {i : Int} {v : α} (h0 : 0 ≤ i) (h : xs[i.toNat]? = some v) : L2.atI xs i = some v := by
  have w := L2.atI_nat h
  rwa [show ((i.toNat : Nat) : Int) = i by omega] at w
theorem some_atI {α : Type} {xs : List α} {i : Int} (h0 : 0 ≤ i) (h1 : i < xs.length) : ∃ v, L2.atI xs i = some v ∧ xs[i.toNat]? = some v := by
  have hk : i.toNat < xs.length := by omega
  exact ⟨xs[i.toNat], atI_of h0 (List.getElem?_eq_getElem hk), List.getElem?_eq_getElem hk⟩
theorem on_some {α : Type} {o : Option α} {k : α → Prop} {a : α} (e : o = some a) (h : k a) : onSome o k := by
  rw [e]
  exact h
/-- l[i] of a text -/
theorem ix_str {s : List Nat} {i : Int} {mu : Mu} {Q : DQ} (h0 : 0 ≤ i) (h1 : i < s.length) (hl : s.length ≤ 100000) (q : ∀ c, s[i.toNat]? = some c → Q (.dat (.str [c])) mu) : dIx (.dat (.str s)) (.dat (.int i)) mu Q := by
  obtain ⟨c, h2, h3⟩ := some_atI h0 h1
  refine ⟨hl, ?_⟩
  exact on_some h2 (q c h3)
theorem cut_to {α : Type} (s : List α) (n : Nat) : cut s none (some (n : Int)) = s.take n := by
  unfold cut
  rw [HT.sIx_none, HT.sIx_nat, List.drop_zero, Nat.sub_zero]
  by_cases h : n ≤ s.length
  · rw [Nat.min_eq_left h]
  · rw [Nat.min_eq_right (by omega), List.take_of_length_le (Nat.le_refl _), List.take_of_length_le (by omega)]
theorem cut_from {α : Type} (s : List α) (n : Nat) : cut s (some (n : Int)) none = s.drop n := by
  unfold cut
  rw [HT.sIx_none, HT.sIx_nat]
  by_cases h : n ≤ s.length
  · rw [Nat.min_eq_left h]
    exact List.take_of_length_le (by rw [List.length_drop]; exact Nat.le_refl _)
  · rw [Nat.min_eq_right (by omega), List.drop_eq_nil_of_le (Nat.le_refl _), List.drop_eq_nil_of_le (by omega)]
    simp
theorem cut_both {α : Type} (s : List α) (m n : Nat) : cut s (some (m : Int)) (some (n : Int)) = (s.drop m).take (n - m) := by
  unfold cut
  rw [HT.sIx_nat, HT.sIx_nat]
  by_cases h : m ≤ s.length
  · rw [Nat.min_eq_left h]
    by_cases h2 : n ≤ s.length
    · rw [Nat.min_eq_left h2]
    · rw [Nat.min_eq_right (by omega), List.take_of_length_le (by rw [List.length_drop]; exact Nat.le_refl _), List.take_of_length_le (by rw [List.length_drop]; omega)]
  · rw [Nat.min_eq_right (show s.length ≤ m by omega), List.drop_eq_nil_of_le (Nat.le_refl _), List.drop_eq_nil_of_le (by omega)]
    simp
theorem joinL_nil : ∀ ws : List (List Nat), TL.joinL [] ws = ws.flatten
  | [] => rfl
  | [p] => by simp [TL.joinL]
  | p :: q :: r => by
    show p ++ ([] ++ TL.joinL [] (q :: r)) = _
    rw [List.nil_append, joinL_nil (q :: r)]
    rfl
theorem lit_nil : lit "" = [] := by decide +kernel
theorem flat_one (l : List Nat) : (l.map fun c => [c]).flatten = l := by
  induction l with
  | nil => rfl
  | cons c r ih => rw [List.map_cons, List.flatten_cons, ih]; rfl
theorem sum_one (l : List Nat) : ((l.map fun c => [c]).map List.length).sum = l.length := by
  induction l with
  | nil => rfl
  | cons c r ih => rw [List.map_cons, List.map_cons, List.sum_cons, ih, List.length_cons, List.length_cons, List.length_nil]; omega
theorem map_str1 (l : List Nat) : (l.map fun c => D.str [c]) = (l.map fun c => [c]).map D.str := by
  rw [List.map_map]
  rfl
/-- ''.join of signs -/
theorem join_signs {l : List Nat} {mu : Mu} {Q : DQ} (hl : l.length ≤ 100000) (q : Q (.dat (.str l)) mu) : dJoin (.dat (.str (lit ""))) [.dat (.lst (l.map fun c => D.str [c]))] mu Q := by
  have e : toSs (l.map fun c => D.str [c]) = some (l.map fun c => [c]) := by
    rw [map_str1, toSs_of]
  unfold dJoin
  refine on_some (a := l.map fun c => [c]) e ?_
  rw [lit_nil, joinL_nil, flat_one, sum_one]
  exact ⟨by simp; exact hl, q⟩

/-! ### the law's letters -/
def letD (c : Nat) : D := .str [c]
def abc : List Nat := lit "abcdefghijklmnopqrstuvwxyz"
theorem abc_eq : abc = [97, 98, 99, 100, 101, 102, 103, 104, 105, 106, 107, 108, 109, 110, 111, 112, 113, 114, 115, 116, 117, 118, 119, 120, 121, 122] := by decide +kernel
theorem abc_nodup : abc.Nodup := by
  rw [abc_eq]
  decide
theorem abc_len : abc.length = 26 := by
  rw [abc_eq]
  rfl
/-- letters: rising, unlike, small -/
def IsLetters (l : List Nat) : Prop := l.Pairwise (· < ·) ∧ ∀ c ∈ l, c ∈ abc
theorem abc_small {c : Nat} (h : c ∈ abc) : 97 ≤ c ∧ c ≤ 122 := by
  rw [abc_eq] at h
  simp at h
  omega
theorem in_abc {c : Nat} : c ∈ abc ↔ 97 ≤ c ∧ c ≤ 122 := by
  refine ⟨abc_small, fun h => ?_⟩
  rw [abc_eq]
  simp
  omega
theorem lt_one (a b : Nat) : ltCps [a] [b] = decide (a < b) := by
  show (decide (a < b) || (a == b && false)) = decide (a < b)
  rw [Bool.and_false, Bool.or_false]
theorem sorted_one : ∀ {l : List Nat}, sortedL (l.map fun c => [c]) → l.Pairwise (· ≤ ·)
  | [], _ => .nil
  | c :: r, h => by
    have key : ∀ (r : List Nat) (c : Nat), risingS (mkS [c]) ((r.map fun c => [c]).map mkS) = true → (c :: r).Pairwise (· ≤ ·) := by
      intro r
      induction r with
      | nil => intro c _; exact List.pairwise_singleton _ _
      | cons d r ih =>
        intro c h
        have h2 : (!ltCps [d] [c] && risingS (mkS [d]) ((r.map fun c => [c]).map mkS)) = true := h
        rw [Bool.and_eq_true_iff, lt_one] at h2
        have h3 : ¬ d < c := by
          have := h2.1
          simpa using this
        have h4 := ih d h2.2
        refine List.pairwise_cons.mpr ⟨fun x hx => ?_, h4⟩
        rcases List.mem_cons.mp hx with e | hx
        · omega
        · have := (List.pairwise_cons.mp h4).1 x hx
          omega
    exact key r c h
theorem strict_of {l : List Nat} (h : l.Pairwise (· ≤ ·)) (n : l.Nodup) : l.Pairwise (· < ·) := by
  induction l with
  | nil => exact .nil
  | cons c r ih =>
    rw [List.pairwise_cons] at h
    rw [List.nodup_cons] at n
    refine List.pairwise_cons.mpr ⟨fun x hx => ?_, ih h.2 n.2⟩
    have := h.1 x hx
    have : c ≠ x := fun e => n.1 (e ▸ hx)
    omega
def S_w_letters : FS := fun xs mu Q => ∃ m n, mu = [m] ∧ FlowOk m ∧ xs = [.cel 0, .dat (.int n)] ∧ 0 ≤ n ∧ n ≤ 26 ∧ ∀ l m', FlowOk m' → IsLetters l → (l.length : Int) = n → Q (.dv (.dat (.str l))) [m']
def t_w_letters : DS :=
  (dSeq (dSet 2 (dNew (fCB fListS (aCons (dC (.str (lit "abcdefghijklmnopqrstuvwxyz"))) aNil))))
  (dRet (dBM "str" dJoin (dC (.str (lit ""))) (aCons (dFrz (fCB fSortedS (aCons (dFrz (fLc (iRg1 (aCons (dVar 1) aNil)) (dgN 3) dYes (dBM "list" dPopAt (dVar 2) (aCons (dCallR S_w_pick (aCons (dVar 0) (aCons (dCB dLen (aCons (dVar 2) aNil)) aNil))) aNil)) [3])) aNil))) aNil))))
theorem len_w_letters : ∀ xs mu Q, S_w_letters xs mu Q → xs.length = 2 := fun xs mu Q h => by
  obtain ⟨m, n, _, _, rfl, _⟩ := h
  rfl
theorem perm_erase : ∀ {l : List Nat} {i : Nat} {c : Nat}, l[i]? = some c → (c :: l.eraseIdx i).Perm l
  | [], i, c, h => by simp at h
  | d :: l, 0, c, h => by
    have e : d = c := Option.some.inj h
    subst e
    exact List.Perm.refl _
  | d :: l, i + 1, c, h => by
    have h' : l[i]? = some c := by simpa using h
    have w := perm_erase h'
    show (c :: d :: l.eraseIdx i).Perm (d :: l)
    exact (List.Perm.swap d c _).trans (w.cons d)
theorem perm_pop {l acc : List Nat} {i : Nat} {c : Nat} (h : l[i]? = some c) : (acc ++ [c] ++ l.eraseIdx i).Perm (acc ++ l) := by
  rw [List.append_assoc]
  exact List.Perm.append_left acc (perm_erase h)
theorem FlowOk.live {m : MC} (h : FlowOk m) : isDead m = false := by
  obtain ⟨_, _, _, _, _, rfl, _⟩ := h
  rfl
theorem eraseIdx_map' {l : List Nat} : ∀ i : Nat, (l.map letD).eraseIdx i = (l.eraseIdx i).map letD := by
  induction l with
  | nil => intro i; rfl
  | cons c r ih =>
    intro i
    cases i with
    | zero => rfl
    | succ i => 
      show letD c :: (r.map letD).eraseIdx i = letD c :: (r.eraseIdx i).map letD
      rw [ih]
theorem toSs_one (l : List Nat) : toSs (l.map letD) = some (l.map fun c => [c]) := by
  have e : l.map letD = (l.map fun c => [c]).map D.str := by
    rw [List.map_map]
    rfl
  rw [e, toSs_of]
theorem rd_w_letters : Body t_w_letters ["_law_flow_here", "_law_many", "_law_left", "_law_k"] S_w_letters := fun xs mu Q h => by
  obtain ⟨m, n, rfl, fo, rfl, h0, h26, q⟩ := h
  refine ⟨by show abc.length ≤ 100000; rw [abc_len]; omega, ?_⟩
  refine ⟨rfl, ?_⟩
  refine ⟨by omega, by omega, ?_⟩
  refine comp_inv (fun i acc mu => ∃ used left m', acc = used.map letD ∧ mu = [m', .lst (left.map letD)] ∧ FlowOk m' ∧ (used ++ left).Perm abc ∧ used.length = i) ⟨[], abc, m, rfl, rfl, fo, List.Perm.refl _, rfl⟩ (fun i d acc mu K hd hp k => ?_) (fun acc mu hp => ?_)
  · obtain ⟨used, left, m', rfl, rfl, fo', pm, ul⟩ := hp
    obtain ⟨rfl, hi⟩ := rng_at hd
    have hl : left.length = 26 - i := by
      have := pm.length_eq
      rw [List.length_append, abc_len] at this
      omega
    refine ⟨rfl, ?_⟩
    refine ⟨fo'.live, rfl, ?_⟩
    refine ⟨m', _, rfl, fo', rfl, by rw [List.length_map]; omega, by rw [List.length_map]; omega, fun r m2 fo2 r0 r1 => ?_⟩
    rw [List.length_map] at r1
    refine ⟨r0, by rw [List.length_map]; exact r1, by rw [List.length_map]; omega, ?_⟩
    have hr : r.toNat < left.length := by omega
    refine on_some (a := letD left[r.toNat]) (by rw [List.getElem?_map, List.getElem?_eq_getElem hr]; rfl) ?_
    refine ⟨by rw [List.length_map]; omega, k _ _ ⟨used ++ [left[r.toNat]], left.eraseIdx r.toNat, m2, by rw [List.map_append]; rfl, ?_, fo2, (perm_pop (List.getElem?_eq_getElem hr)).trans pm, by rw [List.length_append, ul]; rfl⟩⟩
    rw [← eraseIdx_map']
    rfl
  · obtain ⟨used, left, m', rfl, rfl, fo', pm, ul⟩ := hp
    rw [rng_len] at ul
    refine on_some (a := used.map fun c => [c]) (toSs_one used) ?_
    refine ⟨by rw [List.length_map]; omega, fun ns' pm' st => ?_⟩
    obtain ⟨l, rfl, pl⟩ : ∃ l : List Nat, ns' = l.map (fun c => [c]) ∧ l.Perm used := by
      refine ⟨ns'.flatten, ?_, ?_⟩
      · have all1 : ∀ w ∈ ns', ∃ c, w = [c] := fun w hw => by
          have := pm'.mem_iff.mp hw
          obtain ⟨c, _, e⟩ := List.mem_map.mp this
          exact ⟨c, e.symm⟩
        clear pm' st
        induction ns' with
        | nil => rfl
        | cons w r ih =>
          obtain ⟨c, rfl⟩ := all1 w (by simp)
          rw [List.flatten_cons, List.singleton_append, List.map_cons, ← ih fun u hu => all1 u (by simp [hu])]
      · have := pm'.flatten
        rw [flat_one] at this
        exact this
    have nd : used.Nodup := by
      have := pm.nodup_iff.mpr abc_nodup
      rw [List.nodup_append] at this
      exact this.1
    have hs : IsLetters l := ⟨strict_of (sorted_one st) (pl.nodup_iff.mpr nd), fun c hc => pm.mem_iff.mp (List.mem_append_left _ (pl.mem_iff.mp hc))⟩
    have ll : l.length = used.length := pl.length_eq
    have e1 : (l.map fun c => [c]).map D.str = l.map fun c => D.str [c] := (map_str1 l).symm
    have w : dJoin (.dat (.str (lit ""))) [.dat (.lst ((l.map fun c => [c]).map D.str))] [m', .lst (left.map letD)] (fun x mu1 => retQ 1 Q (.dv x) mu1) := by
      rw [e1]
      refine join_signs (by omega) ?_
      exact q l m' fo' hs (by omega)
    exact w
/-- n signs, each of some letters -/
def S_w_word : FS := fun xs mu Q => ∃ m l n, mu = [m] ∧ FlowOk m ∧ xs = [.cel 0, .dat (.str l), .dat (.int n)] ∧ 0 < l.length ∧ l.length ≤ 1000 ∧ 0 ≤ n ∧ n ≤ 200 ∧ ∀ w m', FlowOk m' → (w.length : Int) ≤ n → (∀ c ∈ w, c ∈ l) → Q (.dv (.dat (.str w))) [m']
/-- [letters[pick(flow, len(letters))] for k in range(n)] -/
theorem comp_draw {k3 j : Nat} {l : List Nat} {m : MC} {rho : Rho} {n : Nat} {Q : List D → Mu → Prop} (fo : FlowOk m) (h0 : 0 < l.length) (hl : l.length ≤ 1000) (hn : n ≤ 1000)
    (s0 : ∀ x, slotD (setD rho k3 x) 0 = some (.cel 0)) (s1 : ∀ x, slotD (setD rho k3 x) j = some (.dat (.str l)))
    (q : ∀ (w : List Nat) m', FlowOk m' → w.length = n → (∀ c ∈ w, c ∈ l) → Q (w.map fun c => D.str [c]) [m']) :
    dCompL (dgN k3) dYes (dOp dIx (dVar j) (dCallR S_w_pick (aCons (dVar 0) (aCons (dCB dLen (aCons (dVar j) aNil)) aNil)))) rho Q (rngD 0 n) [] [m] := by
  refine comp_inv (fun i acc mu => ∃ (w : List Nat) (m' : MC), acc = (w.map fun c => D.str [c]) ∧ mu = [m'] ∧ FlowOk m' ∧ w.length = i ∧ ∀ c ∈ w, c ∈ l) ⟨[], m, rfl, rfl, fo, rfl, by simp⟩ (fun i d acc mu K hd hp k => ?_) (fun acc mu hp => ?_)
  · obtain ⟨w, m', rfl, rfl, fo', wl, wc⟩ := hp
    obtain ⟨rfl, hi⟩ := rng_at hd
    unfold dgN dYes
    simp only [if_true]
    unfold dOp dCallR aCons aNil dCB dVar
    simp only [s0, s1]
    refine ⟨by omega, ?_⟩
    refine ⟨fo'.live, rfl, ?_⟩
    refine ⟨m', _, rfl, fo', rfl, by omega, by omega, fun r m2 fo2 r0 r1 => ?_⟩
    obtain ⟨c, h2, hc⟩ := some_atI r0 r1
    refine ⟨by omega, on_some h2 ?_⟩
    refine ⟨by rw [List.length_map]; omega, k _ _ ⟨w ++ [c], m2, by rw [List.map_append]; rfl, rfl, fo2, by rw [List.length_append, wl]; rfl, fun x hx => ?_⟩⟩
    rcases List.mem_append.mp hx with z | z
    · exact wc x z
    · rw [List.mem_singleton] at z
      subst z
      exact List.mem_of_getElem? hc
  · obtain ⟨w, m', rfl, rfl, fo', wl, wc⟩ := hp
    rw [rng_len] at wl
    exact q w m' fo' wl wc
/- slots of w_word: 0 flow_here, 1 letters_here, 2 most, 3 again, 4 many, 5 piece, 6 k -/
def t_w_word : DS :=
  (dSeq (dSet 3 (dOp dEq (dCallR S_w_pick (aCons (dVar 0) (aCons (dC (.int 4)) aNil))) (dC (.int 0))))
  (dSeq (dSet 4 (dCallR S_w_pick (aCons (dVar 0) (aCons (dOp dAdd (dVar 2) (dC (.int 1))) aNil))))
  (dSeq (dIf (dTest (dVar 3))
  (dSeq (dSet 5 (dBM "str" dJoin (dC (.str (lit ""))) (aCons (dFrz (fLc (iRg1 (aCons (dOp dAdd (dC (.int 1)) (dCallR S_w_pick (aCons (dVar 0) (aCons (dC (.int 3)) aNil)))) aNil)) (dgN 6) dYes (dOp dIx (dVar 1) (dCallR S_w_pick (aCons (dVar 0) (aCons (dCB dLen (aCons (dVar 1) aNil)) aNil)))) [6])) aNil)))
  (dRet (dSl dCut (dOp dMul (dVar 5) (dVar 4)) oNone (oSome (dVar 4)))))
  dNext)
  (dRet (dBM "str" dJoin (dC (.str (lit ""))) (aCons (dFrz (fLc (iRg1 (aCons (dVar 4) aNil)) (dgN 6) dYes (dOp dIx (dVar 1) (dCallR S_w_pick (aCons (dVar 0) (aCons (dCB dLen (aCons (dVar 1) aNil)) aNil)))) [6])) aNil))))))
theorem len_w_word : ∀ xs mu Q, S_w_word xs mu Q → xs.length = 3 := fun xs mu Q h => by
  obtain ⟨m, l, n, _, _, rfl, _⟩ := h
  rfl
theorem rep_mem {w : List Nat} : ∀ {n : Nat} {c : Nat}, c ∈ (List.replicate n w).flatten → c ∈ w := by
  intro n c h
  rw [List.mem_flatten] at h
  obtain ⟨l, h1, h2⟩ := h
  rw [(List.mem_replicate.mp h1).2] at h2
  exact h2
theorem rd_w_word : Body t_w_word ["_law_flow_here", "_law_letters_here", "_law_most", "_law_again", "_law_many", "_law_piece", "_law_k"] S_w_word := fun xs mu Q h => by
  obtain ⟨m, l, n, rfl, fo, rfl, l0, l1, h0, h1, q⟩ := h
  refine ⟨fo.live, rfl, ?_⟩
  refine ⟨m, 4, rfl, fo, rfl, by omega, by omega, fun r m2 fo2 r0 r1 => ?_⟩
  refine ⟨okD_int _ _, okD_int _ _, ?_⟩
  refine ⟨fo2.live, rfl, ?_⟩
  refine ⟨m2, n + 1, rfl, fo2, rfl, by omega, by omega, fun k m3 fo3 k0 k1 => ?_⟩
  refine it2 (fun hb => ?_) (fun hb => ?_)
  · refine ⟨rfl, ?_⟩
    refine ⟨fo3.live, rfl, ?_⟩
    refine ⟨m3, 3, rfl, fo3, rfl, by omega, by omega, fun p m4 fo4 p0 p1 => ?_⟩
    refine ⟨by omega, by omega, ?_⟩
    refine comp_draw fo4 l0 l1 (by omega) (fun x => rfl) (fun x => rfl) fun w m5 fo5 wl wc => ?_
    refine join_signs (l := w) (by omega) ?_
    refine ⟨k0, by omega, by omega, ?_⟩
    refine ⟨by rw [repS_len]; have : k.toNat * w.length ≤ 1000 * 10 := Nat.mul_le_mul (by omega) (by omega); omega, ?_⟩
    have ek : k = ((k.toNat : Nat) : Int) := by omega
    refine q _ m5 fo5 ?_ (fun c hc => ?_)
    · rw [ek, cut_to, List.length_take]
      omega
    · rw [ek, cut_to] at hc
      exact wc c (rep_mem (List.mem_of_mem_take hc))
  · refine ⟨rfl, ?_⟩
    refine ⟨by omega, by omega, ?_⟩
    refine comp_draw fo3 l0 l1 (by omega) (fun x => rfl) (fun x => rfl) fun w m5 fo5 wl wc => ?_
    refine join_signs (l := w) (by omega) ?_
    exact q _ m5 fo5 (by omega) wc
end Dx

namespace Dx
open PySem PySem.Spec PyProof.Rows L2
open Evl (Ex)
variable [Tb]

/-! ### a call whose new list becomes a cell -/
def backC (mu : Mu) (Q : DQ) : RV → Mu → Prop := fun rv _ => match rv with
  | .dv (.dat d) => Q (.dat d) mu
  | .new m => Q (.cel mu.length) (mu ++ [m])
  | _ => False
def dCallN (S : FS) (ta : DA) : DE := fun rho mu Q => ta rho mu fun xs mu1 => allD xs = true ∧ S xs [] (backC mu1 Q)
theorem ge_callN {S : FS} {te : TA} {ta : DA} {E0 : XK} (g : GA te ta) : GE (tCall (spOf S) [] E0 te) (dCallN S ta) := fun F al rho mu σ H Q R St q l =>
  g F al rho mu σ H _ _ St q fun F1 al1 xs mu1 vs H1 E1 C1 r1 q1 => by
    show spOf S (vs ++ []) H1 R E0
    rw [List.append_nil]
    refine ⟨F1, [], xs, [], _, Cels.empt C1.ex C1.nt C1.tb, allD_vs r1 q1.1, q1.2, fun F' mu' rv v H' E' C' rr fr q' => ?_⟩
    obtain ⟨C2, E2⟩ := C1.over E' C'.ex C'.nt C'.tb
    cases rv with
    | dv x =>
      cases x with
      | cel k => exact q'.elim
      | dat d => exact l F' al1 (.dat d) mu1 v H' (E1.trans E2) C2 rr q'
    | new m =>
      obtain ⟨p, ev, na, dd, ok⟩ := rr
      have h0 : H1 p = none := fr p ev
      have na1 : p ∉ al1 := C1.not_al h0
      subst ev
      have E3 := E1.trans E2
      have E4 : Ext F al H F' (al1 ++ [p]) H' := ⟨E3.ex, E3.pf.trans (List.prefix_append _ _), E3.nf, fun a ha => by
        rcases List.mem_append.mp ha with z | z
        · exact E3.nc a z
        · rw [List.mem_singleton] at z
          subst z
          exact .inr (none_back (E1.dm a) h0), E3.kp, E3.dm⟩
      exact l F' (al1 ++ [p]) (.cel mu1.length) (mu1 ++ [m]) (.ref p) H' E4 (C2.grow ok na1) ⟨p, by rw [List.getElem?_append_right (by rw [C1.len]; exact Nat.le_refl _), C1.len, Nat.sub_self]; rfl, rfl⟩ q'
theorem ccN {X : Cx} {e : Expr} {es : List Expr} {pos p : Pos} {x : Str} {ps : List Str} {k : Nat} {S : FS} {tr : DA} (G : Cal X.prog X.w X.K X.mg X.base k x ps S) (hr : Room k X.A) (ha : CA X (e :: es) tr) (hg : Gl X x := by rfl)
    (hdb : (x == ("__debug__" : Str)) = false := by decide) (he : starEach (e :: es) X.env = (false, eval e X.env) :: starEach es X.env := by rfl) (hpl : (backTo pos (starEach es X.env)).any (·.1) = false := by rfl) :
    CE X (.Call (.Name x p) (e :: es) [] pos) (dCallN S tr) := by
  obtain ⟨_, _, g, m, kp, b⟩ := G.ok
  obtain ⟨_, pa, ga⟩ := ha.ok
  exact ⟨_, pe_call (E := E0) g hr hg m kp b .nil pass0 pa hdb he hpl, ge_callN ga⟩

/-! ### find of one sign, from a place on -/
def fnd (c : Nat) : List Nat → Nat → Option Nat
  | [], _ => none
  | x :: r, k => if x = c then some k else fnd c r (k + 1)
def findFrom (t : List Nat) (c k : Nat) : Option Nat := fnd c (t.drop k) k
open PySem.Builtin PySem.Builtin.Str PySem.StrLaws in
theorem occ_stop (s sub : Str) (hi : Nat) : ∀ (l : List Nat) (st : Array Nat × Nat), 1 ≤ st.fst.size → (forIn l st (occBody s sub hi 1)).run.fst = st.fst
  | [], st, h => by simp
  | a :: l, st, h => by
    rw [List.forIn_cons]
    unfold occBody
    rw [if_neg (fun z => by have := z.1.1.1; omega)]
    exact occ_stop s sub hi l _ h
open PySem.Builtin PySem.Builtin.Str PySem.StrLaws in
theorem occ_first (s sub : Str) (hi : Nat) : ∀ (l : List Nat) (free : Nat), (∀ i ∈ l, free ≤ i) →
    (forIn l ((#[] : Array Nat), free) (occBody s sub hi 1)).run.fst.toList = match l.find? (fun i => decide (i + sub.length ≤ hi) && subAt s sub i) with
      | some k => [k]
      | none => []
  | [], free, _ => by simp
  | a :: l, free, hf => by
    rw [List.forIn_cons]
    unfold occBody
    have ha : free ≤ a := hf a (List.mem_cons_self ..)
    by_cases hc : a + sub.length ≤ hi ∧ subAt s sub a = true
    · have c1 : (((#[] : Array Nat), free).fst.size < 1 ∧ ((#[] : Array Nat), free).snd ≤ a) ∧ a + sub.length ≤ hi := ⟨⟨by simp, ha⟩, hc.1⟩
      rw [if_pos ⟨c1, hc.2⟩]
      have e1 : (a :: l).find? (fun i => decide (i + sub.length ≤ hi) && subAt s sub i) = some a := by
        rw [List.find?_cons_of_pos]
        rw [decide_eq_true hc.1, hc.2]
        rfl
      rw [e1]
      have w := occ_stop s sub hi l ((#[] : Array Nat).push a, a + sub.length) (by simp)
      show (forIn l ((#[] : Array Nat).push a, a + sub.length) (occBody s sub hi 1)).run.fst.toList = [a]
      rw [w]
      rfl
    · have c2 : ¬ (((((#[] : Array Nat), free).fst.size < 1 ∧ ((#[] : Array Nat), free).snd ≤ a) ∧ a + sub.length ≤ hi) ∧ subAt s sub a = true) := fun h => hc ⟨h.1.2, h.2⟩
      rw [if_neg c2]
      have e1 : (a :: l).find? (fun i => decide (i + sub.length ≤ hi) && subAt s sub i) = l.find? (fun i => decide (i + sub.length ≤ hi) && subAt s sub i) := by
        rw [List.find?_cons_of_neg]
        intro z
        rw [Bool.and_eq_true_iff] at z
        exact hc ⟨of_decide_eq_true z.1, z.2⟩
      rw [e1]
      exact occ_first s sub hi l free (fun i hi' => hf i (List.mem_cons_of_mem _ hi'))
open PySem.Builtin PySem.Builtin.Str PySem.StrLaws in
theorem find3_one (t : List Nat) (c : Nat) (k : Int) (h0 : 0 ≤ k) : Txt.find3 (mkS t) (mkS [c]) k = match findFrom t c k.toNat with
    | some i => (i : Int)
    | none => -1 := by
  have e0 : fromIndex (mkS t).length k = k.toNat := by
    unfold fromIndex
    rw [if_neg (by omega)]
    omega
  unfold Txt.find3
  rw [e0, occ_eq, occ_first _ _ _ _ _ (fun i hi => by rw [List.mem_range'] at hi; omega)]
  simp only [mkS_len]
  have sub1 : ∀ i, subAt (mkS t) (mkS [c]) i = decide (t[i]? = some c) := fun i => by
    rw [PySem.StrLaws.subAt_eq]
    show ((t.drop i).take 1 == [c]) = _
    by_cases hi : i < t.length
    · rw [List.drop_eq_getElem_cons hi, List.getElem?_eq_getElem hi]
      show ([t[i]] == [c]) = _
      by_cases e : t[i] = c
      · rw [e]
        simp
      · rw [decide_eq_false (fun z => e (Option.some.inj z))]
        simp [e]
    · rw [List.drop_eq_nil_of_le (by omega), List.getElem?_eq_none (by omega)]
      rfl
  have key : ∀ (n k : Nat), t.length - k = n → k ≤ t.length → (List.range' k (t.length + 1 - k)).find? (fun i => decide (i + [c].length ≤ t.length) && subAt (mkS t) (mkS [c]) i) = fnd c (t.drop k) k := by
    intro n
    induction n with
    | zero =>
      intro k h1 h2
      have e : t.length + 1 - k = 1 := by omega
      rw [e, List.drop_eq_nil_of_le (by omega)]
      show List.find? _ [k] = none
      rw [List.find?_cons_of_neg]
      · rfl
      · intro z
        rw [Bool.and_eq_true_iff] at z
        have := of_decide_eq_true z.1
        have : [c].length = 1 := rfl
        omega
    | succ n ih =>
      intro k h1 h2
      have e : t.length + 1 - k = (t.length + 1 - (k + 1)) + 1 := by omega
      have hk : k < t.length := by omega
      rw [e, List.range'_succ, List.drop_eq_getElem_cons hk]
      have l1 : [c].length = 1 := rfl
      show List.find? _ (k :: _) = if t[k] = c then some k else fnd c (t.drop (k + 1)) (k + 1)
      by_cases ec : t[k] = c
      · rw [if_pos ec, List.find?_cons_of_pos]
        rw [sub1, l1, decide_eq_true (by omega), List.getElem?_eq_getElem hk, ec]
        simp
      · rw [if_neg ec, List.find?_cons_of_neg]
        · exact ih (k + 1) (by omega) (by omega)
        · intro z
          rw [Bool.and_eq_true_iff, sub1, List.getElem?_eq_getElem hk] at z
          exact ec (Option.some.inj (of_decide_eq_true z.2))
  unfold findFrom
  by_cases hk : k.toNat ≤ t.length
  · rw [key _ _ rfl hk]
    cases fnd c (t.drop k.toNat) k.toNat <;> rfl
  · have e : t.length + 1 - k.toNat = 0 := by omega
    rw [e, List.drop_eq_nil_of_le (by omega)]
    rfl
theorem fnd_some {c : Nat} : ∀ {l : List Nat} {k i : Nat}, fnd c l k = some i → k ≤ i ∧ l[i - k]? = some c ∧ i - k < l.length ∧ ∀ j, k ≤ j → j < i → l[j - k]? ≠ some c
  | [], k, i, h => by cases h
  | x :: r, k, i, h => by
    unfold fnd at h
    by_cases e : x = c
    · rw [if_pos e] at h
      have e2 : k = i := Option.some.inj h
      subst e2
      refine ⟨Nat.le_refl _, ?_, by simp, fun j h1 h2 => by omega⟩
      rw [Nat.sub_self, e]
      rfl
    · rw [if_neg e] at h
      obtain ⟨a, b, c', d⟩ := fnd_some h
      have e3 : i - k = (i - (k + 1)) + 1 := by omega
      refine ⟨by omega, by rw [e3]; simpa using b, by rw [e3]; simp; omega, fun j h1 h2 => ?_⟩
      by_cases hj : j = k
      · subst hj
        rw [Nat.sub_self]
        exact fun z => e (Option.some.inj z)
      · have e4 : j - k = (j - (k + 1)) + 1 := by omega
        rw [e4]
        have := d j (by omega) h2
        simpa using this
theorem fnd_none {c : Nat} : ∀ {l : List Nat} {k : Nat}, fnd c l k = none → ∀ j : Nat, l[j]? ≠ some c
  | [], k, h, j => by simp
  | x :: r, k, h, j => by
    unfold fnd at h
    by_cases e : x = c
    · rw [if_pos e] at h
      cases h
    · rw [if_neg e] at h
      cases j with
      | zero => exact fun z => e (Option.some.inj z)
      | succ j =>
        have := fnd_none h j
        simpa using this
theorem find_some {t : List Nat} {c k i : Nat} (h : findFrom t c k = some i) : k ≤ i ∧ i < t.length ∧ t[i]? = some c ∧ ∀ j, k ≤ j → j < i → t[j]? ≠ some c := by
  obtain ⟨a, b, d, e⟩ := fnd_some h
  rw [List.length_drop] at d
  rw [List.getElem?_drop] at b
  refine ⟨a, by omega, by rwa [show k + (i - k) = i by omega] at b, fun j h1 h2 => ?_⟩
  have := e j h1 h2
  rwa [List.getElem?_drop, show k + (j - k) = j by omega] at this
theorem find_none {t : List Nat} {c k : Nat} (h : findFrom t c k = none) : ∀ j, k ≤ j → t[j]? ≠ some c := fun j hj => by
  have := fnd_none h (j - k)
  rwa [List.getElem?_drop, show k + (j - k) = j by omega] at this
theorem dFind_run {t : List Nat} {c : Nat} {k : Int} {mu : Mu} {Q : DQ} (h0 : 0 ≤ k) (q : Q (.dat (.int (match findFrom t c k.toNat with | some i => (i : Int) | none => -1))) mu) : dFind3 (.dat (.str t)) [.dat (.str [c]), .dat (.int k)] mu Q := by
  unfold dFind3
  show Q (.dat (.int (Txt.find3 (mkS t) (mkS [c]) k))) mu
  rw [find3_one t c k h0]
  exact q

/-! ### a word lies spread in a text -/
def sub : List Nat → List Nat → Bool
  | [], _ => true
  | _ :: _, [] => false
  | a :: w, b :: t => if a = b then sub w t else sub (a :: w) t
theorem sub_nil (t : List Nat) : sub [] t = true := by cases t <;> rfl
theorem sub_iff : ∀ (w t : List Nat), sub w t = true ↔ w.Sublist t
  | [], t => by simp [sub_nil]
  | a :: w, [] => by simp [sub]
  | a :: w, b :: t => by
    unfold sub
    by_cases e : a = b
    · subst e
      rw [if_pos rfl, sub_iff w t]
      exact List.cons_sublist_cons.symm
    · rw [if_neg e, sub_iff (a :: w) t]
      refine ⟨fun h => .cons b h, fun h => ?_⟩
      cases h with
      | cons _ h => exact h
      | cons_cons _ h => exact absurd rfl e
/-- how many letters of a word are met, greedily -/
def met (w : List Nat) (k : Nat) : List Nat → Nat
  | [] => k
  | c :: t => met w (if w[k]? = some c then k + 1 else k) t
theorem met_sub (w : List Nat) : ∀ (t : List Nat) (k : Nat), k ≤ w.length → (met w k t = w.length ↔ sub (w.drop k) t = true) ∧ met w k t ≤ w.length
  | [], k, hk => by
    unfold met
    refine ⟨⟨fun e => ?_, fun e => ?_⟩, hk⟩
    · rw [List.drop_eq_nil_of_le (by omega)]
      rfl
    · by_cases h : k < w.length
      · rw [List.drop_eq_getElem_cons h] at e
        cases e
      · omega
  | c :: t, k, hk => by
    unfold met
    by_cases h : k < w.length
    · rw [List.getElem?_eq_getElem h, List.drop_eq_getElem_cons h]
      unfold sub
      by_cases e : w[k] = c
      · rw [if_pos (by rw [e]), if_pos e]
        exact met_sub w t (k + 1) h
      · rw [if_neg (fun z => e (Option.some.inj z)), if_neg e]
        have w2 := met_sub w t k hk
        rw [List.drop_eq_getElem_cons h] at w2
        exact w2
    · rw [List.getElem?_eq_none (by omega), if_neg (fun z => nomatch z)]
      have w2 := met_sub w t k hk
      refine ⟨⟨fun _ => ?_, fun _ => ?_⟩, w2.2⟩
      · rw [List.drop_eq_nil_of_le (by omega), sub_nil]
      · refine w2.1.mpr ?_
        rw [List.drop_eq_nil_of_le (by omega), sub_nil]
def S_w_spread : FS := fun xs mu Q => ∃ w t, xs = [.dat (.str w), .dat (.str t)] ∧ mu = [] ∧ w.length ≤ 1000 ∧ t.length ≤ 1000 ∧ (∀ c ∈ w, c < 1114112) ∧ (∀ c ∈ t, c < 1114112) ∧ Q (.dv (.dat (.bl (sub w t)))) []
def t_w_spread : DS :=
  (dSeq (dSet 2 (dC (.int 0)))
  (dSeq (dFor (iStrD (dVar 1)) (dgN 3)
  (dIf (dAnd (dTest (dOp dLt (dVar 2) (dCB dLen (aCons (dVar 0) aNil)))) (dTest (dOp dEq (dOp dIx (dVar 0) (dVar 2)) (dVar 3))))
  (dSet 2 (dOp dAdd (dVar 2) (dC (.int 1))))
  dNext))
  (dRet (dOp dEq (dVar 2) (dCB dLen (aCons (dVar 0) aNil))))))
theorem len_w_spread : ∀ xs mu Q, S_w_spread xs mu Q → xs.length = 2 := fun xs mu Q h => by
  obtain ⟨w, t, rfl, _⟩ := h
  rfl
theorem str_at {t : List Nat} {i : Nat} {d : D} (h : (t.map fun c => D.str [c])[i]? = some d) : ∃ c, t[i]? = some c ∧ d = .str [c] := by
  rw [List.getElem?_map] at h
  cases e : t[i]? with
  | none =>
    rw [e] at h
    cases h
  | some c =>
    rw [e] at h
    exact ⟨c, rfl, (Option.some.inj h).symm⟩
theorem okD_sign {c : Nat} (n : Nat) (h : c < 1114112) : okD n (.str [c]) = true := by
  cases n <;> simp [okD] <;> omega
theorem okD_str {w : List Nat} (n : Nat) (h : ∀ c ∈ w, c < 1114112) : okD n (.str w) = true := by
  cases n <;> simp [okD] <;> exact h
theorem met_take (w t : List Nat) (k i : Nat) {c : Nat} (h : t[i]? = some c) : met w k (t.take (i + 1)) = (if w[met w k (t.take i)]? = some c then met w k (t.take i) + 1 else met w k (t.take i)) := by
  have e : t.take (i + 1) = t.take i ++ [c] := by
    rw [List.take_add_one, h]
    rfl
  rw [e]
  generalize t.take i = p
  clear h e
  induction p generalizing k with
  | nil => rfl
  | cons x p ih =>
    show met w (if w[k]? = some x then k + 1 else k) (p ++ [c]) = _
    rw [ih]
    rfl
theorem met_le (w t : List Nat) : met w 0 t ≤ w.length := (met_sub w t 0 (Nat.zero_le _)).2
theorem rd_w_spread : Body t_w_spread ["_law_word_here", "_law_text", "_law_at", "_law_letter"] S_w_spread := fun xs mu Q h => by
  obtain ⟨w, t, rfl, rfl, hw, ht, ow, ot, q⟩ := h
  refine for_inv (fun i rho mu => mu = [] ∧ ∃ x, rho = [some (.dat (.str w)), some (.dat (.str t)), some (.dat (.int (met w 0 (t.take i)))), x]) ⟨rfl, none, rfl⟩ (fun i d rho mu K hd hp k => ?_) (fun rho mu hp => ?_)
  · obtain ⟨rfl, x, rfl⟩ := hp
    obtain ⟨c, hc, rfl⟩ := str_at hd
    have hm := met_le w (t.take i)
    refine ⟨by omega, ?_⟩
    have step := met_take w t 0 i hc
    refine itD (p := ((met w 0 (t.take i) : Nat) : Int) < (w.length : Int)) (fun h1 => ?_) (fun h1 => ?_)
    · have hk : met w 0 (t.take i) < w.length := by omega
      refine ⟨by omega, ?_⟩
      refine on_some (a := w[met w 0 (t.take i)]) (L2.atI_nat (List.getElem?_eq_getElem hk)) ?_
      refine ⟨okD_sign _ (ow _ (List.getElem_mem hk)), okD_sign _ (ot c (List.mem_of_getElem? hc)), ?_⟩
      rw [eqD_str]
      refine itD (p := [w[met w 0 (t.take i)]] = [c]) (fun h2 => ?_) (fun h2 => ?_)
      · have e2 : w[met w 0 (t.take i)] = c := by simpa using h2
        rw [List.getElem?_eq_getElem hk, e2, if_pos rfl] at step
        exact k _ _ ⟨rfl, _, by rw [step]; rfl⟩
      · have e2 : ¬ w[met w 0 (t.take i)] = c := by simpa using h2
        rw [List.getElem?_eq_getElem hk, if_neg (fun z => e2 (Option.some.inj z))] at step
        exact k _ _ ⟨rfl, _, by rw [step]; rfl⟩
    · rw [List.getElem?_eq_none (by omega), if_neg (fun z => nomatch z)] at step
      exact k _ _ ⟨rfl, _, by rw [step]; rfl⟩
  · obtain ⟨rfl, x, rfl⟩ := hp
    rw [List.length_map, List.take_of_length_le (Nat.le_refl _)]
    refine ⟨by omega, okD_int _ _, okD_int _ _, ?_⟩
    have e : eqD (.int ((met w 0 t : Nat) : Int)) (.int ((w.length : Nat) : Int)) = sub w t := by
      rw [eqD_int]
      have w2 := (met_sub w t 0 (Nat.zero_le _)).1
      rw [List.drop_zero] at w2
      cases hs : sub w t with
      | true => exact decide_eq_true (by have := w2.mpr hs; omega)
      | false => exact decide_eq_false (fun z => by
          have := w2.mp (by omega)
          rw [hs] at this
          cases this)
    rw [e]
    exact q

/-! ### what was told is what is due -/
mutual
/-- data of bounded size, n deep -/
def plainD : Nat → D → Bool
  | _, .non => true
  | _, .bl _ => true
  | _, .int _ => true
  | _, .str s => s.all (· < 0x110000)
  | 0, .lst _ => false
  | 0, .tup _ => false
  | n + 1, .lst ds => decide (ds.length ≤ 90000) && plainDs n ds
  | n + 1, .tup ds => decide (ds.length ≤ 90000) && plainDs n ds
  | _, .dk _ _ => false
  | _, .dt _ _ _ => false
  | _, .scr _ _ => false
def plainDs : Nat → List D → Bool
  | _, [] => true
  | n, d :: r => plainD n d && plainDs n r
end
mutual
theorem plain_ok : ∀ (n m : Nat) (d : D), n ≤ m → plainD n d = true → okD m d = true
  | _, m, .non, _, _ => by cases m <;> rfl
  | _, m, .bl _, _, _ => by cases m <;> rfl
  | _, m, .int _, _, _ => by cases m <;> rfl
  | n, m, .str s, _, h => by
    rw [plainD] at h
    cases m <;> (rw [okD]; exact h)
  | 0, m, .lst ds, _, h => by rw [plainD] at h; cases h
  | 0, m, .tup ds, _, h => by rw [plainD] at h; cases h
  | n + 1, 0, .lst ds, l, h => by omega
  | n + 1, 0, .tup ds, l, h => by omega
  | n + 1, m + 1, .lst ds, l, h => by
    rw [plainD, Bool.and_eq_true_iff] at h
    rw [okD]
    exact plains_ok n m ds (by omega) h.2
  | n + 1, m + 1, .tup ds, l, h => by
    rw [plainD, Bool.and_eq_true_iff] at h
    rw [okD]
    exact plains_ok n m ds (by omega) h.2
  | _, _, .dk _ _, _, h => by rw [plainD] at h; cases h
  | _, _, .dt _ _ _, _, h => by rw [plainD] at h; cases h
  | _, _, .scr _ _, _, h => by rw [plainD] at h; cases h
theorem plains_ok : ∀ (n m : Nat) (ds : List D), n ≤ m → plainDs n ds = true → okDs m ds = true
  | _, m, [], _, _ => by rw [okDs]
  | n, m, d :: r, l, h => by
    rw [plainDs, Bool.and_eq_true_iff] at h
    rw [okDs, plain_ok n m d l h.1, plains_ok n m r l h.2]
    rfl
end
theorem plain_at {n : Nat} : ∀ {ds : List D} {i : Nat} {d : D}, plainDs n ds = true → ds[i]? = some d → plainD n d = true
  | [], i, d, _, h => by simp at h
  | e :: r, 0, d, h, q => by
    rw [plainDs, Bool.and_eq_true_iff] at h
    have : e = d := Option.some.inj q
    subst this
    exact h.1
  | e :: r, i + 1, d, h, q => by
    rw [plainDs, Bool.and_eq_true_iff] at h
    exact plain_at h.2 (by simpa using q)
theorem plains_of {n : Nat} : ∀ {ds : List D}, (∀ d ∈ ds, plainD n d = true) → plainDs n ds = true
  | [], _ => by rw [plainDs]
  | d :: r, h => by
    rw [plainDs, h d (by simp), plains_of fun e he => h e (by simp [he])]
    rfl
theorem eqD_refl {n : Nat} {d : D} (h : okD n d = true) : eqD d d = true := by
  unfold eqD
  exact PySem.SeqAt.eqv_refl _ (okD_lay n d h).1
/-- n: how many calls, one in another -/
def S_w_alike : Nat → FS
  | 0 => fun _ _ _ => False
  | n + 1 => fun xs mu Q => ∃ d, xs = [.dat d, .dat d] ∧ mu = [] ∧ n ≤ 50 ∧ plainD n d = true ∧ Q (.dv (.dat (.bl true))) []
def t_w_alike (n : Nat) : DS :=
  (dSeq (dIf (dTest (dIsi2 "list" "tuple" (dVar 1)))
  (dSeq (dIf (dTest (dOp dNe (dIsi "list" (dVar 0)) (dIsi "list" (dVar 1))))
  (dRet (dC (.bl false)))
  dNext)
  (dSeq (dIf (dTest (dOp dNe (dIsi "tuple" (dVar 0)) (dIsi "tuple" (dVar 1))))
  (dRet (dC (.bl false)))
  dNext)
  (dSeq (dIf (dTest (dOp dNe (dCB dLen (aCons (dVar 0) aNil)) (dCB dLen (aCons (dVar 1) aNil))))
  (dRet (dC (.bl false)))
  dNext)
  (dRet (dCB dAll (aCons (dFrz (fLc (iRg1 (aCons (dCB dLen (aCons (dVar 1) aNil)) aNil)) (dgN 2) dYes (dCall (S_w_alike n) (aCons (dOp dIx (dVar 0) (dVar 2)) (aCons (dOp dIx (dVar 1) (dVar 2)) aNil))) [2])) aNil))))))
  dNext)
  (dRet (dAndV (dOp dEq (dIsi "bool" (dVar 0)) (dIsi "bool" (dVar 1))) (dOp dEq (dVar 0) (dVar 1)))))
theorem len_w_alike {n : Nat} : ∀ xs mu Q, S_w_alike n xs mu Q → xs.length = 2 := fun xs mu Q h => by
  cases n with
  | zero => exact h.elim
  | succ n =>
    obtain ⟨d, rfl, _⟩ := h
    rfl
theorem neD_bl (b : Bool) : (!eqD (.bl b) (.bl b)) = false := by cases b <;> rfl
theorem neD_int (i : Int) : (!eqD (.int i) (.int i)) = false := by
  rw [eqD_int, decide_eq_true rfl]
  rfl
theorem all_true : ∀ n : Nat, ((List.replicate n true).all id) = true
  | 0 => rfl
  | n + 1 => by rw [List.replicate_succ, List.all_cons, all_true n]; rfl
/-- the tail of the walk over a list's, a tuple's items -/
theorem alike_items {n : Nat} {d : D} {ds : List D} {Q : List D → Mu → Prop} {rho : Rho} (hn : n < 50) (e0 : ∀ x, slotD (setD rho 2 x) 0 = some (.dat d)) (e1 : ∀ x, slotD (setD rho 2 x) 1 = some (.dat d)) (e2 : ∀ x, slotD (setD rho 2 x) 2 = some x)
    (hd : d = .lst ds ∨ d = .tup ds) (hl : ds.length ≤ 90000) (pl : plainDs n ds = true) (q : Q ((List.replicate ds.length true).map D.bl) []) :
    dCompL (dgN 2) dYes (dCall (S_w_alike (n + 1)) (aCons (dOp dIx (dVar 0) (dVar 2)) (aCons (dOp dIx (dVar 1) (dVar 2)) aNil))) rho Q (rngD 0 ds.length) [] [] := by
  refine comp_inv (fun i acc mu => mu = [] ∧ acc = (List.replicate i true).map D.bl) ⟨rfl, rfl⟩ (fun i x acc mu K hx hp k => ?_) (fun acc mu hp => ?_)
  · obtain ⟨rfl, rfl⟩ := hp
    obtain ⟨rfl, hi⟩ := rng_at hx
    unfold dgN dYes
    simp only [if_true]
    unfold dOp dCall aCons aNil dVar
    simp only [e0, e1, e2]
    have h2 : ds[i]? = some ds[i] := List.getElem?_eq_getElem hi
    have h3 : L2.atI ds (0 + (i : Nat)) = some ds[i] := by
      rw [Int.zero_add]
      exact L2.atI_nat h2
    have fin : S_w_alike (n + 1) [.dat ds[i], .dat ds[i]] [] (backD [] fun y mu2 => onD y fun y => ((List.replicate i true).map D.bl).length < 100000 ∧ K ((List.replicate i true).map D.bl ++ [y]) mu2) := by
      refine ⟨ds[i], rfl, rfl, by omega, plain_at pl h2, ?_⟩
      refine ⟨by rw [List.length_map, List.length_replicate]; omega, k _ _ ⟨rfl, ?_⟩⟩
      rw [List.replicate_succ', List.map_append]
      rfl
    rcases hd with rfl | rfl
    · exact on_some h3 (on_some h3 ⟨rfl, fin⟩)
    · exact on_some h3 (on_some h3 ⟨rfl, fin⟩)
  · obtain ⟨rfl, rfl⟩ := hp
    rw [rng_len]
    exact q
theorem rd_w_alike {n : Nat} : Body (t_w_alike n) ["_law_found", "_law_due", "_law_k"] (S_w_alike (n + 1)) := fun xs mu Q h => by
  obtain ⟨d, rfl, rfl, hn, pl, q⟩ := h
  have flat : (∀ T, tyDV [] (.dat d) = some T → (isiB T "list" || isiB T "tuple") = false) → (∃ T, tyDV [] (.dat d) = some T) → okD 60 d = true →
      t_w_alike n { nx := fun _ mu' => retQ 0 Q (.dv (.dat .non)) mu', rt := retQ 0 Q } (startD ["_law_found", "_law_due", "_law_k"] [.dat d, .dat d]) [] := fun h1 ⟨T, hT⟩ ok => by
    refine on_some hT ?_
    show if (isiB T "list" || isiB T "tuple") = true then _ else _
    rw [h1 T hT]
    refine iteF ?_
    refine on_some hT (on_some hT ?_)
    refine ⟨okD_bl _ _, okD_bl _ _, ?_⟩
    rw [eqD_refl (n := 60) (okD_bl _ _)]
    refine ⟨ok, ok, ?_⟩
    rw [eqD_refl ok]
    exact q
  have seq : ∀ (ds : List D) (T : String), (d = .lst ds ∨ d = .tup ds) → tyDV [] (.dat d) = some T → (isiB T "list" || isiB T "tuple") = true → ds.length ≤ 90000 → (∃ k, n = k + 1 ∧ plainDs k ds = true) →
      t_w_alike n { nx := fun _ mu' => retQ 0 Q (.dv (.dat .non)) mu', rt := retQ 0 Q } (startD ["_law_found", "_law_due", "_law_k"] [.dat d, .dat d]) [] := fun ds T hd hT h1 hl ⟨k, ek, pk⟩ => by
    subst ek
    refine on_some hT ?_
    show if (isiB T "list" || isiB T "tuple") = true then _ else _
    rw [h1]
    refine iteT ?_
    refine on_some hT (on_some hT ⟨okD_bl _ _, okD_bl _ _, ?_⟩)
    show if (!eqD (.bl (isiB T "list")) (.bl (isiB T "list"))) = true then _ else _
    rw [neD_bl]
    refine iteF ?_
    refine on_some hT (on_some hT ⟨okD_bl _ _, okD_bl _ _, ?_⟩)
    show if (!eqD (.bl (isiB T "tuple")) (.bl (isiB T "tuple"))) = true then _ else _
    rw [neD_bl]
    refine iteF ?_
    have fin : dCompL (dgN 2) dYes (dCall (S_w_alike (k + 1)) (aCons (dOp dIx (dVar 0) (dVar 2)) (aCons (dOp dIx (dVar 1) (dVar 2)) aNil))) [some (.dat d), some (.dat d), none] (fun acc mu2 => dAll [.dat (.lst acc)] mu2 fun x mu3 => retQ 0 Q (.dv x) mu3) (rngD 0 ds.length) [] [] := by
      refine alike_items (by omega) (fun _ => rfl) (fun _ => rfl) (fun _ => rfl) hd hl pk ?_
      refine on_some (a := List.replicate ds.length true) (toBls_of _) ?_
      rw [all_true]
      exact q
    rcases hd with rfl | rfl
    · refine ⟨okD_int _ _, okD_int _ _, ?_⟩
      show if (!eqD (.int ((ds.length : Nat) : Int)) (.int ((ds.length : Nat) : Int))) = true then _ else _
      rw [neD_int]
      refine iteF ?_
      exact ⟨by omega, by omega, fin⟩
    · refine ⟨okD_int _ _, okD_int _ _, ?_⟩
      show if (!eqD (.int ((ds.length : Nat) : Int)) (.int ((ds.length : Nat) : Int))) = true then _ else _
      rw [neD_int]
      refine iteF ?_
      exact ⟨by omega, by omega, fin⟩
  cases d with
  | non => exact flat (fun T h => by cases h; rfl) ⟨_, rfl⟩ (plain_ok n 60 _ (by omega) pl)
  | bl b => exact flat (fun T h => by cases h; rfl) ⟨_, rfl⟩ (plain_ok n 60 _ (by omega) pl)
  | int b => exact flat (fun T h => by cases h; rfl) ⟨_, rfl⟩ (plain_ok n 60 _ (by omega) pl)
  | str b => exact flat (fun T h => by cases h; rfl) ⟨_, rfl⟩ (plain_ok n 60 _ (by omega) pl)
  | lst ds =>
    cases n with
    | zero => rw [plainD] at pl; cases pl
    | succ k =>
      rw [plainD, Bool.and_eq_true_iff] at pl
      exact seq ds "list" (.inl rfl) rfl rfl (of_decide_eq_true pl.1) ⟨k, rfl, pl.2⟩
  | tup ds =>
    cases n with
    | zero => rw [plainD] at pl; cases pl
    | succ k =>
      rw [plainD, Bool.and_eq_true_iff] at pl
      exact seq ds "tuple" (.inr rfl) rfl rfl (of_decide_eq_true pl.1) ⟨k, rfl, pl.2⟩
  | dk _ _ => rw [plainD] at pl; cases pl
  | dt _ _ _ => rw [plainD] at pl; cases pl
  | scr _ _ => rw [plainD] at pl; cases pl
theorem Df.never {P : Program} {w : World} {K : PySem.W.Frag} {mg : Str → Option Value} {base : Heap} {x : Str} {st : Stmt} {ps : List Str} {S : FS} {k : Nat} (D : Df K mg x st ps) (h : ∀ xs mu Q, ¬ S xs mu Q) : Cal P w K mg base k x ps S := by
  obtain ⟨f, fd, F, m, b⟩ := D.ok
  have no : ∀ vs H Q E, ¬ spOf S vs H Q E := fun vs H Q E h' => by
    obtain ⟨_, _, xs, mu, Qd, _, _, q, _⟩ := h'
    exact h xs mu Qd q
  exact ⟨f, fd, ⟨fun vs H Q E h => absurd h (no vs H Q E), fun A outer s H args us vs Q E _ _ _ _ h => absurd h (no vs H Q E)⟩, m, F.kp, b⟩
end Dx

namespace Dx
open PySem PySem.Spec PyProof.Rows L2
open Evl (Ex)
variable [Tb]

/-! ### a law -/
def S_law (K : PySem.W.Frag) : FS := fun xs mu Q => ∃ ns : List Int, xs = [.dat (.scr K ns)] ∧ ns.length ≤ 63 ∧ mu = [] ∧ Q (.dv (.dat (.bl true))) []
theorem len_law {K : PySem.W.Frag} : ∀ xs mu Q, S_law K xs mu Q → xs.length = 1 := fun xs mu Q h => by
  obtain ⟨ns, rfl, _⟩ := h
  rfl
theorem noT_sq {K : PySem.W.Frag} {H : Hp} {a : Addr} {xs : List V} (h : SqL K H a xs) : SqL K (noT H) a xs := by
  rcases h with (h | ⟨o, h⟩) | h
  · exact .inl (.inl (noT_of h fun ps z => by cases z))
  · exact .inl (.inr ⟨o, noT_of h fun ps z => by cases z⟩)
  · exact .inr h
theorem law_sp {K : PySem.W.Frag} {H : Hp} {a : Addr} {ns : List Int} (ht : LamX.Tabs Tb.tabs H) (h63 : ns.length ≤ 63) (hS : SqL K H a (ns.map V.int)) : spOf (S_law K) [.ref a] H (fun v _ => v = .bl true) fun _ _ _ => False := by
  refine ⟨noT H, [], [.dat (.scr K ns)], [], fun rv _ => rv = .dv (.dat (.bl true)), Cels.empt noT_ex noT_nt ht, .cons ?_ .nil, ⟨ns, rfl, h63, rfl, rfl⟩, fun F' mu' rv v H' E C r f q => ?_⟩
  · show Rep (noT H) (.scr K ns) (.ref a)
    rw [Rep]
    exact ⟨a, rfl, noT_sq hS⟩
  · subst q
    exact rv_bl_out (F := F') (al := []) r
theorem df_mk {K : PySem.W.Frag} {mg : Str → Option Value} {h : Heap} {x : Str} {st : Stmt} {ps : List Str} {f : Addr} {oc : Value} {od an : Option Addr} {osl : Array (Option Value)} {kV doc pm cdv ct : Value} (X : K.In h) (G : h.Ns mainGlobals mg)
    (a : PySem.W.nsIn K mainGlobals x = some (some (.ref f))) (l : K.lookup f = some ⟨oc, od, .func (PySem.W.fnOf x x (defArgs st) (defBody st) (defScope st) .none kV doc pm an cdv ct), osl⟩) (c : PySem.W.codeIn K cdv x = true) (k : PySem.W.keepIn K (.ref f) = true)
    (hb : ∀ (kV doc pm : Value) (an : Option Addr) (cdv ct : Value) (us : List Value), us.length = ps.length → bindArgs (PySem.W.fnOf x x (defArgs st) (defBody st) (defScope st) .none kV doc pm an cdv ct) ⟨us, []⟩ = pure (ps.zip us)) : Df K mg x st ps := by
  have F := fun_mk (st := st) l c k
  exact ⟨f, _, F, PySem.W.mg_of X G a, F.binds hb⟩
theorem Body.ren {t : DS} {N N' : List Str} {S : FS} (e : N.length = N'.length) (h : Body t N S) : Body t N' S := fun xs mu Q q => by
  have w := h xs mu Q q
  unfold startD at w ⊢
  rw [← e]
  exact w
end Dx

namespace Dx
open PySem PySem.Spec PyProof.Rows L2
open Evl (Ex)
variable [Tb]

/-! ### greedy places -/
def natD (n : Nat) : D := .int n
def placesF : List Nat → List Nat → Nat → Option (List Nat)
  | [], _, _ => some []
  | c :: w, t, k => match findFrom t c k with
    | none => none
    | some i => (placesF w t (i + 1)).map (i :: ·)
theorem placesF_cons (c : Nat) (w t : List Nat) (k : Nat) : placesF (c :: w) t k = match findFrom t c k with
    | none => none
    | some i => (placesF w t (i + 1)).map (i :: ·) := by rw [placesF]
theorem sub_fnd (c : Nat) (w : List Nat) : ∀ (l : List Nat) (k : Nat), match fnd c l k with
    | none => sub (c :: w) l = false
    | some i => sub (c :: w) l = sub w (l.drop (i - k + 1))
  | [], k => rfl
  | x :: l, k => by
    have hs : sub (c :: w) (x :: l) = if c = x then sub w l else sub (c :: w) l := by rw [sub]
    rw [hs]
    unfold fnd
    by_cases e : x = c
    · rw [if_pos e, if_pos e.symm]
      show sub w l = sub w ((x :: l).drop (k - k + 1))
      rw [Nat.sub_self]
      rfl
    · rw [if_neg e, if_neg (fun z => e z.symm)]
      have ih := sub_fnd c w l (k + 1)
      cases h : fnd c l (k + 1) with
      | none => rw [h] at ih; exact ih
      | some i =>
        rw [h] at ih
        have hk := (fnd_some h).1
        show sub (c :: w) l = sub w ((x :: l).drop (i - k + 1))
        rw [show i - k + 1 = (i - (k + 1) + 1) + 1 by omega, List.drop_succ_cons]
        exact ih
theorem places_sub : ∀ (w t : List Nat) (k : Nat), (placesF w t k).isSome = sub w (t.drop k)
  | [], t, k => by rw [sub_nil]; rfl
  | c :: w, t, k => by
    have h := sub_fnd c w (t.drop k) k
    unfold placesF findFrom
    cases e : fnd c (t.drop k) k with
    | none => rw [e] at h; exact h.symm
    | some i =>
      rw [e] at h
      have h2 : sub (c :: w) (t.drop k) = sub w ((t.drop k).drop (i - k + 1)) := h
      have hk := (fnd_some e).1
      rw [h2, List.drop_drop, show k + (i - k + 1) = i + 1 by omega, ← places_sub w t (i + 1)]
      show ((placesF w t (i + 1)).map (i :: ·)).isSome = _
      rw [Option.isSome_map]
theorem placesF_len : ∀ {w t : List Nat} {k : Nat} {l : List Nat}, placesF w t k = some l → l.length = w.length
  | [], t, k, l, h => by cases h; rfl
  | c :: w, t, k, l, h => by
    unfold placesF at h
    cases e : findFrom t c k with
    | none => rw [e] at h; cases h
    | some i =>
      rw [e] at h
      have h2 : (placesF w t (i + 1)).map (i :: ·) = some l := h
      cases e2 : placesF w t (i + 1) with
      | none => rw [e2] at h2; cases h2
      | some r =>
        rw [e2] at h2
        have := Option.some.inj h2
        subst this
        rw [List.length_cons, List.length_cons, placesF_len e2]
def S_places : FS := fun xs mu Q => ∃ w t, xs = [.dat (.str w), .dat (.str t)] ∧ mu = [] ∧ w.length ≤ 1000 ∧ t.length ≤ 1000 ∧ (placesF w t 0 = none → Q (.dv (.dat .non)) []) ∧ (∀ l, placesF w t 0 = some l → Q (.new (.lst (l.map natD))) [])
/- slots of places: 0 word, 1 text, 2 found, 3 at, 4 letter -/
def t_places : DS :=
  (dSeq (dSet 2 (dNew (fLst aNil)))
  (dSeq (dSet 3 (dC (.int 0)))
  (dSeq (dFor (iStrD (dVar 0)) (dgN 4)
  (dSeq (dSet 3 (dBM "str" dFind3 (dVar 1) (aCons (dVar 4) (aCons (dVar 3) aNil))))
  (dSeq (dIf (dTest (dOp dLt (dVar 3) (dC (.int 0))))
  (dRet (dC .non))
  dNext)
  (dSeq (dDrop (dBM "list" dAppend (dVar 2) (aCons (dVar 3) aNil)))
  (dSet 3 (dOp dAdd (dVar 3) (dC (.int 1))))))))
  (dRet (dVar 2)))))
theorem len_places : ∀ xs mu Q, S_places xs mu Q → xs.length = 2 := fun xs mu Q h => by
  obtain ⟨w, t, rfl, _⟩ := h
  rfl
theorem rd_places : Body t_places ["word", "text", "found", "at", "letter"] S_places := fun xs mu Q h => by
  obtain ⟨w, t, rfl, rfl, hw, ht, qn, qs⟩ := h
  refine ⟨by show 0 ≤ 1000; omega, ?_⟩
  refine for_inv (fun i rho mu => ∃ acc k x, mu = [.lst (acc.map natD)] ∧ rho = [some (.dat (.str w)), some (.dat (.str t)), some (.cel 0), some (.dat (.int ((k : Nat) : Int))), x] ∧ acc.length = i ∧ placesF w t 0 = (placesF (w.drop i) t k).map (acc ++ ·)) ⟨[], 0, none, rfl, rfl, rfl, by rw [List.drop_zero]; cases placesF w t 0 <;> rfl⟩ (fun i d rho mu K hd hp k => ?_) (fun rho mu hp => ?_)
  · obtain ⟨acc, at', x, rfl, rfl, al, pl⟩ := hp
    obtain ⟨c, hc, rfl⟩ := str_at hd
    have hi : i < w.length := (List.getElem?_eq_some_iff.mp hc).1
    have ec : w.drop i = c :: w.drop (i + 1) := by
      rw [List.drop_eq_getElem_cons hi]
      rw [List.getElem?_eq_getElem hi] at hc
      rw [Option.some.inj hc]
    rw [ec, placesF_cons] at pl
    refine ⟨rfl, ?_⟩
    refine dFind_run (t := t) (c := c) (k := ((at' : Nat) : Int)) (by omega) ?_
    rw [show ((at' : Nat) : Int).toNat = at' by omega]
    cases hf : findFrom t c at' with
    | none =>
      rw [hf] at pl
      exact qn pl
    | some j =>
      rw [hf] at pl
      refine itD (p := ((j : Nat) : Int) < 0) (fun z => by omega) (fun _ => ?_)
      refine ⟨rfl, by rw [List.length_map]; omega, k _ _ ⟨acc ++ [j], j + 1, _, by rw [List.map_append]; rfl, rfl, by rw [List.length_append, al]; rfl, ?_⟩⟩
      rw [pl]
      show ((placesF (w.drop (i + 1)) t (j + 1)).map (j :: ·)).map (acc ++ ·) = _
      rw [Option.map_map]
      refine congrArg (fun f => Option.map f _) (funext fun l => ?_)
      show acc ++ (j :: l) = (acc ++ [j]) ++ l
      rw [List.append_assoc]
      rfl
  · obtain ⟨acc, k, x, rfl, rfl, al, pl⟩ := hp
    rw [List.length_map] at pl
    rw [List.drop_length] at pl
    refine ⟨Nat.le_refl _, rfl, ?_⟩
    refine qs acc ?_
    rw [pl]
    show some (acc ++ []) = some acc
    rw [List.append_nil]
def S_spread_in : FS := fun xs mu Q => ∃ w t, xs = [.dat (.str w), .dat (.str t)] ∧ mu = [] ∧ w.length ≤ 1000 ∧ t.length ≤ 1000 ∧ Q (.dv (.dat (.bl (sub w t)))) []
def t_spread_in : DS :=
  (dRet (dOp dNotN (dCall S_places (aCons (dVar 0) (aCons (dVar 1) aNil))) (dC .non)))
theorem len_spread_in : ∀ xs mu Q, S_spread_in xs mu Q → xs.length = 2 := fun xs mu Q h => by
  obtain ⟨w, t, rfl, _⟩ := h
  rfl
theorem rd_spread_in : Body t_spread_in ["word", "text"] S_spread_in := fun xs mu Q h => by
  obtain ⟨w, t, rfl, rfl, hw, ht, q⟩ := h
  have e := places_sub w t 0
  rw [List.drop_zero] at e
  refine ⟨rfl, w, t, rfl, rfl, hw, ht, fun h => ?_, fun l h => ?_⟩
  · rw [h] at e
    rw [← e] at q
    exact ⟨rfl, q⟩
  · rw [h] at e
    rw [← e] at q
    exact ⟨rfl, q⟩

/-! ### a text otherwise, a text left of -/
theorem cut_mem {s : List Nat} {lo hi : Option Int} {c : Nat} (h : c ∈ cut s lo hi) : c ∈ s := by
  unfold cut at h
  exact List.mem_of_mem_drop (List.mem_of_mem_take h)
def S_w_otherwise : FS := fun xs mu Q => ∃ m l t, mu = [m] ∧ FlowOk m ∧ xs = [.cel 0, .dat (.str l), .dat (.str t)] ∧ 0 < l.length ∧ l.length ≤ 1000 ∧ t.length ≤ 1000 ∧ ∀ w m', FlowOk m' → w.length ≤ 4 * t.length + 1 → (∀ c ∈ w, c ∈ l ∨ c ∈ t) → Q (.dv (.dat (.str w))) [m']
/- slots of w_otherwise: 0 flow_here, 1 letters_here, 2 text, 3 way, 4 at, 5 letter, 6 here, 7 later -/
def t_w_otherwise : DS :=
  (dSeq (dSet 3 (dCallR S_w_pick (aCons (dVar 0) (aCons (dC (.int 5)) aNil))))
  (dSeq (dSet 4 (dCallR S_w_pick (aCons (dVar 0) (aCons (dOp dAdd (dCB dLen (aCons (dVar 2) aNil)) (dC (.int 1))) aNil))))
  (dSeq (dSet 5 (dOp dIx (dVar 1) (dCallR S_w_pick (aCons (dVar 0) (aCons (dCB dLen (aCons (dVar 1) aNil)) aNil)))))
  (dSeq (dIf (dTest (dOp dEq (dVar 3) (dC (.int 0))))
  (dRet (dOp dAdd (dSl dCut (dVar 2) oNone (oSome (dVar 4))) (dSl dCut (dVar 2) (oSome (dOp dAdd (dVar 4) (dC (.int 1)))) oNone)))
  dNext)
  (dSeq (dIf (dTest (dOp dEq (dVar 3) (dC (.int 1))))
  (dRet (dOp dAdd (dOp dAdd (dSl dCut (dVar 2) oNone (oSome (dVar 4))) (dVar 5)) (dSl dCut (dVar 2) (oSome (dVar 4)) oNone)))
  dNext)
  (dSeq (dIf (dTest (dOp dEq (dVar 3) (dC (.int 2))))
  (dRet (dOp dAdd (dOp dAdd (dSl dCut (dVar 2) oNone (oSome (dVar 4))) (dVar 5)) (dSl dCut (dVar 2) (oSome (dOp dAdd (dVar 4) (dC (.int 1)))) oNone)))
  dNext)
  (dSeq (dIf (dTest (dOp dEq (dVar 3) (dC (.int 3))))
  (dRet (dOp dAdd (dOp dAdd (dSl dCut (dVar 2) oNone (oSome (dVar 4))) (dSl dCut (dVar 2) (oSome (dVar 4)) (oSome (dOp dAdd (dVar 4) (dC (.int 1)))))) (dSl dCut (dVar 2) (oSome (dVar 4)) oNone)))
  dNext)
  (dSeq (dPar 6 7 (aCons (dSl dCut (dVar 2) (oSome (dVar 4)) (oSome (dOp dAdd (dVar 4) (dC (.int 1))))) (aCons (dSl dCut (dVar 2) (oSome (dOp dAdd (dVar 4) (dC (.int 1)))) (oSome (dOp dAdd (dVar 4) (dC (.int 2))))) aNil)))
  (dRet (dOp dAdd (dOp dAdd (dOp dAdd (dSl dCut (dVar 2) oNone (oSome (dVar 4))) (dVar 7)) (dVar 6)) (dSl dCut (dVar 2) (oSome (dOp dAdd (dVar 4) (dC (.int 2)))) oNone)))))))))))
theorem len_w_otherwise : ∀ xs mu Q, S_w_otherwise xs mu Q → xs.length = 3 := fun xs mu Q h => by
  obtain ⟨m, l, t, _, _, rfl, _⟩ := h
  rfl
/-- a joined text's length and signs -/
def Made (l t w : List Nat) (n : Nat) : Prop := w.length ≤ n ∧ ∀ c ∈ w, c ∈ l ∨ c ∈ t
theorem made_cut {l t : List Nat} {lo hi : Option Int} : Made l t (cut t lo hi) t.length := ⟨cut_len _ _ _, fun c h => .inr (cut_mem h)⟩
theorem made_one {l t : List Nat} {c : Nat} (h : c ∈ l) : Made l t [c] 1 := ⟨Nat.le_refl _, fun x hx => .inl (by rw [List.mem_singleton] at hx; exact hx ▸ h)⟩
theorem made_app {l t u v : List Nat} {m n : Nat} (a : Made l t u m) (b : Made l t v n) : Made l t (u ++ v) (m + n) := ⟨by rw [List.length_append]; have := a.1; have := b.1; omega, fun c h => by
  rcases List.mem_append.mp h with z | z
  · exact a.2 c z
  · exact b.2 c z⟩
theorem rd_w_otherwise : Body t_w_otherwise ["_law_flow_here", "_law_letters_here", "_law_text", "_law_way", "_law_at", "_law_letter", "_law_here", "_law_later"] S_w_otherwise := fun xs mu Q h => by
  obtain ⟨m, l, t, rfl, fo, rfl, l0, l1, ht, q⟩ := h
  refine ⟨fo.live, rfl, ?_⟩
  refine ⟨m, 5, rfl, fo, rfl, by omega, by omega, fun r m2 fo2 r0 r1 => ?_⟩
  refine ⟨by omega, ?_⟩
  refine ⟨fo2.live, rfl, ?_⟩
  refine ⟨m2, _, rfl, fo2, rfl, by omega, by omega, fun k m3 fo3 k0 k1 => ?_⟩
  refine ⟨by omega, ?_⟩
  refine ⟨fo3.live, rfl, ?_⟩
  refine ⟨m3, _, rfl, fo3, rfl, by omega, by omega, fun p m4 fo4 p0 p1 => ?_⟩
  obtain ⟨c, h2, hc⟩ := some_atI p0 p1
  have hcl : c ∈ l := List.mem_of_getElem? hc
  refine ⟨by omega, on_some h2 ?_⟩
  have fin : ∀ {w n}, Made l t w n → n ≤ 4 * t.length + 1 → Q (.dv (.dat (.str w))) [m4] := fun a b => q _ m4 fo4 (by have := a.1; omega) a.2
  have len : ∀ {lo hi : Option Int}, (cut t lo hi).length ≤ 1000 := fun {lo hi} => by have := cut_len t lo hi; omega
  refine ⟨okD_int _ _, okD_int _ _, ?_⟩
  refine itI (fun _ => ?_) (fun _ => ?_)
  · refine ⟨by omega, by omega, ?_⟩
    have a := made_app (made_cut (l := l) (t := t) (lo := none) (hi := some k)) (made_cut (lo := some (k + 1)) (hi := none))
    exact ⟨by have := len (lo := none) (hi := some k); have := len (lo := some (k + 1)) (hi := none); omega, fin a (by omega)⟩
  refine ⟨okD_int _ _, okD_int _ _, ?_⟩
  refine itI (fun _ => ?_) (fun _ => ?_)
  · refine ⟨by omega, ?_⟩
    have a := made_app (made_cut (l := l) (t := t) (lo := none) (hi := some k)) (made_one hcl)
    refine ⟨by have := a.1; rw [List.length_append] at this; omega, ?_⟩
    refine ⟨by omega, ?_⟩
    have b := made_app a (made_cut (lo := some k) (hi := none))
    exact ⟨by have := b.1; rw [List.length_append] at this; omega, fin b (by omega)⟩
  refine ⟨okD_int _ _, okD_int _ _, ?_⟩
  refine itI (fun _ => ?_) (fun _ => ?_)
  · refine ⟨by omega, ?_⟩
    have a := made_app (made_cut (l := l) (t := t) (lo := none) (hi := some k)) (made_one hcl)
    refine ⟨by have := a.1; rw [List.length_append] at this; omega, ?_⟩
    refine ⟨by omega, ?_⟩
    have b := made_app a (made_cut (lo := some (k + 1)) (hi := none))
    exact ⟨by have := b.1; rw [List.length_append] at this; omega, fin b (by omega)⟩
  refine ⟨okD_int _ _, okD_int _ _, ?_⟩
  refine itI (fun _ => ?_) (fun _ => ?_)
  · refine ⟨by omega, by omega, ?_⟩
    have a := made_app (made_cut (l := l) (t := t) (lo := none) (hi := some k)) (made_cut (lo := some k) (hi := some (k + 1)))
    refine ⟨by have := a.1; rw [List.length_append] at this; omega, ?_⟩
    refine ⟨by omega, ?_⟩
    have b := made_app a (made_cut (lo := some k) (hi := none))
    exact ⟨by have := b.1; rw [List.length_append] at this; omega, fin b (by omega)⟩
  refine ⟨by omega, by omega, ?_⟩
  refine ⟨by omega, ?_⟩
  have a := made_app (made_cut (l := l) (t := t) (lo := none) (hi := some k)) (made_cut (lo := some (k + 1)) (hi := some (k + 2)))
  refine ⟨by have := a.1; rw [List.length_append] at this; omega, ?_⟩
  have b := made_app a (made_cut (lo := some k) (hi := some (k + 1)))
  refine ⟨by have := b.1; rw [List.length_append] at this; omega, ?_⟩
  refine ⟨by omega, ?_⟩
  have d := made_app b (made_cut (lo := some (k + 2)) (hi := none))
  exact ⟨by have := d.1; rw [List.length_append] at this; omega, fin d (by omega)⟩
def S_w_left_of : FS := fun xs mu Q => ∃ m t n, mu = [m] ∧ FlowOk m ∧ xs = [.cel 0, .dat (.str t), .dat (.int n)] ∧ t.length ≤ 1000 ∧ 0 ≤ n ∧ n ≤ 1000 ∧ ∀ w m', FlowOk m' → (w.length : Int) ≤ n → w.Sublist t → Q (.dv (.dat (.str w))) [m']
/- slots of w_left_of: 0 flow_here, 1 text, 2 most, 3 word_here, 4 letter -/
def t_w_left_of : DS :=
  (dSeq (dSet 3 (dC (.str (lit ""))))
  (dSeq (dFor (iStrD (dVar 1)) (dgN 4)
  (dIf (dAnd (dTest (dOp dLt (dCB dLen (aCons (dVar 3) aNil)) (dVar 2))) (dTest (dOp dEq (dCallR S_w_pick (aCons (dVar 0) (aCons (dC (.int 3)) aNil))) (dC (.int 0)))))
  (dSet 3 (dOp dAdd (dVar 3) (dVar 4)))
  dNext))
  (dRet (dVar 3))))
theorem len_w_left_of : ∀ xs mu Q, S_w_left_of xs mu Q → xs.length = 3 := fun xs mu Q h => by
  obtain ⟨m, t, n, _, _, rfl, _⟩ := h
  rfl
theorem sub_grow {w t : List Nat} {i c : Nat} (h : w.Sublist (t.take i)) (hc : t[i]? = some c) : w.Sublist (t.take (i + 1)) ∧ (w ++ [c]).Sublist (t.take (i + 1)) := by
  rw [List.take_add_one, hc]
  exact ⟨h.trans (List.sublist_append_left _ _), h.append (List.Sublist.refl _)⟩
theorem rd_w_left_of : Body t_w_left_of ["_law_flow_here", "_law_text", "_law_most", "_law_word_here", "_law_letter"] S_w_left_of := fun xs mu Q h => by
  obtain ⟨m, t, n, rfl, fo, rfl, ht, n0, n1, q⟩ := h
  refine for_inv (fun i rho mu => ∃ w m' x, mu = [m'] ∧ FlowOk m' ∧ rho = [some (.cel 0), some (.dat (.str t)), some (.dat (.int n)), some (.dat (.str w)), x] ∧ (w.length : Int) ≤ n ∧ w.Sublist (t.take i)) ⟨[], m, none, rfl, fo, by rw [← lit_nil]; rfl, n0, List.nil_sublist _⟩ (fun i d rho mu K hd hp k => ?_) (fun rho mu hp => ?_)
  · obtain ⟨w, m', x, rfl, fo', rfl, wl, ws⟩ := hp
    obtain ⟨c, hc, rfl⟩ := str_at hd
    obtain ⟨s1, s2⟩ := sub_grow ws hc
    refine ⟨by omega, ?_⟩
    refine itD (p := ((w.length : Nat) : Int) < n) (fun h1 => ?_) (fun h1 => ?_)
    · refine ⟨fo'.live, rfl, ?_⟩
      refine ⟨m', 3, rfl, fo', rfl, by omega, by omega, fun r m2 fo2 r0 r1 => ?_⟩
      refine ⟨okD_int _ _, okD_int _ _, ?_⟩
      refine itI (fun _ => ?_) (fun _ => ?_)
      · refine ⟨by show w.length + 1 ≤ 100000; omega, k _ _ ⟨w ++ [c], m2, _, rfl, fo2, rfl, by rw [List.length_append, List.length_singleton]; omega, s2⟩⟩
      · exact k _ _ ⟨w, m2, _, rfl, fo2, rfl, wl, s1⟩
    · exact k _ _ ⟨w, m', _, rfl, fo', rfl, wl, s1⟩
  · obtain ⟨w, m', x, rfl, fo', rfl, wl, ws⟩ := hp
    exact q w m' fo' wl (ws.trans (List.take_sublist _ _))
end Dx

namespace Dx
open PySem PySem.Spec PyProof.Rows L2
open Evl (Ex)
variable [Tb]
section
variable {X : Cx} {a tg : Expr} {ta : DE} {pos : Pos}
/-- for k in reversed(range(n)) -/
def iRevN (te : DE) : DI := fun rho mu Q => te rho mu fun x mu1 => onI x fun j => j < 2 ^ 60 ∧ -(2 ^ 60) < j ∧ Q (rngB (((j.toNat : Nat) : Int) - 1) j.toNat) mu1
theorem ci_revR {p p' pos' : Pos} (hm : X.mg "reversed" = none) (hr : X.mg "range" = none) (ha : CE X a ta) (hg : Gl X "reversed" := by rfl) (hg' : Gl X "range" := by rfl)
    (na : starEach [a] X.env = (false, eval a X.env) :: starEach [] X.env := by rfl)
    (hs : starEach [.Call (.Name "range" p') [a] [] pos'] X.env = (false, eval (.Call (.Name "range" p') [a] [] pos') X.env) :: starEach [] X.env := by rfl) :
    CI X tg (.Call (.Name "reversed" p) [.Call (.Name "range" p') [a] [] pos'] [] pos) (iRevN ta) := by
  obtain ⟨_, pa, g⟩ := ha.ok
  refine ⟨_, pi_revR hg hm (prg_1 hg' hr pa na) hs, fun F al rho mu σ H Q R S q l => g F al rho mu σ H _ _ S q fun F1 al1 x mu1 v H1 e1 C1 r1 q1 => ?_⟩
  obtain ⟨j, ex, ej, q2, q3, q1⟩ := onI_out q1 r1
  subst ej
  refine ⟨j, rfl, by omega, by omega, by omega, by omega, ?_⟩
  have h1 : ((0 : Int) + (((j - 0).toNat : Nat) : Int) - 1) = ((j.toNat : Nat) : Int) - 1 := by omega
  have h2 : (j - 0).toNat = j.toNat := by omega
  rw [h1, h2]
  exact l F1 al1 _ mu1 _ H1 e1 C1 (itD_rngB _ _) q1
end

/-! ### a loop's own cells are forgotten -/
def cleanO (n : Nat) : Option DV → Option DV
  | some (.cel k) => match Nat.blt k n with
    | true => some (.cel k)
    | false => none
  | x => x
def cleanD (n : Nat) (r : Rho) : Rho := r.map (cleanO n)
theorem clean_len (n : Nat) (r : Rho) : (cleanD n r).length = r.length := List.length_map _
theorem clean_at (n : Nat) (r : Rho) (i : Nat) (x : DV) (h : (cleanD n r)[i]? = some (some x)) : r[i]? = some (some x) ∧ ∀ k, x = .cel k → k < n := by
  unfold cleanD at h
  rw [List.getElem?_map] at h
  cases hr : r[i]? with
  | none => rw [hr] at h; cases h
  | some o =>
    rw [hr] at h
    have h := Option.some.inj h
    cases o with
    | none => cases h
    | some y =>
      cases y with
      | dat d =>
        have h := Option.some.inj h
        subst h
        exact ⟨rfl, fun k e => nomatch e⟩
      | cel k =>
        unfold cleanO at h
        cases hb : Nat.blt k n with
        | true =>
          simp only [hb] at h
          have h := Option.some.inj h
          subst h
          refine ⟨rfl, fun k' e => ?_⟩
          cases e
          exact Nat.blt_eq.mp hb
        | false =>
          simp only [hb] at h
          cases h
theorem Ext.trim {F F' H H' : Hp} {al al' : List Addr} (e : Ext F al H F' al' H') : Ext F al H F' al H' := ⟨e.ex, List.prefix_refl _, e.nf, fun _ h => .inl h, e.kp, e.dm⟩
theorem prefix_at {al al' : List Addr} {k : Nat} {a : Addr} (p : al <+: al') (h : al[k]? = some a) : al'[k]? = some a := by
  obtain ⟨t, rfl⟩ := p
  have hl := (List.getElem?_eq_some_iff.mp h).1
  rw [List.getElem?_append_left hl]
  exact h
theorem Sim.trim {F H : Hp} {al al' : List Addr} {rho : Rho} {mu : Mu} {σ : L2.St} (S : Sim F al' rho mu σ H) (p : al <+: al') : Sim F al (cleanD al.length rho) (mu.take al.length) σ H where
  ex := S.ex
  nt := S.nt
  tb := S.tb
  len := by
    rw [List.length_take, ← S.len]
    have := p.length_le
    omega
  nd := S.nd.sublist p.sublist
  cel := fun k a m ha hm => by
    have hl := (List.getElem?_eq_some_iff.mp ha).1
    rw [List.getElem?_take, if_pos hl] at hm
    exact S.cel k a m (prefix_at p ha) hm
  slen := by rw [clean_len]; exact S.slen
  slot := fun i x h => by
    obtain ⟨h1, h2⟩ := clean_at _ _ _ _ h
    obtain ⟨v, q, r⟩ := S.slot i x h1
    refine ⟨v, q, ?_⟩
    cases x with
    | dat d => exact r
    | cel k =>
      obtain ⟨a, ha, er⟩ := r
      have hk := h2 k rfl
      refine ⟨a, ?_, er⟩
      have h3 := prefix_at p (List.getElem?_eq_getElem hk)
      rw [ha] at h3
      rw [List.getElem?_eq_getElem hk, Option.some.inj h3]
def dScope (t : DS) : DS := fun D rho mu => t { nx := fun r m => D.nx (cleanD mu.length r) (m.take mu.length), rt := D.rt, bk := fun r m => D.bk (cleanD mu.length r) (m.take mu.length), ct := fun r m => D.ct (cleanD mu.length r) (m.take mu.length) } rho mu
theorem css_scope {X : Cx} {ss : List Stmt} {t : DS} (h : CSs X ss t) : CSs X ss (dScope t) := by
  obtain ⟨ts, p, g⟩ := h.ok
  refine ⟨ts, p, fun F al rho mu σ H D E S q l => g F al rho mu σ H _ E S q ⟨fun F' al' rho' mu' σ' H' e S' q' => ?_, l.rt, fun F' al' rho' mu' σ' H' e S' q' => ?_, fun F' al' rho' mu' σ' H' e S' q' => ?_⟩⟩
  · rw [← S.len] at q'
    exact l.nx F' al _ _ σ' H' e.trim (S'.trim e.pf) q'
  · rw [← S.len] at q'
    exact l.bk F' al _ _ σ' H' e.trim (S'.trim e.pf) q'
  · rw [← S.len] at q'
    exact l.ct F' al _ _ σ' H' e.trim (S'.trim e.pf) q'
end Dx

namespace Dx
open PySem PySem.Spec PyProof.Rows L2
open Evl (Ex)
variable [Tb]

/-! ### tables of numbers -/
def tabD (n : Nat) (f : Nat → Int) : List D := (List.range n).map fun j => D.int (f j)
theorem tab_len (n : Nat) (f : Nat → Int) : (tabD n f).length = n := by
  unfold tabD
  rw [List.length_map, List.length_range]
theorem tab_get {n k : Nat} {f : Nat → Int} (h : k < n) : (tabD n f)[k]? = some (.int (f k)) := by
  unfold tabD
  rw [List.getElem?_map, List.getElem?_range h]
  rfl
theorem tab_at {n : Nat} {f : Nat → Int} {i : Int} (k : Nat) (e : i = (k : Int)) (h : k < n) : L2.atI (tabD n f) i = some (.int (f k)) := by
  subst e
  exact L2.atI_nat (tab_get h)
theorem tab_congr {n : Nat} {f g : Nat → Int} (h : ∀ j, j < n → f j = g j) : tabD n f = tabD n g := by
  unfold tabD
  refine List.map_congr_left fun j hj => ?_
  rw [h j (List.mem_range.mp hj)]
theorem tab_set {n k : Nat} {f : Nat → Int} {v : Int} : (tabD n f).set k (.int v) = tabD n (fun j => if j = k then v else f j) := by
  refine List.ext_getElem? fun j => ?_
  rw [List.getElem?_set]
  by_cases e : k = j
  · subst e
    rw [if_pos rfl, tab_len]
    by_cases h : k < n
    · rw [if_pos h, tab_get h, if_pos rfl]
    · rw [if_neg h, List.getElem?_eq_none (by rw [tab_len]; omega)]
  · rw [if_neg e]
    by_cases h : j < n
    · rw [tab_get h, tab_get h, if_neg (fun z => e z.symm)]
    · rw [List.getElem?_eq_none (by rw [tab_len]; omega), List.getElem?_eq_none (by rw [tab_len]; omega)]
theorem tab_first (n : Nat) : [D.int 1] ++ (List.replicate n [D.int 0]).flatten = tabD (n + 1) (fun j => if j = 0 then 1 else 0) := by
  refine List.ext_getElem? fun j => ?_
  have e : (List.replicate n [D.int 0]).flatten = List.replicate n (D.int 0) := by
    induction n with
    | zero => rfl
    | succ n ih => rw [List.replicate_succ, List.flatten_cons, ih]; rfl
  rw [e]
  cases j with
  | zero => rw [tab_get (by omega)]; rfl
  | succ j =>
    by_cases h : j < n
    · rw [tab_get (by omega), if_neg (by omega)]
      show (List.replicate n (D.int 0))[j]? = _
      rw [List.getElem?_replicate, if_pos h]
    · rw [List.getElem?_eq_none (l := tabD _ _) (by rw [tab_len]; omega)]
      show (List.replicate n (D.int 0))[j]? = _
      rw [List.getElem?_replicate, if_neg h]

/-! ### how many ways -/
def cnt : List Nat → List Nat → Nat
  | [], _ => 1
  | _ :: _, [] => 0
  | a :: w, b :: t => (if a = b then cnt w t else 0) + cnt (a :: w) t
theorem cnt_nil (t : List Nat) : cnt [] t = 1 := by cases t <;> rw [cnt]
theorem cnt_end (a : Nat) (w : List Nat) : cnt (a :: w) [] = 0 := by rw [cnt]
theorem cnt_cons (a b : Nat) (w t : List Nat) : cnt (a :: w) (b :: t) = (if a = b then cnt w t else 0) + cnt (a :: w) t := by rw [cnt]
theorem cnt_app_nil (w : List Nat) (a : Nat) : cnt (w ++ [a]) [] = 0 := by cases w <;> exact cnt_end _ _
theorem cnt_snoc : ∀ (t w : List Nat) (a b : Nat), cnt (w ++ [a]) (t ++ [b]) = cnt (w ++ [a]) t + if a = b then cnt w t else 0
  | [], [], a, b => by
    show cnt [a] [b] = cnt [a] [] + _
    rw [cnt_cons, cnt_end, cnt_nil, Nat.add_zero, Nat.zero_add]
  | [], x :: w, a, b => by
    show cnt (x :: (w ++ [a])) [b] = cnt (x :: (w ++ [a])) [] + _
    rw [cnt_cons, cnt_end, cnt_end, cnt_app_nil]
    simp
  | c :: t, [], a, b => by
    have ih := cnt_snoc t [] a b
    show cnt [a] (c :: (t ++ [b])) = cnt [a] (c :: t) + _
    rw [cnt_cons, cnt_cons, cnt_nil, cnt_nil, cnt_nil]
    have ih : cnt [a] (t ++ [b]) = cnt [a] t + if a = b then cnt [] t else 0 := ih
    rw [ih, cnt_nil]
    omega
  | c :: t, x :: w, a, b => by
    have i1 := cnt_snoc t w a b
    have i2 := cnt_snoc t (x :: w) a b
    show cnt (x :: (w ++ [a])) (c :: (t ++ [b])) = cnt (x :: (w ++ [a])) (c :: t) + _
    have i2 : cnt (x :: (w ++ [a])) (t ++ [b]) = cnt (x :: (w ++ [a])) t + if a = b then cnt (x :: w) t else 0 := i2
    rw [cnt_cons, cnt_cons, cnt_cons, i1, i2]
    split <;> split <;> omega
theorem cnt_sub : ∀ (w t : List Nat), (0 < cnt w t) ↔ sub w t = true
  | [], t => by rw [cnt_nil, sub_nil]; simp
  | a :: w, [] => by rw [cnt_end]; simp [sub]
  | a :: w, b :: t => by
    have i1 := cnt_sub w t
    have i2 := cnt_sub (a :: w) t
    have hs : sub (a :: w) (b :: t) = if a = b then sub w t else sub (a :: w) t := by rw [sub]
    rw [cnt_cons, hs]
    by_cases e : a = b
    · rw [if_pos e, if_pos e, ← i1]
      refine ⟨fun h => ?_, fun h => by omega⟩
      by_cases z : 0 < cnt w t
      · exact z
      · have h2 := i2.mp (by omega)
        refine i1.mpr ((sub_iff _ _).mpr ?_)
        exact (List.sublist_cons_self a w).trans ((sub_iff _ _).mp h2)
    · rw [if_neg e, if_neg e, ← i2, Nat.zero_add]
/-- from the front on: a word's first letters in a text's first ones -/
theorem cnt_step {w t : List Nat} {j m c : Nat} (hw : w[j]? = some a) (ht : t[m]? = some c) : cnt (w.take (j + 1)) (t.take (m + 1)) = cnt (w.take (j + 1)) (t.take m) + if a = c then cnt (w.take j) (t.take m) else 0 := by
  have e1 : w.take (j + 1) = w.take j ++ [a] := by rw [List.take_add_one, hw]; rfl
  have e2 : t.take (m + 1) = t.take m ++ [c] := by rw [List.take_add_one, ht]; rfl
  rw [e1, e2]
  exact cnt_snoc _ _ _ _
def S_ways : FS := fun xs mu Q => ∃ w t, xs = [.dat (.str w), .dat (.str t)] ∧ mu = [] ∧ w.length ≤ 900 ∧ t.length ≤ 1000 ∧ (∀ c ∈ w, c < 1114112) ∧ (∀ c ∈ t, c < 1114112) ∧ Q (.dv (.dat (.int (cnt w t)))) []
def t_ways : DS :=
  (dSeq (dSet 2 (dNew (fOp fCat (dFrz (fLst (aCons (dC (.int 1)) aNil))) (dFrz (fOp fRep (dFrz (fLst (aCons (dC (.int 0)) aNil))) (dCB dLen (aCons (dVar 0) aNil)))))))
  (dSeq (dFor (iStrD (dVar 1)) (dgN 3)
  (dFor (iRevN (dCB dLen (aCons (dVar 0) aNil))) (dgN 4)
  (dIf (dTest (dOp dEq (dOp dIx (dVar 0) (dVar 4)) (dVar 3)))
  (dPutL (dVar 2) (dOp dAdd (dVar 4) (dC (.int 1))) (dOp dAdd (dOp dIx (dVar 2) (dOp dAdd (dVar 4) (dC (.int 1)))) (dOp dIx (dVar 2) (dVar 4))))
  dNext)))
  (dRet (dOp dIx (dVar 2) (dCB dLen (aCons (dVar 0) aNil))))))
theorem len_ways : ∀ xs mu Q, S_ways xs mu Q → xs.length = 2 := fun xs mu Q h => by
  obtain ⟨w, t, rfl, _⟩ := h
  rfl
theorem rd_ways : Body t_ways ["word", "text", "counts", "letter", "k"] S_ways := fun xs mu Q h => by
  obtain ⟨w, t, rfl, rfl, hw, ht, ow, ot, q⟩ := h
  refine ⟨by show 1 ≤ 1000; omega, ?_⟩
  refine ⟨by show 1 ≤ 1000; omega, ?_⟩
  refine ⟨by omega, ?_⟩
  refine ⟨by omega, by omega, by show 1 ≤ 100; omega, ?_⟩
  have e0 : ((w.length : Nat) : Int).toNat = w.length := by omega
  have e1 : (tabD (w.length + 1) fun j => if j = 0 then 1 else 0) = tabD (w.length + 1) fun j => ((cnt (w.take j) (t.take 0) : Nat) : Int) := tab_congr fun j hj => by
    cases j with
    | zero => rw [List.take_zero, cnt_nil, if_pos rfl]; rfl
    | succ j =>
      have hj : j < w.length := by omega
      rw [if_neg (by omega), List.take_zero, List.take_add_one, List.getElem?_eq_getElem hj]
      show (0 : Int) = ((cnt (w.take j ++ [w[j]]) [] : Nat) : Int)
      rw [cnt_app_nil]
      rfl
  refine ⟨?_, ?_⟩
  · show 1 + (List.replicate ((w.length : Nat) : Int).toNat [D.int 0]).flatten.length ≤ 100000
    rw [e0]
    have := congrArg List.length (tab_first w.length)
    rw [List.length_append, tab_len] at this
    have h1 : [D.int 1].length = 1 := rfl
    omega
  refine for_inv (fun i rho mu => ∃ x y, mu = [.lst (tabD (w.length + 1) fun j => ((cnt (w.take j) (t.take i) : Nat) : Int))] ∧ rho = [some (.dat (.str w)), some (.dat (.str t)), some (.cel 0), x, y]) ⟨none, none, by show [MC.lst ([D.int 1] ++ (List.replicate ((w.length : Nat) : Int).toNat [D.int 0]).flatten)] = _; rw [e0, tab_first, e1], rfl⟩ (fun i d rho mu K hd hp ke => ?_) (fun rho mu hp => ?_)
  · obtain ⟨x, y, rfl, rfl⟩ := hp
    obtain ⟨c, hc, rfl⟩ := str_at hd
    refine ⟨by omega, by omega, by omega, ?_⟩
    rw [e0]
    refine for_inv (fun i2 rho mu => ∃ y, mu = [.lst (tabD (w.length + 1) fun j => if w.length - i2 < j then ((cnt (w.take j) (t.take (i + 1)) : Nat) : Int) else ((cnt (w.take j) (t.take i) : Nat) : Int))] ∧ rho = [some (.dat (.str w)), some (.dat (.str t)), some (.cel 0), some (.dat (.str [c])), y]) ⟨y, ?_, rfl⟩ (fun i2 d rho mu K hd hp ke2 => ?_) (fun rho mu hp => ?_)
    · rw [tab_congr fun j hj => (if_neg (show ¬ w.length - 0 < j by omega))]
    · obtain ⟨y, rfl, rfl⟩ := hp
      obtain ⟨rfl, hi⟩ := rngB_at hd
      obtain ⟨k, hk⟩ : ∃ k, k + 1 + i2 = w.length := ⟨w.length - 1 - i2, by omega⟩
      have ek : ((w.length : Nat) : Int) - 1 - ((i2 : Nat) : Int) = ((k : Nat) : Int) := by omega
      rw [ek]
      have hkl : k < w.length := by omega
      have st := cnt_step (List.getElem?_eq_getElem hkl) hc
      refine ⟨by omega, on_some (L2.atI_nat (List.getElem?_eq_getElem hkl)) ?_⟩
      refine ⟨okD_sign _ (ow _ (List.getElem_mem hkl)), okD_sign _ (ot c (List.mem_of_getElem? hc)), ?_⟩
      rw [eqD_str]
      refine itD (p := [w[k]] = [c]) (fun h => ?_) (fun h => ?_)
      · have h2 : w[k] = c := by simpa using h
        rw [if_pos h2] at st
        refine on_some (tab_at (k + 1) rfl (by omega)) ?_
        refine on_some (tab_at k rfl (by omega)) ?_
        refine on_some (a := k + 1) (by rw [tab_len]; exact Evl.ixN_nat (j := k + 1) (by omega)) ?_
        refine ke2 _ _ ⟨_, ?_, rfl⟩
        rw [List.set_cons_zero, tab_set]
        refine congrArg (fun l => [MC.lst l]) (tab_congr fun j hj => ?_)
        by_cases e : j = k + 1
        · subst e
          rw [if_pos rfl, if_neg (by omega), if_neg (by omega), if_pos (by omega), st]
          rfl
        · rw [if_neg e]
          by_cases e2 : w.length - i2 < j
          · rw [if_pos e2, if_pos (by omega)]
          · rw [if_neg e2, if_neg (by omega)]
      · have h2 : ¬ w[k] = c := by simpa using h
        rw [if_neg h2] at st
        refine ke2 _ _ ⟨_, ?_, rfl⟩
        refine congrArg (fun l => [MC.lst l]) (tab_congr fun j hj => ?_)
        by_cases e : j = k + 1
        · subst e
          rw [if_neg (by omega), if_pos (by omega), st]
          rfl
        · by_cases e2 : w.length - i2 < j
          · rw [if_pos e2, if_pos (by omega)]
          · rw [if_neg e2, if_neg (by omega)]
    · obtain ⟨y, rfl, rfl⟩ := hp
      refine ke _ _ ⟨_, _, ?_, rfl⟩
      rw [rngB_len]
      refine congrArg (fun l => [MC.lst l]) (tab_congr fun j hj => ?_)
      by_cases e : 0 < j
      · rw [if_pos (by omega)]
      · have : j = 0 := by omega
        subst this
        rw [if_neg (by omega), List.take_zero, cnt_nil, cnt_nil]
  · obtain ⟨x, y, rfl, rfl⟩ := hp
    rw [List.length_map]
    refine ⟨by omega, on_some (tab_at w.length rfl (by omega)) ?_⟩
    rw [List.take_length, List.take_length]
    exact q
def S_w_count : FS := fun xs mu Q => ∃ w t, xs = [.dat (.str w), .dat (.str t)] ∧ mu = [] ∧ w.length ≤ 900 ∧ t.length ≤ 1000 ∧ (∀ c ∈ w, c < 1114112) ∧ (∀ c ∈ t, c < 1114112) ∧ Q (.dv (.dat (.int (cnt w t)))) []
/- slots of w_count: 0 word_here, 1 text, 2 rest, 3 at, 4 fresh, 5 k -/
def t_w_count : DS :=
  (dSeq (dSet 2 (dFrz (fOp fCat (dFrz (fLst (aCons (dC (.int 1)) aNil))) (dFrz (fOp fRep (dFrz (fLst (aCons (dC (.int 0)) aNil))) (dCB dLen (aCons (dVar 0) aNil)))))))
  (dSeq (dFor (iRg3 (aCons (dOp dSub (dCB dLen (aCons (dVar 1) aNil)) (dC (.int 1))) (aCons (dNeg (dC (.int 1))) (aCons (dNeg (dC (.int 1))) aNil)))) (dgN 3)
  (dScope (dSeq (dSet 4 (dNew (fCB fListOf (aCons (dVar 2) aNil))))
  (dSeq (dFor (iRg2 (aCons (dC (.int 1)) (aCons (dOp dAdd (dCB dLen (aCons (dVar 0) aNil)) (dC (.int 1))) aNil))) (dgN 5)
  (dIf (dTest (dOp dEq (dOp dIx (dVar 0) (dOp dSub (dCB dLen (aCons (dVar 0) aNil)) (dVar 5))) (dOp dIx (dVar 1) (dVar 3))))
  (dPutL (dVar 4) (dVar 5) (dOp dAdd (dOp dIx (dVar 2) (dVar 5)) (dOp dIx (dVar 2) (dOp dSub (dVar 5) (dC (.int 1))))))
  dNext))
  (dFz 4 (dSet 2 (dVar 4)))))))
  (dRet (dOp dIx (dVar 2) (dCB dLen (aCons (dVar 0) aNil))))))
theorem len_w_count : ∀ xs mu Q, S_w_count xs mu Q → xs.length = 2 := fun xs mu Q h => by
  obtain ⟨w, t, rfl, _⟩ := h
  rfl
theorem cnt_back {w t : List Nat} {j m a c : Nat} (hw : w[j]? = some a) (ht : t[m]? = some c) : cnt (w.drop j) (t.drop m) = (if a = c then cnt (w.drop (j + 1)) (t.drop (m + 1)) else 0) + cnt (w.drop j) (t.drop (m + 1)) := by
  have h1 := (List.getElem?_eq_some_iff.mp hw).1
  have h2 := (List.getElem?_eq_some_iff.mp ht).1
  rw [List.getElem?_eq_getElem h1] at hw
  rw [List.getElem?_eq_getElem h2] at ht
  have h3 := Option.some.inj hw
  have h4 := Option.some.inj ht
  rw [List.drop_eq_getElem_cons h1, List.drop_eq_getElem_cons h2, h3, h4, cnt_cons]
theorem rd_w_count : Body t_w_count ["_law_word_here", "_law_text", "_law_rest", "_law_at", "_law_fresh", "_law_k"] S_w_count := fun xs mu Q h => by
  obtain ⟨w, t, rfl, rfl, hw, ht, ow, ot, q⟩ := h
  refine ⟨by show 1 ≤ 1000; omega, ?_⟩
  refine ⟨by show 1 ≤ 1000; omega, ?_⟩
  refine ⟨by omega, ?_⟩
  refine ⟨by omega, by omega, by show 1 ≤ 100; omega, ?_⟩
  have e0 : ((w.length : Nat) : Int).toNat = w.length := by omega
  have e1 : (tabD (w.length + 1) fun j => if j = 0 then 1 else 0) = tabD (w.length + 1) fun j => ((cnt (w.drop (w.length - j)) (t.drop (t.length - 0)) : Nat) : Int) := tab_congr fun j hj => by
    rw [Nat.sub_zero, List.drop_length]
    cases j with
    | zero => rw [Nat.sub_zero, List.drop_length, cnt_nil, if_pos rfl]; rfl
    | succ j =>
      rw [if_neg (by omega), List.drop_eq_getElem_cons (show w.length - (j + 1) < w.length by omega), cnt_end]
      rfl
  refine ⟨?_, ?_⟩
  · show 1 + (List.replicate ((w.length : Nat) : Int).toNat [D.int 0]).flatten.length ≤ 100000
    rw [e0]
    have := congrArg List.length (tab_first w.length)
    rw [List.length_append, tab_len] at this
    have h1 : [D.int 1].length = 1 := rfl
    omega
  refine ⟨by omega, rfl, ⟨by omega, by omega, by omega, by omega⟩, ?_⟩
  refine for_inv (fun i rho mu => ∃ x y z, mu = [] ∧ rho = [some (.dat (.str w)), some (.dat (.str t)), some (.dat (.lst (tabD (w.length + 1) fun j => ((cnt (w.drop (w.length - j)) (t.drop (t.length - i)) : Nat) : Int)))), x, y, z]) ⟨none, none, none, rfl, ?_⟩ (fun i d rho mu K hd hp ke => ?_) (fun rho mu hp => ?_)
  · show [some (DV.dat (.str w)), some (.dat (.str t)), some (.dat (.lst ([D.int 1] ++ (List.replicate ((w.length : Nat) : Int).toNat [D.int 0]).flatten))), none, none, none] = _
    rw [e0, tab_first, e1]
  · obtain ⟨x, y, z, rfl, rfl⟩ := hp
    obtain ⟨rfl, hi⟩ := rngB_at hd
    have hi : i < t.length := by omega
    obtain ⟨m, hm⟩ : ∃ m, m + 1 + i = t.length := ⟨t.length - 1 - i, by omega⟩
    have em : ((t.length : Nat) : Int) - 1 - ((i : Nat) : Int) = ((m : Nat) : Int) := by omega
    rw [em]
    have hml : m < t.length := by omega
    have hc : t[m]? = some t[m] := List.getElem?_eq_getElem hml
    generalize ec : t[m] = c at hc
    have m1 : t.length - i = m + 1 := by omega
    have m2 : t.length - (i + 1) = m := by omega
    rw [m1]
    rw [m2] at ke
    refine ⟨by omega, ⟨by omega, by omega, by omega, by omega⟩, ?_⟩
    have en : (((w.length : Nat) : Int) + 1 - 1).toNat = w.length := by omega
    rw [en]
    refine for_inv (fun i2 rho mu => ∃ z, mu = [.lst (tabD (w.length + 1) fun j => if j < i2 + 1 then ((cnt (w.drop (w.length - j)) (t.drop m) : Nat) : Int) else ((cnt (w.drop (w.length - j)) (t.drop (m + 1)) : Nat) : Int))] ∧ rho = [some (.dat (.str w)), some (.dat (.str t)), some (.dat (.lst (tabD (w.length + 1) fun j => ((cnt (w.drop (w.length - j)) (t.drop (m + 1)) : Nat) : Int)))), some (.dat (.int ((m : Nat) : Int))), some (.cel 0), z]) ⟨z, ?_, rfl⟩ (fun i2 d rho mu K hd hp ke2 => ?_) (fun rho mu hp => ?_)
    · refine congrArg (fun l => [MC.lst l]) (tab_congr fun j hj => ?_)
      by_cases e : j < 0 + 1
      · have : j = 0 := by omega
        subst this
        rw [if_pos e, Nat.sub_zero, List.drop_length, cnt_nil, cnt_nil]
      · rw [if_neg e]
    · obtain ⟨z, rfl, rfl⟩ := hp
      obtain ⟨rfl, hi2⟩ := rng_at hd
      obtain ⟨k, hk⟩ : ∃ k, k + 1 + i2 = w.length := ⟨w.length - 1 - i2, by omega⟩
      have hkl : k < w.length := by omega
      have st := cnt_back (List.getElem?_eq_getElem hkl) hc
      have e5 : (1 : Int) + ((i2 : Nat) : Int) = ((i2 + 1 : Nat) : Int) := by omega
      rw [e5]
      have ek : ((w.length : Nat) : Int) - ((i2 + 1 : Nat) : Int) = ((k : Nat) : Int) := by omega
      refine ⟨by omega, by omega, on_some (a := w[k]) (by rw [ek]; exact L2.atI_nat (List.getElem?_eq_getElem hkl)) ?_⟩
      refine ⟨by omega, on_some (L2.atI_nat hc) ?_⟩
      refine ⟨okD_sign _ (ow _ (List.getElem_mem hkl)), okD_sign _ (ot c (List.mem_of_getElem? hc)), ?_⟩
      rw [eqD_str]
      have k1 : w.length - (i2 + 1) = k := by omega
      have k2 : w.length - i2 = k + 1 := by omega
      refine itD (p := [w[k]] = [c]) (fun h => ?_) (fun h => ?_)
      · have h2 : w[k] = c := by simpa using h
        rw [if_pos h2] at st
        refine on_some (tab_at (i2 + 1) rfl (by omega)) ?_
        refine on_some (tab_at i2 (by omega) (by omega)) ?_
        refine on_some (a := i2 + 1) (by rw [tab_len]; exact Evl.ixN_nat (j := i2 + 1) (by omega)) ?_
        refine ke2 _ _ ⟨_, ?_, rfl⟩
        rw [List.set_cons_zero, tab_set]
        refine congrArg (fun l => [MC.lst l]) (tab_congr fun j hj => ?_)
        by_cases e : j = i2 + 1
        · subst e
          rw [if_pos rfl, if_pos (by omega), k1, k2, st]
          omega
        · rw [if_neg e]
          by_cases e2 : j < i2 + 1
          · rw [if_pos e2, if_pos (by omega)]
          · rw [if_neg e2, if_neg (by omega)]
      · have h2 : ¬ w[k] = c := by simpa using h
        rw [if_neg h2] at st
        refine ke2 _ _ ⟨_, ?_, rfl⟩
        refine congrArg (fun l => [MC.lst l]) (tab_congr fun j hj => ?_)
        by_cases e : j = i2 + 1
        · subst e
          rw [if_neg (by omega), if_pos (by omega), k1, st]
          omega
        · by_cases e2 : j < i2 + 1
          · rw [if_pos e2, if_pos (by omega)]
          · rw [if_neg e2, if_neg (by omega)]
    · obtain ⟨z, rfl, rfl⟩ := hp
      rw [rng_len]
      refine ⟨rfl, ?_⟩
      have e6 : (tabD (w.length + 1) fun j => if j < w.length + 1 then ((cnt (w.drop (w.length - j)) (t.drop m) : Nat) : Int) else ((cnt (w.drop (w.length - j)) (t.drop (m + 1)) : Nat) : Int)) = tabD (w.length + 1) fun j => ((cnt (w.drop (w.length - j)) (t.drop m) : Nat) : Int) := tab_congr fun j hj => if_pos hj
      rw [← e6] at ke
      exact ke _ _ ⟨_, _, _, rfl, rfl⟩
  · obtain ⟨x, y, z, rfl, rfl⟩ := hp
    rw [rngB_len]
    have e7 : (((t.length : Nat) : Int) - 1 - -1).toNat = t.length := by omega
    rw [e7, Nat.sub_self]
    refine ⟨by omega, on_some (tab_at w.length rfl (by omega)) ?_⟩
    rw [Nat.sub_self, List.drop_zero, List.drop_zero]
    exact q
end Dx

namespace Dx
open PySem PySem.Spec PyProof.Rows L2
open Evl (Ex)
variable [Tb]

/-! ### s.index(c) -/
def rIdx : V → List V → Hp → VK → Prop := fun x xs H Q => ∃ (a b : Str) (k : Nat), x = .str a ∧ xs = [.str b] ∧ Txt.index0 a b = some k ∧ Q (.int (k : Nat)) H
theorem mt_idx {X : Cx} : MtR X "str.index" rIdx := by
  intro pins s σ H x xs v us Q I rx rs h
  obtain ⟨a, b, k, rfl, rfl, hy, q⟩ := h
  obtain ⟨t, rfl⟩ := rx
  cases rs with
  | cons r1 rs =>
    cases rs
    obtain ⟨u, rfl⟩ := r1
    cases e : Builtin.Str.occurrences a b 0 a.length 1 with
    | nil =>
      unfold Txt.index0 at hy
      rw [e] at hy
      cases hy
    | cons j rest =>
      unfold Txt.index0 at hy
      rw [e] at hy
      have ej : j = k := Option.some.inj hy
      subst ej
      exact PySem.SC.index e ⟨.int (j : Nat), H, I.tok _, ⟨_, rfl⟩, q⟩
open PySem.Builtin PySem.Builtin.Str PySem.StrLaws in
theorem index0_one (t : List Nat) (c k : Nat) (h : findFrom t c 0 = some k) : Txt.index0 (mkS t) (mkS [c]) = some k := by
  have w := find3_one t c 0 (by omega)
  rw [show (0 : Int).toNat = 0 from rfl, h] at w
  have w : Txt.find3 (mkS t) (mkS [c]) 0 = (k : Int) := w
  unfold Txt.find3 at w
  have e0 : fromIndex (mkS t).length 0 = 0 := by
    unfold fromIndex
    rw [if_neg (by omega)]
    omega
  rw [e0] at w
  unfold Txt.index0
  cases e : Builtin.Str.occurrences (mkS t) (mkS [c]) 0 (mkS t).length 1 with
  | nil =>
    rw [e] at w
    have w : (-1 : Int) = (k : Int) := w
    omega
  | cons j rest =>
    rw [e] at w
    have w : (j : Int) = (k : Int) := w
    have : j = k := by omega
    subst this
    rfl
@[irreducible] def dIndex : DM := fun x xs mu Q => onS x fun s => on1 xs fun y => onS y fun c => match c with
  | [c] => onSome (findFrom s c 0) fun k => Q (.dat (.int k)) mu
  | _ => False
theorem mIndex {X : Cx} : MtD X "str" "str.index" dIndex := ⟨_, mt_idx, fun F al mu H x xs v vs Q R c r rs q l => by
  unfold dIndex at q
  obtain ⟨s, e1, e2, q⟩ := onS_out q r
  obtain ⟨y, u, ev, ry, q⟩ := on1_out q rs
  obtain ⟨ch, e3, e4, q⟩ := onS_out q ry
  cases ch with
  | nil => exact q.elim
  | cons ch rest =>
    cases rest with
    | cons _ _ => exact q.elim
    | nil =>
      obtain ⟨k, hk, q⟩ := onSome_out q
      subst e4
      exact ⟨mkS s, mkS [ch], k, e2, ev, index0_one s ch k hk, l F al _ _ _ _ Ext.refl c rv_int q⟩⟩
theorem dIndex_run {t : List Nat} {c k : Nat} {mu : Mu} {Q : DQ} (h : findFrom t c 0 = some k) (q : Q (.dat (.int (k : Int))) mu) : dIndex (.dat (.str t)) [.dat (.str [c])] mu Q := by
  unfold dIndex
  exact on_some h q

/-! ### machines -/
structure Mach where
  L : List Nat
  b : Nat
  ends : List Nat
  steps : List (List Nat)
def rowD (r : List Nat) : D := .tup (r.map natD)
def Mach.toD (M : Mach) : D := .tup [.str M.L, natD M.b, .tup (M.ends.map natD), .tup (M.steps.map rowD)]
structure Mach.Ok (M : Mach) : Prop where
  letters : IsLetters M.L
  len : 0 < M.L.length ∧ M.L.length ≤ 26
  rooms : 0 < M.steps.length ∧ M.steps.length ≤ 1000
  rows : ∀ r ∈ M.steps, r.length = M.L.length ∧ ∀ q ∈ r, q < M.steps.length
  begin : M.b < M.steps.length
  ends : ∀ e ∈ M.ends, e < M.steps.length
  few : M.ends.length ≤ 1000
  rise : M.ends.Pairwise (· < ·)
def posL (c : Nat) (l : List Nat) : Nat := (findFrom l c 0).getD 0
theorem pos_of {l : List Nat} {c : Nat} (h : c ∈ l) : findFrom l c 0 = some (posL c l) ∧ posL c l < l.length ∧ l[posL c l]? = some c := by
  unfold posL
  cases e : findFrom l c 0 with
  | none =>
    obtain ⟨i, hi, hc⟩ := List.getElem_of_mem h
    exact absurd (by rw [List.getElem?_eq_getElem hi, hc]) (find_none e i (Nat.zero_le _))
  | some k =>
    obtain ⟨_, h2, h3, _⟩ := find_some e
    exact ⟨rfl, h2, h3⟩
def Mach.stp (M : Mach) (r c : Nat) : Nat := (M.steps.getD r []).getD (posL c M.L) 0
def Mach.go (M : Mach) (r : Nat) (t : List Nat) : Nat := t.foldl M.stp r
theorem Mach.go_app (M : Mach) (r : Nat) (t u : List Nat) : M.go r (t ++ u) = M.go (M.go r t) u := List.foldl_append
theorem Mach.go_take (M : Mach) (r : Nat) {t : List Nat} {i c : Nat} (h : t[i]? = some c) : M.go r (t.take (i + 1)) = M.stp (M.go r (t.take i)) c := by
  rw [List.take_add_one, h]
  exact M.go_app r (t.take i) [c]
theorem Mach.Ok.stp {M : Mach} (h : M.Ok) {r c : Nat} (hr : r < M.steps.length) (hc : c ∈ M.L) : ∃ row, M.steps[r]? = some row ∧ row[posL c M.L]? = some (M.stp r c) ∧ M.stp r c < M.steps.length := by
  obtain ⟨_, p1, _⟩ := pos_of hc
  have e1 : M.steps[r]? = some M.steps[r] := List.getElem?_eq_getElem hr
  obtain ⟨w1, w2⟩ := h.rows _ (List.getElem_mem hr)
  have hl : posL c M.L < M.steps[r].length := by rw [w1]; exact p1
  have e2 : M.steps[r][posL c M.L]? = some M.steps[r][posL c M.L] := List.getElem?_eq_getElem hl
  have e3 : M.stp r c = M.steps[r][posL c M.L] := by
    unfold Mach.stp
    rw [List.getD_eq_getElem?_getD, List.getD_eq_getElem?_getD, e1]
    show (M.steps[r][posL c M.L]?).getD 0 = _
    rw [e2]
    rfl
  refine ⟨_, e1, by rw [e3]; exact e2, by rw [e3]; exact w2 _ (List.getElem_mem hl)⟩
theorem Mach.Ok.go {M : Mach} (h : M.Ok) : ∀ {t : List Nat} {r : Nat}, r < M.steps.length → (∀ c ∈ t, c ∈ M.L) → M.go r t < M.steps.length
  | [], r, hr, _ => hr
  | c :: t, r, hr, ht => h.go (t := t) (h.stp hr (ht c (by simp))).choose_spec.2.2 fun x hx => ht x (by simp [hx])
theorem rowD_at {rows : List (List Nat)} {r : Nat} {row : List Nat} (h : rows[r]? = some row) : L2.atI (rows.map rowD) ((r : Nat) : Int) = some (rowD row) := L2.atI_nat (by rw [List.getElem?_map, h]; rfl)
theorem natD_at {row : List Nat} {j q : Nat} (h : row[j]? = some q) : L2.atI (row.map natD) ((j : Nat) : Int) = some (natD q) := L2.atI_nat (by rw [List.getElem?_map, h]; rfl)
def S_room : FS := fun xs mu Q => ∃ (M : Mach) (r : Nat) (t : List Nat), xs = [.dat M.toD, .dat (natD r), .dat (.str t)] ∧ mu = [] ∧ M.Ok ∧ r < M.steps.length ∧ t.length ≤ 1000 ∧ (∀ c ∈ t, c ∈ M.L) ∧ Q (.dv (.dat (natD (M.go r t)))) []
theorem len_room : ∀ xs mu Q, S_room xs mu Q → xs.length = 3 := fun xs mu Q h => by
  obtain ⟨_, _, _, rfl, _⟩ := h
  rfl
def S_room_behind : FS := S_room
def S_w_room : FS := S_room
theorem len_room_behind : ∀ xs mu Q, S_room_behind xs mu Q → xs.length = 3 := len_room
theorem len_w_room : ∀ xs mu Q, S_w_room xs mu Q → xs.length = 3 := len_room
/- slots of room_behind: 0 machine, 1 room, 2 text, 3 letters, 4 begin, 5 ends, 6 steps, 7 letter -/
def t_room_behind : DS :=
  (dSeq (dAsg (dVar 0) (dgTup 4 (dgCons (dgN 3) (dgCons (dgN 4) (dgCons (dgN 5) (dgCons (dgN 6) dgNil))))))
  (dSeq (dFor (iStrD (dVar 2)) (dgN 7)
  (dSet 1 (dOp dIx (dOp dIx (dVar 6) (dVar 1)) (dBM "str" dIndex (dVar 3) (aCons (dVar 7) aNil)))))
  (dRet (dVar 1))))
theorem rd_room_behind : Body t_room_behind ["machine", "room", "text", "letters", "begin", "ends", "steps", "letter"] S_room_behind := fun xs mu Q h => by
  obtain ⟨M, r, t, rfl, rfl, ok, hr, ht, tc, q⟩ := h
  refine ⟨rfl, ?_⟩
  refine for_inv (fun i rho mu => ∃ x, mu = [] ∧ rho = [some (.dat M.toD), some (.dat (natD (M.go r (t.take i)))), some (.dat (.str t)), some (.dat (.str M.L)), some (.dat (natD M.b)), some (.dat (.tup (M.ends.map natD))), some (.dat (.tup (M.steps.map rowD))), x]) ⟨none, rfl, rfl⟩ (fun i d rho mu K hd hp ke => ?_) (fun rho mu hp => ?_)
  · obtain ⟨x, rfl, rfl⟩ := hp
    obtain ⟨c, hc, rfl⟩ := str_at hd
    have hg : M.go r (t.take i) < M.steps.length := ok.go hr fun c hc => tc c (List.mem_of_mem_take hc)
    have hcl := tc c (List.mem_of_getElem? hc)
    obtain ⟨row, e1, e2, e3⟩ := ok.stp hg hcl
    refine on_some (rowD_at e1) ?_
    refine ⟨rfl, ?_⟩
    refine dIndex_run (t := M.L) (c := c) (pos_of hcl).1 ?_
    refine on_some (natD_at e2) ?_
    exact ke _ _ ⟨_, rfl, by rw [M.go_take r hc]; rfl⟩
  · obtain ⟨x, rfl, rfl⟩ := hp
    rw [List.length_map, List.take_length]
    exact q
def t_w_room : DS :=
  (dSeq (dFor (iStrD (dVar 2)) (dgN 3)
  (dSet 1 (dOp dIx (dOp dIx (dOp dIx (dVar 0) (dC (.int 3))) (dVar 1)) (dBM "str" dIndex (dOp dIx (dVar 0) (dC (.int 0))) (aCons (dVar 3) aNil)))))
  (dRet (dVar 1)))
theorem m_at0 (M : Mach) : L2.atI [D.str M.L, natD M.b, .tup (M.ends.map natD), .tup (M.steps.map rowD)] 0 = some (.str M.L) := L2.atI_nat (j := 0) rfl
theorem m_at1 (M : Mach) : L2.atI [D.str M.L, natD M.b, .tup (M.ends.map natD), .tup (M.steps.map rowD)] 1 = some (natD M.b) := L2.atI_nat (j := 1) rfl
theorem m_at2 (M : Mach) : L2.atI [D.str M.L, natD M.b, .tup (M.ends.map natD), .tup (M.steps.map rowD)] 2 = some (.tup (M.ends.map natD)) := L2.atI_nat (j := 2) rfl
theorem m_at3 (M : Mach) : L2.atI [D.str M.L, natD M.b, .tup (M.ends.map natD), .tup (M.steps.map rowD)] 3 = some (.tup (M.steps.map rowD)) := L2.atI_nat (j := 3) rfl
theorem rd_w_room : Body t_w_room ["_law_machine_here", "_law_room_here", "_law_text", "_law_letter"] S_w_room := fun xs mu Q h => by
  obtain ⟨M, r, t, rfl, rfl, ok, hr, ht, tc, q⟩ := h
  refine for_inv (fun i rho mu => ∃ x, mu = [] ∧ rho = [some (.dat M.toD), some (.dat (natD (M.go r (t.take i)))), some (.dat (.str t)), x]) ⟨none, rfl, rfl⟩ (fun i d rho mu K hd hp ke => ?_) (fun rho mu hp => ?_)
  · obtain ⟨x, rfl, rfl⟩ := hp
    obtain ⟨c, hc, rfl⟩ := str_at hd
    have hg : M.go r (t.take i) < M.steps.length := ok.go hr fun c hc => tc c (List.mem_of_mem_take hc)
    have hcl := tc c (List.mem_of_getElem? hc)
    obtain ⟨row, e1, e2, e3⟩ := ok.stp hg hcl
    refine on_some (rowD_at e1) ?_
    refine ⟨rfl, ?_⟩
    refine dIndex_run (t := M.L) (c := c) (pos_of hcl).1 ?_
    refine on_some (natD_at e2) ?_
    exact ke _ _ ⟨_, rfl, by rw [M.go_take r hc]; rfl⟩
  · obtain ⟨x, rfl, rfl⟩ := hp
    rw [List.length_map, List.take_length]
    exact q
theorem nat_flat : ∀ l : List Nat, (l.map natD).all flatD = true
  | [] => rfl
  | _ :: l => by rw [List.map_cons, List.all_cons, nat_flat l]; rfl
theorem inD_nat (a : Nat) : ∀ l : List Nat, inD (natD a) (l.map natD) = decide (a ∈ l)
  | [] => by simp [inD]
  | b :: l => by
    have ih := inD_nat a l
    unfold inD at ih ⊢
    rw [List.map_cons, List.any_cons, ih]
    have e : eqF (natD b) (natD a) = decide (b = a) := by
      show ((b : Int) == (a : Int)) = decide (b = a)
      by_cases h : b = a
      · subst h; simp
      · rw [decide_eq_false h]
        simp; omega
    rw [e]
    by_cases h : b = a
    · subst h; simp
    · rw [decide_eq_false h, Bool.false_or]
      refine decide_eq_decide.mpr ⟨fun z => List.mem_cons_of_mem _ z, fun z => ?_⟩
      rcases List.mem_cons.mp z with e | e
      · exact absurd e.symm h
      · exact e
def Mach.takes (M : Mach) (t : List Nat) : Bool := decide (M.go M.b t ∈ M.ends)
def S_takesM : FS := fun xs mu Q => ∃ (M : Mach) (t : List Nat), xs = [.dat M.toD, .dat (.str t)] ∧ mu = [] ∧ M.Ok ∧ t.length ≤ 1000 ∧ (∀ c ∈ t, c ∈ M.L) ∧ Q (.dv (.dat (.bl (M.takes t)))) []
def S_takes : FS := S_takesM
def S_w_takes : FS := S_takesM
theorem len_takes : ∀ xs mu Q, S_takes xs mu Q → xs.length = 2 := fun xs mu Q h => by
  obtain ⟨_, _, rfl, _⟩ := h
  rfl
theorem len_w_takes : ∀ xs mu Q, S_w_takes xs mu Q → xs.length = 2 := len_takes
def t_takes : DS :=
  (dRet (dOp (dInQ false) (dCall S_room_behind (aCons (dVar 0) (aCons (dOp dIx (dVar 0) (dC (.int 1))) (aCons (dVar 1) aNil)))) (dOp dIx (dVar 0) (dC (.int 2)))))
theorem rd_takes : Body t_takes ["machine", "text"] S_takes := fun xs mu Q h => by
  obtain ⟨M, t, rfl, rfl, ok, ht, tc, q⟩ := h
  refine ⟨rfl, M, M.b, t, rfl, rfl, ok, ok.begin, ht, tc, ?_⟩
  refine ⟨rfl, nat_flat _, ?_⟩
  rw [inD_nat]
  exact q
def t_w_takes : DS :=
  (dRet (dOp (dInQ false) (dCall S_w_room (aCons (dVar 0) (aCons (dOp dIx (dVar 0) (dC (.int 1))) (aCons (dVar 1) aNil)))) (dOp dIx (dVar 0) (dC (.int 2)))))
theorem rd_w_takes : Body t_w_takes ["_law_machine_here", "_law_text"] S_w_takes := fun xs mu Q h => by
  obtain ⟨M, t, rfl, rfl, ok, ht, tc, q⟩ := h
  refine ⟨rfl, M, M.b, t, rfl, rfl, ok, ok.begin, ht, tc, ?_⟩
  refine ⟨rfl, nat_flat _, ?_⟩
  rw [inD_nat]
  exact q
/-- a machine drawn -/
def S_w_machine : FS := fun xs mu Q => ∃ m l n, mu = [m] ∧ FlowOk m ∧ xs = [.cel 0, .dat (.str l), .dat (.int n)] ∧ IsLetters l ∧ 0 < l.length ∧ l.length ≤ 26 ∧ 0 < n ∧ n ≤ 900 ∧ ∀ (M : Mach) m', FlowOk m' → M.Ok → M.L = l → (M.steps.length : Int) ≤ n → Q (.dv (.dat M.toD)) [m']
theorem len_w_machine : ∀ xs mu Q, S_w_machine xs mu Q → xs.length = 3 := fun xs mu Q h => by
  obtain ⟨m, l, n, _, _, rfl, _⟩ := h
  rfl
/- slots of w_machine: 0 flow_here, 1 letters_here, 2 most, 3 rooms, 4 ends, 5 steps, 6 room_here, 7 letter -/
def t_w_machine : DS :=
  (dSeq (dSet 3 (dOp dAdd (dC (.int 1)) (dCallR S_w_pick (aCons (dVar 0) (aCons (dVar 2) aNil)))))
  (dSeq (dSet 4 (dCB dTupOf (aCons (dFrz (fLc (iRg1 (aCons (dVar 3) aNil)) (dgN 6) (dTest (dOp dEq (dCallR S_w_pick (aCons (dVar 0) (aCons (dC (.int 2)) aNil))) (dC (.int 0)))) (dVar 6) [6])) aNil)))
  (dSeq (dSet 5 (dNew (fLst aNil)))
  (dSeq (dFor (iRg1 (aCons (dVar 3) aNil)) (dgN 6)
  (dDrop (dBM "list" dAppend (dVar 5) (aCons (dCB dTupOf (aCons (dFrz (fLc (iStrD (dVar 1)) (dgN 7) dYes (dCallR S_w_pick (aCons (dVar 0) (aCons (dVar 3) aNil))) [7])) aNil)) aNil))))
  (dRet (dTup (aCons (dVar 1) (aCons (dCallR S_w_pick (aCons (dVar 0) (aCons (dVar 3) aNil))) (aCons (dVar 4) (aCons (dCB dTupOf (aCons (dVar 5) aNil)) aNil))))))))))
theorem rise_app {l : List Nat} {i : Nat} (h : l.Pairwise (· < ·)) (b : ∀ e ∈ l, e < i) : (l ++ [i]).Pairwise (· < ·) := by
  rw [List.pairwise_append]
  refine ⟨h, List.pairwise_singleton _ _, fun a ha b' hb => ?_⟩
  rw [List.mem_singleton] at hb
  subst hb
  exact b a ha
theorem rd_w_machine : Body t_w_machine ["_law_flow_here", "_law_letters_here", "_law_most", "_law_rooms", "_law_ends", "_law_steps", "_law_room_here", "_law_letter"] S_w_machine := fun xs mu Q h => by
  obtain ⟨m, l, n, rfl, fo, rfl, hl, l0, l1, n0, n1, q⟩ := h
  refine ⟨fo.live, rfl, m, n, rfl, fo, rfl, by omega, by omega, fun r m1 f1 r0 r1 => ?_⟩
  obtain ⟨k, rfl⟩ := Int.eq_ofNat_of_zero_le r0
  have en : ((1 : Int) + ((k : Nat) : Int)).toNat = k + 1 := by omega
  refine ⟨by omega, by omega, ?_⟩
  rw [en]
  refine comp_inv (fun i acc mu => ∃ es m', acc = es.map natD ∧ mu = [m'] ∧ FlowOk m' ∧ es.length ≤ i ∧ es.Pairwise (· < ·) ∧ ∀ e ∈ es, e < i) ⟨[], m1, rfl, rfl, f1, Nat.le_refl _, .nil, by simp⟩ (fun i d acc mu K hd hp ke => ?_) (fun acc mu hp => ?_)
  · obtain ⟨es, m', rfl, rfl, f', el, er, eb⟩ := hp
    obtain ⟨rfl, hi⟩ := rng_at hd
    refine ⟨f'.live, rfl, m', 2, rfl, f', rfl, by omega, by omega, fun r m2 f2 r0 r1 => ?_⟩
    refine ⟨okD_int _ _, okD_int _ _, ?_⟩
    refine itI (fun _ => ?_) (fun _ => ?_)
    · refine ⟨by rw [List.length_map]; omega, ke _ _ ⟨es ++ [i], m2, ?_, rfl, f2, by rw [List.length_append]; simp; omega, rise_app er eb, fun e he => ?_⟩⟩
      · rw [List.map_append]
        show _ = _ ++ [D.int ((i : Nat) : Int)]
        rw [Int.zero_add]
      · rcases List.mem_append.mp he with z | z
        · have := eb e z; omega
        · rw [List.mem_singleton] at z; omega
    · exact ke _ _ ⟨es, m2, rfl, rfl, f2, by omega, er, fun e he => by have := eb e he; omega⟩
  · obtain ⟨es, m2, rfl, rfl, f2, el, er, eb⟩ := hp
    rw [rng_len] at el eb
    refine ⟨by show 0 ≤ 1000; omega, ?_⟩
    refine ⟨by omega, by omega, ?_⟩
    rw [en]
    refine for_inv (fun i rho mu => ∃ rows m' x y, mu = [m', .lst (rows.map rowD)] ∧ FlowOk m' ∧ rho = [some (.cel 0), some (.dat (.str l)), some (.dat (.int n)), some (.dat (.int ((1 : Int) + ((k : Nat) : Int)))), some (.dat (.tup (es.map natD))), some (.cel 1), x, y] ∧ rows.length = i ∧ ∀ r ∈ rows, r.length = l.length ∧ ∀ q ∈ r, q < k + 1) ⟨[], m2, _, _, rfl, f2, rfl, rfl, by simp⟩ (fun i d rho mu K hd hp ke => ?_) (fun rho mu hp => ?_)
    · obtain ⟨rows, m3, x, y, rfl, f3, rfl, rl, rw'⟩ := hp
      obtain ⟨rfl, hi⟩ := rng_at hd
      refine ⟨rfl, ?_⟩
      refine comp_inv (fun i acc mu => ∃ r m', acc = r.map natD ∧ mu = [m', .lst (rows.map rowD)] ∧ FlowOk m' ∧ r.length = i ∧ ∀ q ∈ r, q < k + 1) ⟨[], m3, rfl, rfl, f3, rfl, by simp⟩ (fun j d acc mu K hd hp ke => ?_) (fun acc mu hp => ?_)
      · obtain ⟨row, m', rfl, rfl, f', jl, jb⟩ := hp
        have hj : j < l.length := by
          have := (List.getElem?_eq_some_iff.mp hd).1
          rwa [List.length_map] at this
        refine ⟨f'.live, rfl, m', _, rfl, f', rfl, by omega, by omega, fun r m4 f4 r0 r1 => ?_⟩
        obtain ⟨v, rfl⟩ := Int.eq_ofNat_of_zero_le r0
        refine ⟨by rw [List.length_map]; omega, ke _ _ ⟨row ++ [v], m4, by rw [List.map_append]; rfl, rfl, f4, by rw [List.length_append, jl]; rfl, fun q hq => ?_⟩⟩
        rcases List.mem_append.mp hq with z | z
        · exact jb q z
        · rw [List.mem_singleton] at z; omega
      · obtain ⟨row, m', rfl, rfl, f', jl, jb⟩ := hp
        rw [List.length_map] at jl
        refine ⟨by rw [List.length_map]; omega, ?_⟩
        refine ke _ _ ⟨rows ++ [row], m', _, _, by rw [List.map_append]; rfl, f', rfl, by rw [List.length_append, rl]; rfl, fun r hr => ?_⟩
        rcases List.mem_append.mp hr with z | z
        · exact rw' r z
        · rw [List.mem_singleton] at z
          subst z
          exact ⟨jl, jb⟩
    · obtain ⟨rows, m3, x, y, rfl, f3, rfl, rl, rw'⟩ := hp
      rw [rng_len] at rl
      refine ⟨f3.live, rfl, m3, _, rfl, f3, rfl, by omega, by omega, fun r m4 f4 r0 r1 => ?_⟩
      obtain ⟨b, rfl⟩ := Int.eq_ofNat_of_zero_le r0
      refine ⟨by show 4 ≤ 1000; omega, ?_⟩
      refine q ⟨l, b, es, rows⟩ m4 f4 ⟨hl, ⟨l0, l1⟩, ?_, ?_, ?_, ?_, ?_, er⟩ rfl ?_
      · show 0 < rows.length ∧ rows.length ≤ 1000
        omega
      · intro r hr
        show r.length = l.length ∧ ∀ q ∈ r, q < rows.length
        rw [rl]
        exact rw' r hr
      · show b < rows.length
        omega
      · intro e he
        show e < rows.length
        rw [rl]
        exact eb e he
      · show es.length ≤ 1000
        omega
      · show ((rows.length : Nat) : Int) ≤ n
        omega
end Dx

namespace Dx
open PySem PySem.Spec PyProof.Rows L2
open Evl (Ex)
variable [Tb]

/-! ### wishes -/
inductive Wish where
  | always
  | never
  | has (w : List Nat)
  | neg (a : Wish)
  | con (a b : Wish)
  | dis (a b : Wish)
def Wish.toD : Wish → D
  | .always => .tup [.str (lit "always")]
  | .never => .tup [.str (lit "never")]
  | .has w => .tup [.str (lit "has"), .str w]
  | .neg a => .tup [.str (lit "not"), a.toD]
  | .con a b => .tup [.str (lit "and"), a.toD, b.toD]
  | .dis a b => .tup [.str (lit "or"), a.toD, b.toD]
def Wish.deep : Wish → Nat
  | .always => 0
  | .never => 0
  | .has _ => 0
  | .neg a => a.deep + 1
  | .con a b => max a.deep b.deep + 1
  | .dis a b => max a.deep b.deep + 1
def Wish.size : Wish → Nat
  | .always => 1
  | .never => 1
  | .has _ => 1
  | .neg a => a.size + 1
  | .con a b => a.size + b.size + 1
  | .dis a b => a.size + b.size + 1
def Wish.words : Wish → List (List Nat)
  | .always => []
  | .never => []
  | .has w => [w]
  | .neg a => a.words
  | .con a b => a.words ++ b.words
  | .dis a b => a.words ++ b.words
def Wish.holds : Wish → List Nat → Bool
  | .always, _ => true
  | .never, _ => false
  | .has w, t => sub w t
  | .neg a, t => !a.holds t
  | .con a b, t => a.holds t && b.holds t
  | .dis a b, t => a.holds t || b.holds t
theorem ok_alwaysT (n : Nat) : okD n (.str (lit "always")) = true := okD_str n (by decide +kernel)
theorem ok_neverT (n : Nat) : okD n (.str (lit "never")) = true := okD_str n (by decide +kernel)
theorem ok_hasT (n : Nat) : okD n (.str (lit "has")) = true := okD_str n (by decide +kernel)
theorem ok_notT (n : Nat) : okD n (.str (lit "not")) = true := okD_str n (by decide +kernel)
theorem ok_andT (n : Nat) : okD n (.str (lit "and")) = true := okD_str n (by decide +kernel)
theorem ok_orT (n : Nat) : okD n (.str (lit "or")) = true := okD_str n (by decide +kernel)
theorem e_always_always : eqD (.str (lit "always")) (.str (lit "always")) = true := by decide +kernel
theorem e_always_never : eqD (.str (lit "always")) (.str (lit "never")) = false := by decide +kernel
theorem e_always_has : eqD (.str (lit "always")) (.str (lit "has")) = false := by decide +kernel
theorem e_always_not : eqD (.str (lit "always")) (.str (lit "not")) = false := by decide +kernel
theorem e_always_and : eqD (.str (lit "always")) (.str (lit "and")) = false := by decide +kernel
theorem e_always_or : eqD (.str (lit "always")) (.str (lit "or")) = false := by decide +kernel
theorem e_never_always : eqD (.str (lit "never")) (.str (lit "always")) = false := by decide +kernel
theorem e_never_never : eqD (.str (lit "never")) (.str (lit "never")) = true := by decide +kernel
theorem e_never_has : eqD (.str (lit "never")) (.str (lit "has")) = false := by decide +kernel
theorem e_never_not : eqD (.str (lit "never")) (.str (lit "not")) = false := by decide +kernel
theorem e_never_and : eqD (.str (lit "never")) (.str (lit "and")) = false := by decide +kernel
theorem e_never_or : eqD (.str (lit "never")) (.str (lit "or")) = false := by decide +kernel
theorem e_has_always : eqD (.str (lit "has")) (.str (lit "always")) = false := by decide +kernel
theorem e_has_never : eqD (.str (lit "has")) (.str (lit "never")) = false := by decide +kernel
theorem e_has_has : eqD (.str (lit "has")) (.str (lit "has")) = true := by decide +kernel
theorem e_has_not : eqD (.str (lit "has")) (.str (lit "not")) = false := by decide +kernel
theorem e_has_and : eqD (.str (lit "has")) (.str (lit "and")) = false := by decide +kernel
theorem e_has_or : eqD (.str (lit "has")) (.str (lit "or")) = false := by decide +kernel
theorem e_not_always : eqD (.str (lit "not")) (.str (lit "always")) = false := by decide +kernel
theorem e_not_never : eqD (.str (lit "not")) (.str (lit "never")) = false := by decide +kernel
theorem e_not_has : eqD (.str (lit "not")) (.str (lit "has")) = false := by decide +kernel
theorem e_not_not : eqD (.str (lit "not")) (.str (lit "not")) = true := by decide +kernel
theorem e_not_and : eqD (.str (lit "not")) (.str (lit "and")) = false := by decide +kernel
theorem e_not_or : eqD (.str (lit "not")) (.str (lit "or")) = false := by decide +kernel
theorem e_and_always : eqD (.str (lit "and")) (.str (lit "always")) = false := by decide +kernel
theorem e_and_never : eqD (.str (lit "and")) (.str (lit "never")) = false := by decide +kernel
theorem e_and_has : eqD (.str (lit "and")) (.str (lit "has")) = false := by decide +kernel
theorem e_and_not : eqD (.str (lit "and")) (.str (lit "not")) = false := by decide +kernel
theorem e_and_and : eqD (.str (lit "and")) (.str (lit "and")) = true := by decide +kernel
theorem e_and_or : eqD (.str (lit "and")) (.str (lit "or")) = false := by decide +kernel
theorem e_or_always : eqD (.str (lit "or")) (.str (lit "always")) = false := by decide +kernel
theorem e_or_never : eqD (.str (lit "or")) (.str (lit "never")) = false := by decide +kernel
theorem e_or_has : eqD (.str (lit "or")) (.str (lit "has")) = false := by decide +kernel
theorem e_or_not : eqD (.str (lit "or")) (.str (lit "not")) = false := by decide +kernel
theorem e_or_and : eqD (.str (lit "or")) (.str (lit "and")) = false := by decide +kernel
theorem e_or_or : eqD (.str (lit "or")) (.str (lit "or")) = true := by decide +kernel

/-- n: how many calls, one in another -/
def S_holdsW : Nat → FS
  | 0 => fun _ _ _ => False
  | n + 1 => fun xs mu Q => ∃ (W : Wish) (t : List Nat), xs = [.dat W.toD, .dat (.str t)] ∧ mu = [] ∧ W.deep ≤ n ∧ (∀ w ∈ W.words, w.length ≤ 1000) ∧ (∀ w ∈ W.words, ∀ c ∈ w, c < 1114112) ∧ t.length ≤ 1000 ∧ (∀ c ∈ t, c < 1114112) ∧ Q (.dv (.dat (.bl (W.holds t)))) []
theorem len_holdsW {n : Nat} : ∀ xs mu Q, S_holdsW n xs mu Q → xs.length = 2 := fun xs mu Q h => by
  cases n with
  | zero => exact h.elim
  | succ n =>
    obtain ⟨_, _, rfl, _⟩ := h
    rfl
def S_holds : Nat → FS := S_holdsW
def S_w_holds : Nat → FS := S_holdsW
theorem len_holds {n : Nat} : ∀ xs mu Q, S_holds n xs mu Q → xs.length = 2 := len_holdsW
theorem len_w_holds {n : Nat} : ∀ xs mu Q, S_w_holds n xs mu Q → xs.length = 2 := len_holdsW
def t_holds (n : Nat) : DS :=
  (dSeq (dSet 2 (dOp dIx (dVar 0) (dC (.int 0))))
  (dSeq (dIf (dTest (dOp dEq (dVar 2) (dC (.str (lit "has")))))
  (dRet (dCall S_spread_in (aCons (dOp dIx (dVar 0) (dC (.int 1))) (aCons (dVar 1) aNil))))
  dNext)
  (dSeq (dIf (dTest (dOp dEq (dVar 2) (dC (.str (lit "not")))))
  (dRet (dNotV (dCall (S_holds n) (aCons (dOp dIx (dVar 0) (dC (.int 1))) (aCons (dVar 1) aNil)))))
  dNext)
  (dSeq (dIf (dTest (dOp dEq (dVar 2) (dC (.str (lit "and")))))
  (dRet (dAndV (dCall (S_holds n) (aCons (dOp dIx (dVar 0) (dC (.int 1))) (aCons (dVar 1) aNil))) (dCall (S_holds n) (aCons (dOp dIx (dVar 0) (dC (.int 2))) (aCons (dVar 1) aNil)))))
  dNext)
  (dSeq (dIf (dTest (dOp dEq (dVar 2) (dC (.str (lit "or")))))
  (dRet (dOrV (dCall (S_holds n) (aCons (dOp dIx (dVar 0) (dC (.int 1))) (aCons (dVar 1) aNil))) (dCall (S_holds n) (aCons (dOp dIx (dVar 0) (dC (.int 2))) (aCons (dVar 1) aNil)))))
  dNext)
  (dRet (dOp dEq (dVar 2) (dC (.str (lit "always"))))))))))
theorem rd_holds {n : Nat} : Body (t_holds n) ["wish", "text", "word"] (S_holds (n + 1)) := fun xs mu Q h => by
  obtain ⟨W, t, rfl, rfl, dp, wl, ow, ht, ot, q⟩ := h
  cases W with
  | always =>
    refine ⟨ok_alwaysT _, ok_hasT _, ?_⟩
    rw [e_always_has]
    refine ⟨ok_alwaysT _, ok_notT _, ?_⟩
    rw [e_always_not]
    refine ⟨ok_alwaysT _, ok_andT _, ?_⟩
    rw [e_always_and]
    refine ⟨ok_alwaysT _, ok_orT _, ?_⟩
    rw [e_always_or]
    refine ⟨ok_alwaysT _, ok_alwaysT _, ?_⟩
    rw [e_always_always]
    exact q
  | never =>
    refine ⟨ok_neverT _, ok_hasT _, ?_⟩
    rw [e_never_has]
    refine ⟨ok_neverT _, ok_notT _, ?_⟩
    rw [e_never_not]
    refine ⟨ok_neverT _, ok_andT _, ?_⟩
    rw [e_never_and]
    refine ⟨ok_neverT _, ok_orT _, ?_⟩
    rw [e_never_or]
    refine ⟨ok_neverT _, ok_alwaysT _, ?_⟩
    rw [e_never_always]
    exact q
  | has w =>
    refine ⟨ok_hasT _, ok_hasT _, ?_⟩
    rw [e_has_has]
    exact ⟨rfl, w, t, rfl, rfl, wl w (by simp [Wish.words]), ht, q⟩
  | neg a =>
    refine ⟨ok_notT _, ok_hasT _, ?_⟩
    rw [e_not_has]
    refine ⟨ok_notT _, ok_notT _, ?_⟩
    rw [e_not_not]
    cases n with
    | zero => exact absurd dp (by simp [Wish.deep])
    | succ n =>
      refine ⟨rfl, a, t, rfl, rfl, by simp [Wish.deep] at dp; omega, fun w hw => wl w (by simp [Wish.words, hw]), fun w hw => ow w (by simp [Wish.words, hw]), ht, ot, ?_⟩
      exact q
  | con a b =>
    refine ⟨ok_andT _, ok_hasT _, ?_⟩
    rw [e_and_has]
    refine ⟨ok_andT _, ok_notT _, ?_⟩
    rw [e_and_not]
    refine ⟨ok_andT _, ok_andT _, ?_⟩
    rw [e_and_and]
    cases n with
    | zero => exact absurd dp (by simp [Wish.deep])
    | succ n =>
      have dp : max a.deep b.deep + 1 ≤ n + 1 := dp
      refine ⟨rfl, a, t, rfl, rfl, by omega, fun w hw => wl w (by simp [Wish.words, hw]), fun w hw => ow w (by simp [Wish.words, hw]), ht, ot, ?_⟩
      have q : Q (.dv (.dat (.bl (a.holds t && b.holds t)))) [] := q
      show if a.holds t = true then _ else _
      cases ha : a.holds t with
      | true =>
        rw [ha] at q
        refine ⟨rfl, b, t, rfl, rfl, by omega, fun w hw => wl w (by simp [Wish.words, hw]), fun w hw => ow w (by simp [Wish.words, hw]), ht, ot, ?_⟩
        exact q
      | false =>
        rw [ha] at q
        exact q
  | dis a b =>
    refine ⟨ok_orT _, ok_hasT _, ?_⟩
    rw [e_or_has]
    refine ⟨ok_orT _, ok_notT _, ?_⟩
    rw [e_or_not]
    refine ⟨ok_orT _, ok_andT _, ?_⟩
    rw [e_or_and]
    refine ⟨ok_orT _, ok_orT _, ?_⟩
    rw [e_or_or]
    cases n with
    | zero => exact absurd dp (by simp [Wish.deep])
    | succ n =>
      have dp : max a.deep b.deep + 1 ≤ n + 1 := dp
      refine ⟨rfl, a, t, rfl, rfl, by omega, fun w hw => wl w (by simp [Wish.words, hw]), fun w hw => ow w (by simp [Wish.words, hw]), ht, ot, ?_⟩
      have q : Q (.dv (.dat (.bl (a.holds t || b.holds t)))) [] := q
      show if a.holds t = true then _ else _
      cases ha : a.holds t with
      | true =>
        rw [ha] at q
        exact q
      | false =>
        rw [ha] at q
        refine ⟨rfl, b, t, rfl, rfl, by omega, fun w hw => wl w (by simp [Wish.words, hw]), fun w hw => ow w (by simp [Wish.words, hw]), ht, ot, ?_⟩
        exact q
def t_w_holds (n : Nat) : DS :=
  (dSeq (dIf (dTest (dOp dEq (dOp dIx (dVar 0) (dC (.int 0))) (dC (.str (lit "has")))))
  (dRet (dCall S_w_spread (aCons (dOp dIx (dVar 0) (dC (.int 1))) (aCons (dVar 1) aNil))))
  dNext)
  (dSeq (dIf (dTest (dOp dEq (dOp dIx (dVar 0) (dC (.int 0))) (dC (.str (lit "not")))))
  (dRet (dNotV (dCall (S_w_holds n) (aCons (dOp dIx (dVar 0) (dC (.int 1))) (aCons (dVar 1) aNil)))))
  dNext)
  (dSeq (dIf (dTest (dOp dEq (dOp dIx (dVar 0) (dC (.int 0))) (dC (.str (lit "and")))))
  (dRet (dAndV (dCall (S_w_holds n) (aCons (dOp dIx (dVar 0) (dC (.int 1))) (aCons (dVar 1) aNil))) (dCall (S_w_holds n) (aCons (dOp dIx (dVar 0) (dC (.int 2))) (aCons (dVar 1) aNil)))))
  dNext)
  (dSeq (dIf (dTest (dOp dEq (dOp dIx (dVar 0) (dC (.int 0))) (dC (.str (lit "or")))))
  (dRet (dOrV (dCall (S_w_holds n) (aCons (dOp dIx (dVar 0) (dC (.int 1))) (aCons (dVar 1) aNil))) (dCall (S_w_holds n) (aCons (dOp dIx (dVar 0) (dC (.int 2))) (aCons (dVar 1) aNil)))))
  dNext)
  (dRet (dOp dEq (dOp dIx (dVar 0) (dC (.int 0))) (dC (.str (lit "always")))))))))
theorem rd_w_holds {n : Nat} : Body (t_w_holds n) ["_law_wish_here", "_law_text_here"] (S_w_holds (n + 1)) := fun xs mu Q h => by
  obtain ⟨W, t, rfl, rfl, dp, wl, ow, ht, ot, q⟩ := h
  cases W with
  | always =>
    refine ⟨ok_alwaysT _, ok_hasT _, ?_⟩
    rw [e_always_has]
    refine ⟨ok_alwaysT _, ok_notT _, ?_⟩
    rw [e_always_not]
    refine ⟨ok_alwaysT _, ok_andT _, ?_⟩
    rw [e_always_and]
    refine ⟨ok_alwaysT _, ok_orT _, ?_⟩
    rw [e_always_or]
    refine ⟨ok_alwaysT _, ok_alwaysT _, ?_⟩
    rw [e_always_always]
    exact q
  | never =>
    refine ⟨ok_neverT _, ok_hasT _, ?_⟩
    rw [e_never_has]
    refine ⟨ok_neverT _, ok_notT _, ?_⟩
    rw [e_never_not]
    refine ⟨ok_neverT _, ok_andT _, ?_⟩
    rw [e_never_and]
    refine ⟨ok_neverT _, ok_orT _, ?_⟩
    rw [e_never_or]
    refine ⟨ok_neverT _, ok_alwaysT _, ?_⟩
    rw [e_never_always]
    exact q
  | has w =>
    refine ⟨ok_hasT _, ok_hasT _, ?_⟩
    rw [e_has_has]
    exact ⟨rfl, w, t, rfl, rfl, wl w (by simp [Wish.words]), ht, ow w (by simp [Wish.words]), ot, q⟩
  | neg a =>
    refine ⟨ok_notT _, ok_hasT _, ?_⟩
    rw [e_not_has]
    refine ⟨ok_notT _, ok_notT _, ?_⟩
    rw [e_not_not]
    cases n with
    | zero => exact absurd dp (by simp [Wish.deep])
    | succ n =>
      refine ⟨rfl, a, t, rfl, rfl, by simp [Wish.deep] at dp; omega, fun w hw => wl w (by simp [Wish.words, hw]), fun w hw => ow w (by simp [Wish.words, hw]), ht, ot, ?_⟩
      exact q
  | con a b =>
    refine ⟨ok_andT _, ok_hasT _, ?_⟩
    rw [e_and_has]
    refine ⟨ok_andT _, ok_notT _, ?_⟩
    rw [e_and_not]
    refine ⟨ok_andT _, ok_andT _, ?_⟩
    rw [e_and_and]
    cases n with
    | zero => exact absurd dp (by simp [Wish.deep])
    | succ n =>
      have dp : max a.deep b.deep + 1 ≤ n + 1 := dp
      refine ⟨rfl, a, t, rfl, rfl, by omega, fun w hw => wl w (by simp [Wish.words, hw]), fun w hw => ow w (by simp [Wish.words, hw]), ht, ot, ?_⟩
      have q : Q (.dv (.dat (.bl (a.holds t && b.holds t)))) [] := q
      show if a.holds t = true then _ else _
      cases ha : a.holds t with
      | true =>
        rw [ha] at q
        refine ⟨rfl, b, t, rfl, rfl, by omega, fun w hw => wl w (by simp [Wish.words, hw]), fun w hw => ow w (by simp [Wish.words, hw]), ht, ot, ?_⟩
        exact q
      | false =>
        rw [ha] at q
        exact q
  | dis a b =>
    refine ⟨ok_orT _, ok_hasT _, ?_⟩
    rw [e_or_has]
    refine ⟨ok_orT _, ok_notT _, ?_⟩
    rw [e_or_not]
    refine ⟨ok_orT _, ok_andT _, ?_⟩
    rw [e_or_and]
    refine ⟨ok_orT _, ok_orT _, ?_⟩
    rw [e_or_or]
    cases n with
    | zero => exact absurd dp (by simp [Wish.deep])
    | succ n =>
      have dp : max a.deep b.deep + 1 ≤ n + 1 := dp
      refine ⟨rfl, a, t, rfl, rfl, by omega, fun w hw => wl w (by simp [Wish.words, hw]), fun w hw => ow w (by simp [Wish.words, hw]), ht, ot, ?_⟩
      have q : Q (.dv (.dat (.bl (a.holds t || b.holds t)))) [] := q
      show if a.holds t = true then _ else _
      cases ha : a.holds t with
      | true =>
        rw [ha] at q
        exact q
      | false =>
        rw [ha] at q
        refine ⟨rfl, b, t, rfl, rfl, by omega, fun w hw => wl w (by simp [Wish.words, hw]), fun w hw => ow w (by simp [Wish.words, hw]), ht, ot, ?_⟩
        exact q

/-- a wish drawn -/
def WishOk (l : List Nat) (most : Int) (W : Wish) : Prop := ∀ w ∈ W.words, (w.length : Int) ≤ most ∧ ∀ c ∈ w, c ∈ l
def S_w_wish : Nat → FS
  | 0 => fun _ _ _ => False
  | n + 1 => fun xs mu Q => ∃ (m : MC) (l : List Nat) (room deep most : Int), mu = [m] ∧ FlowOk m ∧ xs = [.cel 0, .dat (.str l), .dat (.int room), .dat (.int deep), .dat (.int most)] ∧ 0 < l.length ∧ l.length ≤ 1000 ∧ 0 ≤ deep ∧ deep ≤ n ∧ room ≤ 1000 ∧ 0 ≤ most ∧ most ≤ 100 ∧
    ∀ (W : Wish) m', FlowOk m' → (W.deep : Int) ≤ deep → (W.size : Int) ≤ max room 1 → WishOk l most W → Q (.dv (.dat W.toD)) [m']
theorem len_w_wish {n : Nat} : ∀ xs mu Q, S_w_wish n xs mu Q → xs.length = 5 := fun xs mu Q h => by
  cases n with
  | zero => exact h.elim
  | succ n =>
    obtain ⟨_, _, _, _, _, _, _, rfl, _⟩ := h
    rfl
def t_w_wish (n : Nat) : DS :=
  (dSeq (dSet 5 (dCallR S_w_pick (aCons (dVar 0) (aCons (dC (.int 6)) aNil))))
  (dSeq (dIf (dOr (dTest (dOp dLt (dVar 2) (dC (.int 2)))) (dOr (dTest (dOp dEq (dVar 3) (dC (.int 0)))) (dTest (dOp dEq (dVar 5) (dC (.int 0))))))
  (dSeq (dSet 6 (dCallR S_w_pick (aCons (dVar 0) (aCons (dC (.int 6)) aNil))))
  (dSeq (dIf (dTest (dOp dLt (dVar 6) (dC (.int 2))))
  (dRet (dOp dIx (dFrz (fLst (aCons (dTup (aCons (dC (.str (lit "always"))) aNil)) (aCons (dTup (aCons (dC (.str (lit "never"))) aNil)) aNil)))) (dVar 6)))
  dNext)
  (dRet (dTup (aCons (dC (.str (lit "has"))) (aCons (dBM "str" dJoin (dC (.str (lit ""))) (aCons (dFrz (fLc (iRg1 (aCons (dCallR S_w_pick (aCons (dVar 0) (aCons (dOp dAdd (dVar 4) (dC (.int 1))) aNil))) aNil)) (dgN 10) dYes (dOp dIx (dVar 1) (dCallR S_w_pick (aCons (dVar 0) (aCons (dCB dLen (aCons (dVar 1) aNil)) aNil)))) [10])) aNil)) aNil))))))
  dNext)
  (dSeq (dIf (dOr (dTest (dOp dLt (dVar 5) (dC (.int 3)))) (dTest (dOp dLt (dVar 2) (dC (.int 3)))))
  (dRet (dTup (aCons (dC (.str (lit "not"))) (aCons (dCallR (S_w_wish n) (aCons (dVar 0) (aCons (dVar 1) (aCons (dOp dSub (dVar 2) (dC (.int 1))) (aCons (dOp dSub (dVar 3) (dC (.int 1))) (aCons (dVar 4) aNil)))))) aNil))))
  dNext)
  (dSeq (dSet 7 (dOp dAdd (dC (.int 1)) (dCallR S_w_pick (aCons (dVar 0) (aCons (dOp dSub (dVar 2) (dC (.int 2))) aNil)))))
  (dSeq (dSet 8 (dCallR (S_w_wish n) (aCons (dVar 0) (aCons (dVar 1) (aCons (dVar 7) (aCons (dOp dSub (dVar 3) (dC (.int 1))) (aCons (dVar 4) aNil)))))))
  (dSeq (dSet 9 (dCallR (S_w_wish n) (aCons (dVar 0) (aCons (dVar 1) (aCons (dOp dSub (dOp dSub (dVar 2) (dC (.int 1))) (dVar 7)) (aCons (dOp dSub (dVar 3) (dC (.int 1))) (aCons (dVar 4) aNil)))))))
  (dRet (dTup (aCons (dOp dIx (dFrz (fLst (aCons (dC (.str (lit "and"))) (aCons (dC (.str (lit "or"))) aNil)))) (dCallR S_w_pick (aCons (dVar 0) (aCons (dC (.int 2)) aNil)))) (aCons (dVar 8) (aCons (dVar 9) aNil)))))))))))
theorem rd_w_wish {n : Nat} : Body (t_w_wish n) ["_law_flow_here", "_law_letters_here", "_law_room", "_law_deep", "_law_most", "_law_way", "_law_drawn", "_law_first", "_law_one", "_law_other", "_law_k"] (S_w_wish (n + 1)) := fun xs mu Q h => by
  obtain ⟨m, l, room, deep, most, rfl, fo, rfl, l0, l1, d0, d1, hr, m0, m9, q⟩ := h
  refine ⟨fo.live, rfl, m, 6, rfl, fo, rfl, by omega, by omega, fun way m1 f1 r0 r1 => ?_⟩
  have leaf : ∀ {D0 : DEnds} {x y z : Option DV}, (∀ v mu', D0.rt v mu' = retQ 1 Q v mu') → (dSeq (dSet 6 (dCallR S_w_pick (aCons (dVar 0) (aCons (dC (.int 6)) aNil))))
  (dSeq (dIf (dTest (dOp dLt (dVar 6) (dC (.int 2))))
  (dRet (dOp dIx (dFrz (fLst (aCons (dTup (aCons (dC (.str (lit "always"))) aNil)) (aCons (dTup (aCons (dC (.str (lit "never"))) aNil)) aNil)))) (dVar 6)))
  dNext)
  (dRet (dTup (aCons (dC (.str (lit "has"))) (aCons (dBM "str" dJoin (dC (.str (lit ""))) (aCons (dFrz (fLc (iRg1 (aCons (dCallR S_w_pick (aCons (dVar 0) (aCons (dOp dAdd (dVar 4) (dC (.int 1))) aNil))) aNil)) (dgN 10) dYes (dOp dIx (dVar 1) (dCallR S_w_pick (aCons (dVar 0) (aCons (dCB dLen (aCons (dVar 1) aNil)) aNil)))) [10])) aNil)) aNil)))))) D0 [some (.cel 0), some (.dat (.str l)), some (.dat (.int room)), some (.dat (.int deep)), some (.dat (.int most)), some (.dat (.int way)), none, none, none, none, none] [m1] := fun {D0 x y z} hD => by
    refine ⟨f1.live, rfl, m1, 6, rfl, f1, rfl, by omega, by omega, fun dr m2 f2 r0 r1 => ?_⟩
    refine itD (p := dr < 2) (fun h => ?_) (fun h => ?_)
    · refine ⟨by show 1 ≤ 1000; omega, by show 1 ≤ 1000; omega, by show 2 ≤ 1000; omega, ?_⟩
      obtain ⟨d, a1, a2⟩ := some_atI (xs := [D.tup [.str (lit "always")], D.tup [.str (lit "never")]]) (i := dr) r0 (by show dr < ((2 : Nat) : Int); omega)
      refine on_some a1 ?_
      show D0.rt (.dv (.dat d)) [m2]
      rw [hD]
      have := List.mem_of_getElem? a2
      simp only [List.mem_cons, List.not_mem_nil, or_false] at this
      rcases this with rfl | rfl
      · exact q .always m2 f2 d0 (by show ((1 : Nat) : Int) ≤ _; omega) (fun w hw => absurd hw (by simp [Wish.words]))
      · exact q .never m2 f2 d0 (by show ((1 : Nat) : Int) ≤ _; omega) (fun w hw => absurd hw (by simp [Wish.words]))
    · refine ⟨rfl, ?_⟩
      refine ⟨f2.live, rfl, m2, most + 1, rfl, f2, rfl, by omega, by omega, fun k m3 f3 k0 k1 => ?_⟩
      refine ⟨by omega, by omega, ?_⟩
      refine comp_draw f3 l0 l1 (by omega) (fun x => rfl) (fun x => rfl) fun w m4 f4 wl wc => ?_
      refine join_signs (l := w) (by omega) ?_
      refine ⟨by show 2 ≤ 1000; omega, ?_⟩
      show D0.rt (.dv (.dat (.tup [.str (lit "has"), .str w]))) [m4]
      rw [hD]
      exact q (.has w) m4 f4 d0 (by show ((1 : Nat) : Int) ≤ _; omega) (fun u hu => by
        have e : u = w := by simpa [Wish.words] using hu
        subst e
        exact ⟨by omega, wc⟩)
  have inner : 2 ≤ room → deep ≠ 0 → (dSeq (dIf (dOr (dTest (dOp dLt (dVar 5) (dC (.int 3)))) (dTest (dOp dLt (dVar 2) (dC (.int 3)))))
  (dRet (dTup (aCons (dC (.str (lit "not"))) (aCons (dCallR (S_w_wish n) (aCons (dVar 0) (aCons (dVar 1) (aCons (dOp dSub (dVar 2) (dC (.int 1))) (aCons (dOp dSub (dVar 3) (dC (.int 1))) (aCons (dVar 4) aNil)))))) aNil))))
  dNext)
  (dSeq (dSet 7 (dOp dAdd (dC (.int 1)) (dCallR S_w_pick (aCons (dVar 0) (aCons (dOp dSub (dVar 2) (dC (.int 2))) aNil)))))
  (dSeq (dSet 8 (dCallR (S_w_wish n) (aCons (dVar 0) (aCons (dVar 1) (aCons (dVar 7) (aCons (dOp dSub (dVar 3) (dC (.int 1))) (aCons (dVar 4) aNil)))))))
  (dSeq (dSet 9 (dCallR (S_w_wish n) (aCons (dVar 0) (aCons (dVar 1) (aCons (dOp dSub (dOp dSub (dVar 2) (dC (.int 1))) (dVar 7)) (aCons (dOp dSub (dVar 3) (dC (.int 1))) (aCons (dVar 4) aNil)))))))
  (dRet (dTup (aCons (dOp dIx (dFrz (fLst (aCons (dC (.str (lit "and"))) (aCons (dC (.str (lit "or"))) aNil)))) (dCallR S_w_pick (aCons (dVar 0) (aCons (dC (.int 2)) aNil)))) (aCons (dVar 8) (aCons (dVar 9) aNil))))))))) { nx := fun _ mu' => retQ 1 Q (.dv (.dat .non)) mu', rt := retQ 1 Q } [some (.cel 0), some (.dat (.str l)), some (.dat (.int room)), some (.dat (.int deep)), some (.dat (.int most)), some (.dat (.int way)), none, none, none, none, none] [m1] := fun hr2 hd => by
    cases n with
    | zero => omega
    | succ n =>
      have one : (dRet (dTup (aCons (dC (.str (lit "not"))) (aCons (dCallR (S_w_wish (n + 1)) (aCons (dVar 0) (aCons (dVar 1) (aCons (dOp dSub (dVar 2) (dC (.int 1))) (aCons (dOp dSub (dVar 3) (dC (.int 1))) (aCons (dVar 4) aNil)))))) aNil)))) { nx := fun _ mu' => retQ 1 Q (.dv (.dat .non)) mu', rt := retQ 1 Q } [some (.cel 0), some (.dat (.str l)), some (.dat (.int room)), some (.dat (.int deep)), some (.dat (.int most)), some (.dat (.int way)), none, none, none, none, none] [m1] := by
        refine ⟨f1.live, rfl, m1, l, room - 1, deep - 1, most, rfl, f1, rfl, l0, l1, by omega, by omega, by omega, m0, m9, fun A m2 f2 ad as aw => ?_⟩
        refine ⟨by show 2 ≤ 1000; omega, ?_⟩
        exact q (.neg A) m2 f2 (by show ((A.deep + 1 : Nat) : Int) ≤ _; omega) (by show ((A.size + 1 : Nat) : Int) ≤ _; omega) aw
      refine itD (p := way < 3) (fun _ => one) (fun _ => ?_)
      refine itD (p := room < 3) (fun _ => one) (fun hr3 => ?_)
      refine ⟨f1.live, rfl, m1, room - 2, rfl, f1, rfl, by omega, by omega, fun k m2 f2 k0 k1 => ?_⟩
      refine ⟨f2.live, rfl, m2, l, 1 + k, deep - 1, most, rfl, f2, rfl, l0, l1, by omega, by omega, by omega, m0, m9, fun A m3 f3 ad as aw => ?_⟩
      refine ⟨f3.live, rfl, m3, l, room - 1 - (1 + k), deep - 1, most, rfl, f3, rfl, l0, l1, by omega, by omega, by omega, m0, m9, fun B m4 f4 bd bs bw => ?_⟩
      refine ⟨by show 2 ≤ 1000; omega, ?_⟩
      refine ⟨f4.live, rfl, m4, 2, rfl, f4, rfl, by omega, by omega, fun p m5 f5 p0 p1 => ?_⟩
      obtain ⟨d, a1, a2⟩ := some_atI (xs := [D.str (lit "and"), D.str (lit "or")]) (i := p) p0 (by show p < ((2 : Nat) : Int); omega)
      refine on_some a1 ?_
      refine ⟨by show 3 ≤ 1000; omega, ?_⟩
      have := List.mem_of_getElem? a2
      simp only [List.mem_cons, List.not_mem_nil, or_false] at this
      have ab : WishOk l most (.con A B) := fun w hw => by
        rcases List.mem_append.mp hw with z | z
        · exact aw w z
        · exact bw w z
      rcases this with rfl | rfl
      · exact q (.con A B) m5 f5 (by show ((max A.deep B.deep + 1 : Nat) : Int) ≤ _; omega) (by show ((A.size + B.size + 1 : Nat) : Int) ≤ _; omega) ab
      · exact q (.dis A B) m5 f5 (by show ((max A.deep B.deep + 1 : Nat) : Int) ≤ _; omega) (by show ((A.size + B.size + 1 : Nat) : Int) ≤ _; omega) ab
  refine itD (p := room < 2) (fun h => leaf (x := none) (y := none) (z := none) fun _ _ => rfl) (fun h2 => ?_)
  refine ⟨okD_int _ _, okD_int _ _, ?_⟩
  refine itI (fun h => leaf (x := none) (y := none) (z := none) fun _ _ => rfl) (fun hd => ?_)
  refine ⟨okD_int _ _, okD_int _ _, ?_⟩
  refine itI (fun h => leaf (x := none) (y := none) (z := none) fun _ _ => rfl) (fun _ => ?_)
  exact inner (by omega) hd

end Dx

namespace Dx
open PySem PySem.Spec PyProof.Rows L2
open Evl (Ex)
variable [Tb]
def S_w_any_wish : FS := fun xs mu Q => ∃ m l, mu = [m] ∧ FlowOk m ∧ xs = [.cel 0, .dat (.str l)] ∧ 0 < l.length ∧ l.length ≤ 1000 ∧ ∀ (W : Wish) m', FlowOk m' → W.deep ≤ 5 → W.size ≤ 10 → WishOk l 3 W → Q (.dv (.dat W.toD)) [m']
theorem len_w_any_wish : ∀ xs mu Q, S_w_any_wish xs mu Q → xs.length = 2 := fun xs mu Q h => by
  obtain ⟨m, l, _, _, rfl, _⟩ := h
  rfl
def t_w_any_wish : DS :=
  (dRet (dCallR (S_w_wish 7) (aCons (dVar 0) (aCons (dVar 1) (aCons (dOp dIx (dFrz (fLst (aCons (dC (.int 10)) (aCons (dOp dAdd (dC (.int 1)) (dCallR S_w_pick (aCons (dVar 0) (aCons (dC (.int 10)) aNil)))) aNil)))) (dCallR S_w_pick (aCons (dVar 0) (aCons (dC (.int 2)) aNil)))) (aCons (dC (.int 5)) (aCons (dC (.int 3)) aNil)))))))
theorem rd_w_any_wish : Body t_w_any_wish ["_law_flow_here", "_law_letters_here"] S_w_any_wish := fun xs mu Q h => by
  obtain ⟨m, l, rfl, fo, rfl, l0, l1, q⟩ := h
  refine ⟨fo.live, rfl, m, 10, rfl, fo, rfl, by omega, by omega, fun k m1 f1 k0 k1 => ?_⟩
  refine ⟨by show 2 ≤ 1000; omega, ?_⟩
  refine ⟨f1.live, rfl, m1, 2, rfl, f1, rfl, by omega, by omega, fun r m2 f2 r0 r1 => ?_⟩
  obtain ⟨d, a1, a2⟩ := some_atI (xs := [D.int 10, D.int (1 + k)]) (i := r) r0 (by show r < ((2 : Nat) : Int); omega)
  refine on_some a1 ?_
  have hn : ∃ n : Int, d = .int n ∧ 1 ≤ n ∧ n ≤ 10 := by
    have := List.mem_of_getElem? a2
    simp only [List.mem_cons, List.not_mem_nil, or_false] at this
    rcases this with rfl | rfl
    · exact ⟨10, rfl, by omega, by omega⟩
    · exact ⟨1 + k, rfl, by omega, by omega⟩
  obtain ⟨n, rfl, n0, n1⟩ := hn
  refine ⟨f2.live, rfl, m2, l, n, 5, 3, rfl, f2, rfl, l0, l1, by omega, by decide, by omega, by omega, by omega, fun W m3 f3 wd ws ww => ?_⟩
  exact q W m3 f3 (by omega) (by omega) ww
def S_w_some_letters : FS := fun xs mu Q => ∃ m, mu = [m] ∧ FlowOk m ∧ xs = [.cel 0] ∧ ∀ l m', FlowOk m' → IsLetters l → 0 < l.length → l.length ≤ 3 → Q (.dv (.dat (.str l))) [m']
theorem len_w_some_letters : ∀ xs mu Q, S_w_some_letters xs mu Q → xs.length = 1 := fun xs mu Q h => by
  obtain ⟨m, _, _, rfl, _⟩ := h
  rfl
def t_w_some_letters : DS :=
  (dRet (dCallR S_w_letters (aCons (dVar 0) (aCons (dOp dIx (dFrz (fLst (aCons (dC (.int 1)) (aCons (dC (.int 2)) (aCons (dC (.int 2)) (aCons (dC (.int 3)) (aCons (dC (.int 3)) aNil))))))) (dCallR S_w_pick (aCons (dVar 0) (aCons (dC (.int 5)) aNil)))) aNil))))
theorem rd_w_some_letters : Body t_w_some_letters ["_law_flow_here"] S_w_some_letters := fun xs mu Q h => by
  obtain ⟨m, rfl, fo, rfl, q⟩ := h
  refine ⟨by show 5 ≤ 1000; omega, ?_⟩
  refine ⟨fo.live, rfl, m, 5, rfl, fo, rfl, by omega, by omega, fun r m1 f1 r0 r1 => ?_⟩
  obtain ⟨d, a1, a2⟩ := some_atI (xs := [D.int 1, D.int 2, D.int 2, D.int 3, D.int 3]) (i := r) r0 (by show r < ((5 : Nat) : Int); omega)
  refine on_some a1 ?_
  have hn : ∃ n : Int, d = .int n ∧ 1 ≤ n ∧ n ≤ 3 := by
    have := List.mem_of_getElem? a2
    simp only [List.mem_cons, List.not_mem_nil, or_false] at this
    rcases this with rfl | rfl | rfl | rfl | rfl
    · exact ⟨1, rfl, by omega, by omega⟩
    · exact ⟨2, rfl, by omega, by omega⟩
    · exact ⟨2, rfl, by omega, by omega⟩
    · exact ⟨3, rfl, by omega, by omega⟩
    · exact ⟨3, rfl, by omega, by omega⟩
  obtain ⟨n, rfl, n0, n1⟩ := hn
  refine ⟨f1.live, rfl, m1, n, rfl, f1, rfl, by omega, by omega, fun l m2 f2 hl ll => ?_⟩
  exact q l m2 f2 hl (by omega) (by omega)
def S_w_text : FS := fun xs mu Q => ∃ m l n, mu = [m] ∧ FlowOk m ∧ xs = [.cel 0, .dat (.str l), .dat (.int n)] ∧ 0 < l.length ∧ l.length ≤ 1000 ∧ 3 ≤ n ∧ n ≤ 200 ∧ ∀ w m', FlowOk m' → (w.length : Int) ≤ n → (∀ c ∈ w, c ∈ l) → Q (.dv (.dat (.str w))) [m']
theorem len_w_text : ∀ xs mu Q, S_w_text xs mu Q → xs.length = 3 := fun xs mu Q h => by
  obtain ⟨m, l, n, _, _, rfl, _⟩ := h
  rfl
def t_w_text : DS :=
  (dRet (dCallR S_w_word (aCons (dVar 0) (aCons (dVar 1) (aCons (dOp dIx (dFrz (fLst (aCons (dC (.int 3)) (aCons (dVar 2) aNil)))) (dCB dInt (aCons (dOp dGt (dCallR S_w_pick (aCons (dVar 0) (aCons (dC (.int 4)) aNil))) (dC (.int 0))) aNil))) aNil)))))
theorem rd_w_text : Body t_w_text ["_law_flow_here", "_law_letters_here", "_law_most"] S_w_text := fun xs mu Q h => by
  obtain ⟨m, l, n, rfl, fo, rfl, l0, l1, n0, n1, q⟩ := h
  refine ⟨by show 2 ≤ 1000; omega, ?_⟩
  refine ⟨fo.live, rfl, m, 4, rfl, fo, rfl, by omega, by omega, fun r m1 f1 r0 r1 => ?_⟩
  obtain ⟨d, a1, a2⟩ := some_atI (xs := [D.int 3, D.int n]) (i := if decide ((0 : Int) < r) = true then 1 else 0) (by split <;> omega) (by show _ < ((2 : Nat) : Int); split <;> omega)
  refine on_some a1 ?_
  have hn : ∃ k : Int, d = .int k ∧ 3 ≤ k ∧ k ≤ n := by
    have := List.mem_of_getElem? a2
    simp only [List.mem_cons, List.not_mem_nil, or_false] at this
    rcases this with rfl | rfl
    · exact ⟨3, rfl, by omega, by omega⟩
    · exact ⟨n, rfl, by omega, by omega⟩
  obtain ⟨k, rfl, k0, k1⟩ := hn
  refine ⟨f1.live, rfl, m1, l, k, rfl, f1, rfl, l0, l1, by omega, by omega, fun w m2 f2 wl wc => ?_⟩
  exact q w m2 f2 (by omega) wc
end Dx

namespace Dx
open PySem PySem.Spec PyProof.Rows PyProof.Rows.G L2
open Evl (Ex)
variable [Tb]

/-! ### sorted(texts, key=f), f telling (its length, itself) -/
def kSh : Nat → Bool := fun i => i == 1
def kwS (x : Str) : List (Int ⊕ List Nat) := [.inl (x.length : Int), .inr x.cps.toList]
def ltS (x y : Str) : Bool := lexLt itemOrd (kwS x) (kwS y)
inductive KeysFor (H : Hp) : List Addr → List Str → Prop
  | nil : KeysFor H [] []
  | cons {t : Addr} {w : Str} {ts : List Addr} {ws : List Str} : H t = some (.tup [.int (w.length : Int), .str w]) → KeysFor H ts ws → KeysFor H (t :: ts) (w :: ws)
theorem KeysFor.mono {H H' : Hp} (e : ∀ t u, H t = some (.tup u) → H' t = some (.tup u)) : ∀ {ts : List Addr} {ws : List Str}, KeysFor H ts ws → KeysFor H' ts ws
  | _, _, .nil => .nil
  | _, _, .cons h r => .cons (e _ _ h) (r.mono e)
theorem KeysFor.len {H : Hp} : ∀ {ts : List Addr} {ws : List Str}, KeysFor H ts ws → ts.length = ws.length
  | _, _, .nil => rfl
  | _, _, .cons h r => by rw [List.length_cons, List.length_cons, r.len]
theorem KeysFor.snoc {H : Hp} {t : Addr} {w : Str} (h : H t = some (.tup [.int (w.length : Int), .str w])) : ∀ {ts : List Addr} {ws : List Str}, KeysFor H ts ws → KeysFor H (ts ++ [t]) (ws ++ [w])
  | _, _, .nil => .cons h .nil
  | _, _, .cons h' r => .cons h' (r.snoc h)
section
variable {X : Cx} {pins : List (Addr × Obj)} {σ : L2.St} {H : Hp} {s : Shared}
theorem key_tup (I : Inv X pins σ H s) {t : Addr} {w : Str} (h : H t = some (.tup [.int (w.length : Int), .str w])) :
    tupKeyC s.heap kSh (.ref t) = some (kwS w) ∧ ∃ f, TupOf s.heap kSh (.ref t) f := by
  obtain ⟨its, r, ⟨o, ho, hc, n, hd⟩, _⟩ := I.tuple (.inl (.inl h))
  cases r with
  | cons r1 r =>
    cases r with
    | cons r2 r =>
      cases r
      obtain ⟨t1, rfl⟩ := r1
      obtain ⟨t2, rfl⟩ := r2
      have e1 : isTupObj s.heap (.ref t) = true := by
        unfold isTupObj
        simp only [ho, hc]
        rfl
      refine ⟨?_, .int (w.length : Int) t1, t, o, _, n, rfl, ho, hc, hd, rfl, fun _ => ⟨_, _, rfl⟩, fun e => absurd e (by decide)⟩
      unfold tupKeyC
      rw [if_pos e1]
      unfold tupKey
      simp only [ho, hd]
      rfl
theorem keys_tups (I : Inv X pins σ H s) : ∀ {ks : List Addr} {ws : List Str}, KeysFor H ks ws → ∃ fs, TupsOf s.heap kSh (ks.map Value.ref) fs ∧ fs.length = ks.length
  | _, _, .nil => ⟨[], .nil, rfl⟩
  | _, _, .cons h r => by
    obtain ⟨fs, t, e⟩ := keys_tups I r
    obtain ⟨_, f, hf⟩ := key_tup I h
    exact ⟨f :: fs, .cons hf t, by rw [List.length_cons, List.length_cons, e]⟩
/-- a pair of the sort: a key, its text -/
def PairOk (h : Heap) (p : Keyed) : Prop := ∃ (w : Str) (u : Tok), p.2 = .str w u ∧ tupKeyC h kSh p.1 = some (kwS w)
theorem keys_pairs (I : Inv X pins σ H s) : ∀ {ks : List Addr} {ws : List Str} {vs : List Value}, KeysFor H ks ws → Vals (ws.map V.str) vs → ∀ p ∈ (ks.map Value.ref).zip vs, PairOk s.heap p
  | _, _, _, .nil, .nil, p, hp => by simp at hp
  | t :: ks, w :: ws, _, .cons h r, .cons r1 r2, p, hp => by
    obtain ⟨u, rfl⟩ := r1
    rw [List.map_cons, List.zip_cons_cons] at hp
    rcases List.mem_cons.mp hp with e | hp
    · subst e
      exact ⟨w, u, rfl, (key_tup I h).1⟩
    · exact keys_pairs I r r2 p hp
theorem vals_ref : ∀ {ks : List Addr} {us : List Value}, Vals (ks.map V.ref) us → us = ks.map Value.ref
  | [], _, .nil => rfl
  | _ :: _, _, .cons r t => by
    cases r
    rw [List.map_cons, vals_ref t]
def strOf : Value → Str
  | .str w _ => w
  | _ => ⟨#[]⟩
theorem vals_strOf : ∀ {l : List Value}, (∀ v ∈ l, ∃ w u, v = .str w u) → Vals ((l.map strOf).map V.str) l
  | [], _ => .nil
  | v :: l, h => by
    obtain ⟨w, u, rfl⟩ := h v (by simp)
    exact .cons ⟨u, rfl⟩ (vals_strOf fun v hv => h v (by simp [hv]))
theorem strOf_vals : ∀ {ws : List Str} {vs : List Value}, Vals (ws.map V.str) vs → vs.map strOf = ws
  | [], _, .nil => rfl
  | _ :: _, _, .cons r t => by
    obtain ⟨u, rfl⟩ := r
    rw [List.map_cons, strOf_vals t]
    rfl
/-- what the sort leaves -/
theorem key_out {h : Heap} {xs a₀ : Array Keyed} {ws : List Str} {vs : List Value} {ks : List Value} (hl : ks.length = vs.length) (e0 : a₀.toList = ks.zip vs) (hv : vs.map strOf = ws) (hp : ∀ p ∈ ks.zip vs, PairOk h p)
    (pm : xs.Perm a₀) (so : SortedToK (tupKindC h kSh) xs a₀.size) :
    ∃ ys : List Str, Vals (ys.map V.str) (xs.map (·.2)).toList ∧ ys.Perm ws ∧ ys.Pairwise fun x y => ltS y x = false := by
  have pm2 : xs.toList.Perm (ks.zip vs) := by rw [← e0]; exact Array.perm_iff_toList_perm.mp pm
  have all : ∀ p ∈ xs.toList, PairOk h p := fun p hq => hp p (pm2.mem_iff.mp hq)
  refine ⟨(xs.toList.map (·.2)).map strOf, ?_, ?_, ?_⟩
  · rw [Array.toList_map]
    refine vals_strOf fun v hq => ?_
    obtain ⟨p, h1, rfl⟩ := List.mem_map.mp hq
    obtain ⟨w, u, e, _⟩ := all p h1
    exact ⟨w, u, e⟩
  · have h1 := (pm2.map (·.2)).map strOf
    rw [List.map_snd_zip (by omega), hv] at h1
    exact h1
  · rw [List.map_map, List.pairwise_map, List.pairwise_iff_getElem]
    intro i j hi hj hij
    have hsz : xs.size = a₀.size := pm.size_eq
    have q := so i j (Nat.le_of_lt hij) (by rw [← hsz]; simpa using hj)
    obtain ⟨w1, u1, e1, k1⟩ := all _ (List.getElem_mem hi)
    obtain ⟨w2, u2, e2, k2⟩ := all _ (List.getElem_mem hj)
    have g1 : KK (tupKindC h kSh) xs i = kwS w1 := by
      unfold KK
      have : xs[i]? = some xs.toList[i] := by simp
      rw [this]
      show (tupKeyC h kSh xs.toList[i].1).getD [] = _
      rw [k1]
      rfl
    have g2 : KK (tupKindC h kSh) xs j = kwS w2 := by
      unfold KK
      have : xs[j]? = some xs.toList[j] := by simp
      rw [this]
      show (tupKeyC h kSh xs.toList[j].1).getD [] = _
      rw [k2]
      rfl
    rw [g1, g2] at q
    show ltS (strOf xs.toList[j].2) (strOf xs.toList[i].2) = false
    rw [e1, e2]
    exact q
def exObj (D : Addr) (o : Obj) : HO := .ext fun h => h.get? D = some o
theorem exObj_ok {P : Program} {w : World} {H : Hp} {h : Heap} {D : Addr} {o : Obj} (e : h.get? D = some o) : ObjOk P w H h D (exObj D o) := ⟨e, ⟨o, e⟩, fun _ _ h1 k => k o h1⟩
theorem exObj_plain {D : Addr} {o : Obj} (hf : o.isFreed = false) (hd : ∀ vs, o.data ≠ .fields vs) {q : Str} : exObj D o ≠ LamX.CodeO D q := fun z => by
  unfold LamX.CodeO exObj at z
  injection z with z
  obtain ⟨h, e⟩ := heap_of D
  have q1 : (h.push o).get? D = some o := by
    rw [← e]
    exact Heap.get?_push_size _ hf
  obtain ⟨oc, vs, t, e1, e2, _⟩ := (congrFun z (h.push o)).mp q1
  rw [q1] at e1
  cases e1
  exact hd _ e2
theorem exObj_get (I : Inv X pins σ H s) {D : Addr} {o : Obj} (e : H D = some (exObj D o)) : s.heap.get? D = some o := (I.hok D _ e).1
theorem key_tail {A : Around} {E : Value → Shared → Prop} {P : PySem.Fin → Shared → Prop} (I : Inv X pins σ H s) {D kS : Addr} {ws : List Str} {vs : List Value} {ks : List Addr} {e1 : Nat} {st : SortSt} (hne : kS ≠ D)
    (hD : H D = some (exObj D (seqObj "list" #[] e1))) (hK : H kS = some (.lst (ks.map V.ref))) (hv : Vals (ws.map V.str) vs) (hk : KeysFor H ks ws) (hz : ws.length ≤ 100000)
    (pm : (arrOf st).Perm ((ks.map Value.ref).toArray.zip vs.toArray)) (so : SortedToK (tupKindC s.heap kSh) (arrOf st) ((ks.map Value.ref).toArray.zip vs.toArray).size) (hf : failedOf st = none)
    (q : ∀ (H' : Hp) (s' : Shared) (ys : List Str), Inv X pins σ H' s' → (∀ b, b ≠ D → b ≠ kS → H' b = H b) → H' D = some (.lst (ys.map V.str)) → ys.Perm ws → (ys.Pairwise fun x y => ltS y x = false) → P (.done (.ret .none)) s') :
    wpAny (model X.prog X.w) A (ksk_tail D false e1 (.ref kS) st) P E s := by
  have hl : ks.length = ws.length := hk.len
  have hlv : vs.length = ws.length := by rw [← hv.length, List.length_map]
  have hz2 : ws.length ≤ sizeLine := Evl.sz_of hz
  obtain ⟨_, its, n, r, hil, e⟩ := I.lstM hK
  have ei := vals_ref r
  subst ei
  have dD := exObj_get I hD
  have hsz : (arrOf st).size = ws.length := by
    rw [pm.size_eq, Array.size_zip, List.size_toArray, List.size_toArray, List.length_map, hl, hlv, Nat.min_self]
  obtain ⟨ys, y1, y2, y3⟩ := key_out (h := s.heap) (xs := arrOf st) (a₀ := (ks.map Value.ref).toArray.zip vs.toArray) (ws := ws) (vs := vs) (ks := ks.map Value.ref) (by rw [List.length_map]; omega) (ksk_zip _ _) (strOf_vals hv) (keys_pairs I hk hv) pm so
  have I1 := I.lset (its' := []) (f := fun _ => #[]) (ys := []) (t' := s.toks) hK e rfl .nil (Nat.zero_le _)
  have hD1 : upd H kS (.lst []) D = some (exObj D (seqObj "list" #[] e1)) := by rw [upd_ne (fun z => hne z.symm)]; exact hD
  have dD1 := exObj_get I1 hD1
  unfold ksk_tail
  try dsimp only
  refine wpAny_bind (listUpdate_at e rfl ?_ (by rw [List.size_toArray, List.length_map, hl]; exact hz2) (Nat.zero_le _))
  refine wpAny_bind (wpAny_letGo ?_)
  refine wpAny_bind (seqEpoch_at dD1 rfl ?_)
  have hyz : ((arrOf st).map (·.2)).size ≤ sizeLine := by rw [Array.size_map, hsz]; exact hz2
  refine wpAny_bind (listUpdate_at dD1 rfl ?_ (Nat.zero_le _) (Nat.le_succ_of_le (by simpa using hyz)))
  rw [hf]
  simp only [bne_self_eq_false, Bool.false_eq_true, if_false]
  have ql := PySem.IsL.update dD1 (fun _ => (arrOf st).map (·.2))
  have I2 : Inv X pins σ (upd (upd H kS (.lst [])) D (.lst (ys.map V.str))) { s with heap := (s.heap.update kS (Obj.mapSeq fun _ => #[])).update D (Obj.mapSeq fun _ => (arrOf st).map (·.2)) } := by
    refine I1.write (x := D) (e := D) (t' := s.toks) (by rw [hD1]; trivial) (.inl rfl) (fun b u hb hu => (Heap.get?_update_other _ _ (Ne.symm hb)).trans hu) ⟨_, ql⟩ ?_
    obtain ⟨n2, ql2⟩ : ∃ n2, ((s.heap.update kS (Obj.mapSeq fun _ => #[])).update D (Obj.mapSeq fun _ => (arrOf st).map (·.2))).get? D = some { cls := .type "list", data := .seq ((arrOf st).map (·.2)).toList.toArray n2 } := ⟨_, by
      rw [Array.toArray_toList]
      exact ql⟩
    exact ⟨by rw [List.length_map, y2.length_eq]; exact hz2, ((arrOf st).map (·.2)).toList, n2, y1, ql2⟩
  exact wpAny_pure (q _ _ ys I2 (fun b b1 b2 => by rw [upd_ne b1, upd_ne b2]) upd_same y2 y3)
theorem key_end {A : Around} {E : Value → Shared → Prop} {P : PySem.Fin → Shared → Prop} (I : Inv X pins σ H s) {D kS : Addr} {ws : List Str} {vs : List Value} {ks : List Addr} {e1 : Nat} (hne : kS ≠ D)
    (hD : H D = some (exObj D (seqObj "list" #[] e1))) (hK : H kS = some (.lst (ks.map V.ref))) (hv : Vals (ws.map V.str) vs) (hk : KeysFor H ks ws) (hz : ws.length ≤ 100000)
    (q : ∀ (H' : Hp) (s' : Shared) (ys : List Str), Inv X pins σ H' s' → (∀ b, b ≠ D → b ≠ kS → H' b = H b) → H' D = some (.lst (ys.map V.str)) → ys.Perm ws → (ys.Pairwise fun x y => ltS y x = false) → P (.done (.ret .none)) s') :
    wpAny (model X.prog X.w) A (ksk_end D false vs.toArray e1 (.ref kS) (ks.map Value.ref).toArray) P E s := by
  have hl : ks.length = ws.length := hk.len
  have hlv : vs.length = ws.length := by rw [← hv.length, List.length_map]
  have hzs : ((ks.map Value.ref).toArray.zip vs.toArray).size = ws.length := by
    rw [Array.size_zip, List.size_toArray, List.size_toArray, List.length_map, hl, hlv, Nat.min_self]
  unfold ksk_end
  try dsimp only
  simp only [Bool.false_eq_true, if_false]
  by_cases h2 : vs.toArray.size < 2
  · rw [if_pos h2, if_pos h2]
    refine wpAny_bind (wpAny_pure ?_)
    rw [StateT.run_pure]
    refine wpAny_bind (wpAny_pure ?_)
    try dsimp only
    refine key_tail (st := SortSt.mk' general' ((ks.map Value.ref).toArray.zip vs.toArray) #[] 7 none) I hne hD hK hv hk hz (Array.Perm.refl _) ?_ rfl q
    intro i j hij hj
    rw [hzs] at hj
    rw [List.size_toArray] at h2
    have : i = j := by omega
    subst this
    exact KeyOrd.kle_refl _
  · rw [if_neg h2, if_neg h2]
    rw [List.size_toArray] at h2
    obtain ⟨fs, ht, hfl⟩ := keys_tups I hk
    refine wpAny_bind (tup_kind (shape := kSh) (vs := ks.map Value.ref) (fs := fs) (by omega) ht ?_)
    refine wpAny_bind (wpAny_mono (wpS_sortRunsSt (κ := tupKindC s.heap kSh) (kd := tuples' true) (a₀ := (ks.map Value.ref).toArray.zip vs.toArray) (st := SortSt.mk' (tuples' true) ((ks.map Value.ref).toArray.zip vs.toArray) #[] 7 none)
      (Q := fun _ st' => (arrOf st').Perm ((ks.map Value.ref).toArray.zip vs.toArray) ∧ failedOf st' = none ∧ SortedToK (tupKindC s.heap kSh) (arrOf st') ((ks.map Value.ref).toArray.zip vs.toArray).size)
      (tupC_ltAt true (KeepsTups.refl _)) (fun p hp => ?_) ⟨Array.Perm.refl _, rfl, rfl⟩ rfl (Stable.refl _) (by rw [hzs]; omega) fun st' a1 a2 a3 a4 => ⟨a1, a2, a3⟩) ?_ fun _ _ e => e)
    · rw [ksk_zip] at hp
      obtain ⟨w, u, _, e⟩ := keys_pairs I hk hv p hp
      exact ⟨_, e⟩
    · rintro ⟨⟨⟩, st'⟩ s' ⟨rfl, hp, hf, hs⟩
      try dsimp only
      exact key_tail I hne hD hK hv hk hz hp hs hf q
end
section
variable {X : Cx} {pins : List (Addr × Obj)} {σ : L2.St}
def KeyTurn (X : Cx) (pins : List (Addr × Obj)) (σ : L2.St) (H0 : Hp) (A : Around) (f : Value) (w : Str) : Prop :=
  ∀ (u : Tok) (H' : Hp) (s' : Shared), Inv X pins σ H' s' → Kept H0 H' → wpAny (model X.prog X.w) A (call f [.str w u])
    (fun r s'' => ∃ H'' t, Inv X pins σ H'' s'' ∧ Kept H' H'' ∧ r = .ref t ∧ H'' t = some (.tup [.int (w.length : Int), .str w])) (fun _ _ => False) s'
theorem key_rest {A : Around} {E : Value → Shared → Prop} {P : PySem.Fin → Shared → Prop} {H0 H : Hp} {s : Shared} (I : Inv X pins σ H s) {D kS : Addr} {ws : List Str} {vs : List Value} {e1 : Nat} {f : Value} (hne : kS ≠ D)
    (h0 : Kept H0 H) (n0 : H0 D = none) (n1 : H0 kS = none) (hD : H D = some (exObj D (seqObj "list" #[] e1))) (hK : H kS = some (.lst [])) (hv : Vals (ws.map V.str) vs) (hz : ws.length ≤ 100000)
    (turn : ∀ w ∈ ws, KeyTurn X pins σ H0 A f w)
    (q : ∀ (H' : Hp) (s' : Shared) (ys : List Str), Inv X pins σ H' s' → Kept H0 H' → H' D = some (.lst (ys.map V.str)) → ys.Perm ws → (ys.Pairwise fun x y => ltS y x = false) → P (.done (.ret .none)) s') :
    wpAny (model X.prog X.w) A (ksk_rest D f false vs.toArray e1 (.ref kS)) P E s := by
  have hlv : vs.length = ws.length := by rw [← hv.length, List.length_map]
  have hz2 : ws.length ≤ sizeLine := Evl.sz_of hz
  unfold ksk_rest
  refine wpAny_bind (wpAny_rule ?_)
  first
    | rw [List.forIn_toArray]
    | (rw [← Array.forIn_toList]; simp only [List.toList_toArray])
    | rw [← Array.forIn_toList]
  refine wpAny_bind (ksk_fold (fun i s' => ∃ H' ks, Inv X pins σ H' s' ∧ Kept H0 H' ∧ H' D = some (exObj D (seqObj "list" #[] e1)) ∧ H' kS = some (.lst (ks.map V.ref)) ∧ KeysFor H' ks (ws.take i)) vs 0 s
    ⟨H, [], I, h0, hD, hK, by rw [List.take_zero]; exact .nil⟩ ?step ?done)
  case step =>
    rintro j x s' hx ⟨H', ks, I', h0', hD', hK', hk⟩
    simp only [Nat.zero_add] at hk ⊢
    have hj : j < vs.length := (List.getElem?_eq_some_iff.mp hx).1
    have hw : ws[j]? = some ws[j] := List.getElem?_eq_getElem (by omega)
    have hr : ∃ u, x = .str ws[j] u := by
      have hm : (ws.map V.str)[j]? = some (.str ws[j]) := by rw [List.getElem?_map, hw]; rfl
      obtain ⟨u, hu, r⟩ := hv.get hm
      rw [hx] at hu
      cases hu
      exact r
    obtain ⟨u, rfl⟩ := hr
    have hkl := hk.len
    rw [List.length_take] at hkl
    refine wpAny_bind (wpAny_attempt (wpAny_mono (turn _ (List.getElem_mem (by omega)) u H' s' I' h0') (fun v s'' he => ?_) fun _ _ hF => hF.elim))
    obtain ⟨H2, t, I2, k2, rfl, ht⟩ := he
    try dsimp only
    have hK2 := k2.kp _ _ hK' (plain_lst (a := kS)).1
    have hD2 := k2.kp _ _ hD' (fun _ z => by unfold exObj at z; cases z)
    obtain ⟨_, its, n, r, hil, e⟩ := I2.lstM hK2
    have ei := vals_ref r
    subst ei
    have I3 := I2.lset (its' := (ks ++ [t]).map Value.ref) (f := (·.push (.ref t))) (ys := (ks ++ [t]).map V.ref) (t' := s''.toks) hK2 e (by simp) ?_ ?_
    · refine wpAny_bind (listUpdate_at e rfl ?_ (by rw [List.size_toArray, List.length_map]; omega) (by rw [Array.size_push, List.size_toArray, List.length_map]; omega))
      have tn : t ≠ kS := fun z => by
        rw [z, hK2] at ht
        cases ht
      have up : ∀ b o, b ≠ kS → H2 b = some o → upd H2 kS (.lst ((ks ++ [t]).map V.ref)) b = some o := fun b o nb e => by rw [upd_ne nb]; exact e
      refine wpAny_pure ⟨rfl, upd H2 kS (.lst ((ks ++ [t]).map V.ref)), ks ++ [t], I3, (h0'.trans k2).off (fun b hb => upd_ne (fun z => by
        rw [z] at hb
        rcases hb with hb | ⟨q, hb⟩
        · exact hb n1
        · rw [hK2] at hb
          exact plain_lst.2 q (Option.some.inj hb))), up _ _ (fun z => hne z.symm) hD2, upd_same, ?_⟩
      have e4 : ws.take (j + 1) = ws.take j ++ [ws[j]] := by rw [List.take_add_one, hw]; rfl
      rw [e4]
      refine KeysFor.snoc (up _ _ tn ht) ((hk.mono fun t u e => k2.kp _ _ e (fun _ z => by cases z)).mono fun t u e => up _ _ (fun z => by rw [z, hK2] at e; cases e) e)
    · have v1 : ∀ l : List Addr, Vals (l.map V.ref) (l.map Value.ref) := fun l => by
        induction l with
        | nil => exact .nil
        | cons a r ih => exact .cons rfl ih
      exact v1 _
    · rw [List.length_map, List.length_append, List.length_singleton]
      omega
  case done =>
    rintro s' ⟨H', ks, I', h0', hD', hK', hk⟩
    have e3 : ws.take (0 + vs.length) = ws := List.take_of_length_le (by omega)
    rw [e3] at hk
    obtain ⟨_, its, n, r, hil, e⟩ := I'.lstM hK'
    have ei := vals_ref r
    subst ei
    try dsimp only
    refine wpAny_bind (listItems_at e rfl ?_)
    exact key_end I' hne hD' hK' hv hk hz fun H2 s2 ys I2 k2 d2 y2 y3 => q H2 s2 ys I2 (h0'.off fun b hb => k2 b (fun z => by
      rw [z] at hb
      rcases hb with hb | ⟨q, hb⟩
      · exact hb n0
      · rw [hD'] at hb
        exact exObj_plain rfl (fun vs z => by cases z) (Option.some.inj hb)) (fun z => by
      rw [z] at hb
      rcases hb with hb | ⟨q, hb⟩
      · exact hb n1
      · rw [hK'] at hb
        exact plain_lst.2 q (Option.some.inj hb))) d2 y2 y3
theorem key_sort {A : Around} {E : Value → Shared → Prop} {P : PySem.Fin → Shared → Prop} {H0 H : Hp} {s : Shared} (I : Inv X pins σ H s) {D : Addr} {ws : List Str} {f : Value}
    (h0 : Kept H0 H) (n0 : H0 D = none) (hD : H D = some (.lst (ws.map V.str))) (hz : ws.length ≤ 100000)
    (turn : ∀ w ∈ ws, KeyTurn X pins σ H0 A f w)
    (q : ∀ (H' : Hp) (s' : Shared) (ys : List Str), Inv X pins σ H' s' → Kept H0 H' → H' D = some (.lst (ys.map V.str)) → ys.Perm ws → (ys.Pairwise fun x y => ltS y x = false) → P (.done (.ret .none)) s') :
    wpAny (model X.prog X.w) A (ksk_tree D f false) P E s := by
  have hz2 : ws.length ≤ sizeLine := Evl.sz_of hz
  obtain ⟨_, vs, n, hv, hil, e⟩ := I.lstM hD
  rw [List.length_map] at hil
  unfold ksk_tree
  refine wpAny_bind (listItems_at e rfl ?_)
  refine wpAny_bind (listUpdate_at e rfl ?_ (by rw [List.size_toArray]; omega) (Nat.zero_le _))
  have ql := PySem.IsL.update e (fun _ => #[])
  obtain ⟨e1, ql2⟩ : ∃ e1, (s.heap.update D (Obj.mapSeq fun _ => #[])).get? D = some (seqObj "list" #[] e1) := ⟨_, ql⟩
  have I2 : Inv X pins σ (upd H D (exObj D (seqObj "list" #[] e1))) { s with heap := s.heap.update D (Obj.mapSeq fun _ => #[]) } :=
    I.write (x := D) (e := D) (t' := s.toks) (by rw [hD]; trivial) (.inl rfl) (fun b u hb hu => (Heap.get?_update_other _ _ (Ne.symm hb)).trans hu) ⟨_, ql2⟩ (exObj_ok ql2)
  refine wpAny_bind (seqEpoch_at ql2 rfl ?_)
  refine wpAny_bind (wpAny_newTuple ?_ (by show vs.length ≤ _; omega))
  have I3 : Inv X pins σ (upd H D (exObj D (seqObj "list" #[] e1))) { s with heap := (s.heap.update D (Obj.mapSeq fun _ => #[])).push (seqObj "tuple" vs.toArray 0) } := I2.kept (t' := s.toks) fun b u hu => Heap.get?_push_of_some _ hu
  refine wpAny_bind (wpAny_newList ?_ (Nat.zero_le _))
  have I4 := I3.laid (a := ((s.heap.update D (Obj.mapSeq fun _ => #[])).push (seqObj "tuple" vs.toArray 0)).objs.size) (o := .lst []) (t' := s.toks) (h' := ((s.heap.update D (Obj.mapSeq fun _ => #[])).push (seqObj "tuple" vs.toArray 0)).push { cls := .type "list", data := .seq ([] : List Value).toArray })
    (fun b u hu => Heap.get?_push_of_some _ hu) (Nat.le_refl _) ⟨Nat.zero_le _, [], 0, .nil, Heap.get?_push_size _ rfl⟩
  have nk : upd H D (exObj D (seqObj "list" #[] e1)) ((s.heap.update D (Obj.mapSeq fun _ => #[])).push (seqObj "tuple" vs.toArray 0)).objs.size = none := I3.hok.fresh (Nat.le_refl _)
  have nD : ((s.heap.update D (Obj.mapSeq fun _ => #[])).push (seqObj "tuple" vs.toArray 0)).objs.size ≠ D := fun z => by
    rw [z, upd_same] at nk
    cases nk
  refine wpAny_holding ?_
  refine key_rest (H0 := H0) I4 nD (h0.off fun b hb => ?_) n0 ?_ ?_ upd_same hv hz turn fun H' s' ys J k1 d1 y2 y3 => q H' s' ys J k1 d1 y2 y3
  · have b1 : b ≠ D := fun z => by
      rw [z] at hb
      rcases hb with hb | ⟨q, hb⟩
      · exact hb n0
      · rw [hD] at hb
        exact plain_lst.2 q (Option.some.inj hb)
    have b2 : b ≠ ((s.heap.update D (Obj.mapSeq fun _ => #[])).push (seqObj "tuple" vs.toArray 0)).objs.size := fun z => by
      rw [← z, upd_ne b1] at nk
      rcases hb with hb | ⟨q, hb⟩
      · exact h0.dm b hb nk
      · rw [nk] at hb
        cases hb
    rw [upd_ne b2, upd_ne b1]
  · rw [upd_ne nD] at nk
    cases h : H0 ((s.heap.update D (Obj.mapSeq fun _ => #[])).push (seqObj "tuple" vs.toArray 0)).objs.size with
    | none => rfl
    | some o => exact absurd nk (h0.dm _ (by rw [h]; exact fun z => nomatch z))
  · rw [upd_ne (fun z => nD z.symm)]
    exact upd_same
def Collects (X : Cx) (s : Shared) (l : Addr) (ws : List Str) : Prop := ∀ (E : Value → Shared → Prop) (Q : List Value → Shared → Prop), (∀ vs h' tk, Vals (ws.map V.str) vs → (∀ b u, s.heap.get? b = some u → h'.get? b = some u) → Q vs { s with heap := h', toks := tk }) →
  wpAny (model X.prog X.w) X.A.in1 (collect (.ref l)) Q E s
theorem call_sorted_key {E : Value → Shared → Prop} {Q : Value → Shared → Prop} {H : Hp} {s : Shared} (I : Inv X pins σ H s) {l f : Addr} {ws : List Str} (hc : Collects X s l ws) (hz : ws.length ≤ 100000)
    (turn : ∀ w ∈ ws, KeyTurn X pins σ H X.A.in1.in1 (.ref f) w)
    (q : ∀ (D : Addr) (H' : Hp) (s' : Shared) (ys : List Str), Inv X pins σ H' s' → Kept H H' → H D = none → H' D = some (.lst (ys.map V.str)) → ys.Perm ws → (ys.Pairwise fun x y => ltS y x = false) → Q (.ref D) s') :
    wpAny (model X.prog X.w) X.A (call (.builtin "sorted") [.ref l] [(Str.ofString "key", .ref f)]) Q E s := by
  have hz2 : ws.length ≤ sizeLine := Evl.sz_of hz
  refine call_function_entry_kw kind_sorted plain_sorted entry_sorted (ksk_s1 _ _) ?_
  unfold Builtin.«sorted»
  refine wpAny_bind (m := checkCount "sorted" 1 1 _) (wpAny_pure ?_)
  refine wpAny_bind (hc _ _ fun vs h' tk hv k => ?_)
  have hlv : vs.length = ws.length := by rw [← hv.length, List.length_map]
  have I0 : Inv X pins σ H { s with heap := h', toks := tk } := I.kept (t' := tk) k
  refine wpAny_bind (wpAny_newList ?_ (by omega))
  have I1 := I0.laid (a := h'.objs.size) (o := .lst (ws.map V.str)) (t' := tk) (h' := h'.push { cls := .type "list", data := .seq vs.toArray }) (fun b u hu => Heap.get?_push_of_some _ hu) (Nat.le_refl _)
    ⟨by rw [List.length_map]; exact hz2, vs, 0, hv, Heap.get?_push_size _ rfl⟩
  have n0 : H h'.objs.size = none := I0.hok.fresh (Nat.le_refl _)
  refine wpAny_bind (wpAny_holding (wpAny_call_entry_kw slot_list_sort ⟨_, Heap.get?_push_size _ rfl, rfl⟩ entry_list_sort ?body (ksk_l1 _ _)))
  case body =>
    show wpAny (model X.prog X.w) X.A.in1.in1 (Builtin.«list.sort» ⟨[.ref h'.objs.size], [(Str.ofString "key", .ref f)]⟩) _ _ _
    rw [ksk_t1]
    refine key_sort (H0 := H) I1 (Kept.of fun b o e => ?_) n0 upd_same hz turn fun H' s' ys J k1 d1 y2 y3 => ⟨_, rfl, ?_⟩
    · rw [upd_ne (fun z => by rw [z, n0] at e; cases e)]
      exact e
    · exact wpAny_pure ⟨_, rfl, q _ H' s' ys J k1 n0 d1 y2 y3⟩
end
end Dx

namespace Dx
open PySem PySem.Spec PyProof.Rows PyProof.Rows.G L2
open Evl (Ex)
variable [Tb]
/-- a key: its length, itself -/
def S_order : FS := fun xs mu Q => ∃ w, xs = [.dat (.str w)] ∧ mu = [] ∧ w.length ≤ 100000 ∧ Q (.dv (.dat (.tup [.int ((w.length : Nat) : Int), .str w]))) []
section
variable {X : Cx} {pins : List (Addr × Obj)} {σ : L2.St}
theorem key_turn {k : Nat} {f : Addr} {fd : FuncData} {ps : List Str} (g : FnOk X.prog X.w X.K X.mg X.base CX0 k f fd ps (spOf S_order)) (b : Binds X.K fd ps []) (hr : Room (k + 2) X.A) (H0 : Hp) (t0 : LamX.Tabs Tb.tabs H0) (w : List Nat) (hw : w.length ≤ 100000) :
    KeyTurn X pins σ H0 X.A.in1.in1 (.ref f) (mkS w) := fun u H' s' I k0 => by
  have fr := g.raw b (dvs := []) .nil
  have e1 := I.env0.in1.in1
  have hs : spOf S_order ([V.str (mkS w)] ++ []) H' (fun r H'' => Kept H' H'' ∧ ∃ t, r = .ref t ∧ H'' t = some (.tup [.int ((mkS w).length : Int), .str (mkS w)])) E0 := by
    refine ⟨noT H', [], [.dat (.str w)], [], fun rv _ => rv = .dv (.dat (.tup [.int ((w.length : Nat) : Int), .str w])), Cels.empt noT_ex noT_nt (k0.tb t0), .cons (show Rep (noT H') (.str w) _ by rw [Rep]; rfl) .nil, ⟨w, rfl, rfl, hw, rfl⟩, fun F' mu' rv v H2 E C r _ q => ?_⟩
    subst q
    refine ⟨⟨fun b o e n => E.kp b o (by simp) e n, E.dm, fun _ => C.tb⟩, ?_⟩
    obtain ⟨t, vs, ev, ht, rl⟩ := rv_tup_out (al := []) r
    obtain ⟨v1, r1, e1, a1, a2⟩ := rl.uncons
    subst e1
    obtain ⟨v2, r2, e2, b1, b2⟩ := a2.uncons
    subst e2
    have c := b2.unnil
    subst c
    have a1 := rv_int_out (F := F') (al := []) a1
    have b1 := rv_str_out (F := F') (al := []) b1
    subst a1
    subst b1
    refine ⟨t, ev, ?_⟩
    rw [C.ex _ _ ht, mkS_len]
  refine wpAny_call (codeAny_mono (fr X.A.in1.in1 X.stack s' H' [.str (mkS w) u] [.str (mkS w)] _ E0 hr.in1.in1 e1 (.cons ⟨u, rfl⟩ .nil) hs) fun rr s2 hrr => ?_)
  cases rr with
  | error e => exact False.elim hrr
  | ok fl =>
    cases fl with
    | next => exact False.elim hrr
    | brk => exact False.elim hrr
    | cont => exact False.elim hrr
    | ret v =>
      obtain ⟨v', H2, os, bare, un, hok, rv', kp, t, ev, ht⟩ := (show L2.CE X.stack X.prog X.w H' s' _ v s2 from hrr)
      subst ev
      have ev : v = .ref t := rv'
      subst ev
      exact ⟨H2, t, I.call' os un hok bare (fun b y => absurd y List.not_mem_nil), kp, rfl, ht⟩
end
end Dx
namespace Dx
open PySem PySem.Spec PyProof.Rows PyProof.Rows.G L2
open Evl (Ex)
variable [Tb]
section
variable {X : Cx} {pins : List (Addr × Obj)} {σ : L2.St} {H : Hp} {s : Shared}
theorem coll_list (I : Inv X pins σ H s) {l : Addr} {ws : List Str} (hl : SqL X.K H l (ws.map V.str)) : Collects X s l ws := fun E Q q => by
  obtain ⟨its, r, pl, hz⟩ := I.list hl
  refine collect_list pl.isList (q its _ s.toks r fun b o e => ?_) (by rw [← r.length]; exact hz)
  have hlt : b < s.heap.objs.size := Heap.lt_size e
  rw [Heap.get?_update_ne _ _ _ _ (Nat.ne_of_lt hlt), Heap.get?_push_ne _ _ _ (Nat.ne_of_lt hlt)]
  exact e
theorem coll_dict (hc : X.calm = true) (I : Inv X pins σ H s) {a : Addr} {kvs : List (Key × V)} {ws : List Str} (hd : Rd H a (.dK kvs)) (hks : kvs.map (·.1) = ws.map Sum.inr) (hz : ws.length ≤ 100000) : Collects X s a ws := fun E Q q => by
  obtain ⟨z, lo, vs, rel, dd⟩ := dk_rd I.hok hd
  obtain ⟨ep, hat⟩ := dd.dictAt
  have hkeys : vs.map (·.1) = ws.map Sum.inr := rel.keys.symm.trans hks
  have hl : vs.length = ws.length := by
    have e := congrArg List.length hkeys
    rw [List.length_map, List.length_map] at e
    exact e
  have h16 : vs.length ≤ sizeLine := by rw [hl]; exact Evl.sz_of hz
  refine PySem.W.kdu_collect (A := X.A.in1) (PySem.W.kdl_dict (knd := mixKind X.prog X.w) (kvs := vs) (ep := ep) lo) (I.ok.hd hc) hat h16 fun h' tk acc hk hacc => ?_
  have hal : acc.toList.length = ws.length := by rw [Array.length_toList, hacc.1, hl]
  have hS : StrsAre acc.toList ws := strs_at hal fun j v e => by
    obtain ⟨k, x, e1, e2⟩ := hacc.2 j v (by rw [← Array.getElem?_toList]; exact e)
    have e3 : (vs.map (·.1))[j]? = some k := by rw [List.getElem?_map, e1]; all_goals rfl
    rw [hkeys, List.getElem?_map] at e3
    cases e4 : ws[j]? with
    | none => rw [e4] at e3; cases e3
    | some y =>
      rw [e4] at e3
      have e5 : Sum.inr y = k := Option.some.inj e3
      subst e5
      obtain ⟨t, ev⟩ := Value.isStrOf_shape (x := y) (v := v) e2
      exact ⟨y, t, rfl, ev⟩
  exact q _ _ _ (vals_of_strs hS) hk
end
/-- shorter ones first, then as texts -/
def ltW (a b : List Nat) : Bool := decide (a.length < b.length) || (decide (a.length = b.length) && decide (a < b))
theorem ltS_mk (a b : List Nat) : ltS (mkS a) (mkS b) = ltW a b := by
  unfold ltS kwS ltW
  rw [mkS_len, mkS_len]
  have e : PyProof.Rows.lexLt itemOrd [.inl ((a.length : Nat) : Int), .inr a] [.inl ((b.length : Nat) : Int), .inr b] = (decide (((a.length : Nat) : Int) < ((b.length : Nat) : Int)) || (!decide (((b.length : Nat) : Int) < ((a.length : Nat) : Int)) && (decide (a < b) || (!decide (b < a) && false)))) := rfl
  show PyProof.Rows.lexLt itemOrd [.inl ((a.length : Nat) : Int), .inr a] [.inl ((b.length : Nat) : Int), .inr b] = _
  rw [e, Bool.and_false, Bool.or_false]
  by_cases h1 : a.length < b.length
  · rw [decide_eq_true h1, decide_eq_true (show ((a.length : Nat) : Int) < ((b.length : Nat) : Int) by omega)]
    rfl
  · rw [decide_eq_false h1, decide_eq_false (show ¬ ((a.length : Nat) : Int) < ((b.length : Nat) : Int) by omega), Bool.false_or, Bool.false_or]
    by_cases h2 : a.length = b.length
    · rw [decide_eq_true h2, decide_eq_false (show ¬ ((b.length : Nat) : Int) < ((a.length : Nat) : Int) by omega)]
      rfl
    · rw [decide_eq_false h2, decide_eq_true (show ((b.length : Nat) : Int) < ((a.length : Nat) : Int) by omega)]
      rfl
theorem unmk (ys : List Str) : ys = (ys.map fun y => y.cps.toList).map mkS := by
  rw [List.map_map]
  induction ys with
  | nil => rfl
  | cons y r ih => rw [List.map_cons, ← ih]; rfl
theorem Cels.up {F H H' : Hp} {al : List Addr} {mu : Mu} (C : Cels F al mu H) (k : Kept H H') : Cels F al mu H' := by
  refine ⟨fun a o e => k.kp a o (C.ex a o e) fun ps z => C.nt a ps (by rw [e, z]), C.nt, k.tb C.tb, C.len, C.nd, fun i a m h1 h2 => ?_⟩
  have ok := C.cel i a m h1 h2
  exact ok.keep (Ex.refl F) id (fun o h n => k.kp a o h n) (k.dm a)
theorem Ext.up {F H H' : Hp} {al : List Addr} {mu : Mu} (C : Cels F al mu H) (k : Kept H H') : Ext F al H F al H' :=
  ⟨Ex.refl F, List.prefix_refl _, fun _ h => .inl h, fun _ h => .inl h, fun a o _ h n => k.kp a o h n, k.dm⟩
theorem repl_strs {F : Hp} : ∀ ys : List (List Nat), RepL F (ys.map D.str) ((ys.map mkS).map V.str)
  | [] => .nil
  | y :: r => .cons (by rw [Rep]; rfl) (repl_strs r)
def keysS : List Key → Option (List (List Nat))
  | [] => some []
  | .inr x :: r => (keysS r).map (x.cps.toList :: ·)
  | .inl _ :: _ => none
theorem keysS_of : ∀ {ks : List Key} {ws : List (List Nat)}, keysS ks = some ws → ks = (ws.map mkS).map Sum.inr
  | [], ws, h => by cases h; rfl
  | .inr x :: r, ws, h => by
    unfold keysS at h
    cases e : keysS r with
    | none => rw [e] at h; cases h
    | some us =>
      rw [e] at h
      have h := Option.some.inj h
      subst h
      rw [List.map_cons, List.map_cons, ← keysS_of e]
      rfl
  | .inl _ :: _, ws, h => by cases h
/-- the texts of a list, the keys of a dict -/
def wordsOf (mu : Mu) : DV → Option (List (List Nat))
  | .dat (.lst ds) => toSs ds
  | .dat (.dk ks _) => keysS ks
  | .cel k => match mu[k]? with
    | some (.lst ds) => toSs ds
    | some (.dk ks _) => keysS ks
    | _ => none
  | _ => none
def fSortKey (te : DE) : DF := fun rho mu Q => te rho mu fun x mu1 => onSome (wordsOf mu1 x) fun ws => ws.length ≤ 100000 ∧ (∀ w ∈ ws, w.length ≤ 100000) ∧ ∀ ys : List (List Nat), ys.Perm ws → (ys.Pairwise fun a b => ltW b a = false) → Q (.lst (ys.map D.str)) mu1
section
variable {X : Cx} {e : Expr} {te : DE} {x : Str} {ps : List Str} {k : Nat} {pos p p2 p3 : Pos}
theorem cf_sortKey (hc : X.calm = true) (G : Cal X.prog X.w X.K X.mg X.base k x ps S_order) (hr : Room (k + 2) X.A) (hm : X.mg "sorted" = none) (he : CE X e te) (hg : Gl X "sorted" := by rfl) (hgx : Gl X x := by rfl) (hd : (x == ("__debug__" : Str)) = false := by decide) (hs : starEach [e] X.env = (false, eval e X.env) :: starEach [] X.env := by rfl)
    (h1 : backTo pos (starEach [e] X.env) = (false, eval e X.env) :: backTo pos (starEach [] X.env) := by rfl) (h2 : (backTo pos (starEach [e] X.env)).any (·.1) = false := by rfl)
    (h3 : (backToKw pos (keywordEach [⟨some "key", .Name x p2, p3⟩] X.env)).all (·.1.isSome) = true := by rfl) (h4 : (backToKw pos (keywordEach [⟨some "key", .Name x p2, p3⟩] X.env)).any (·.1.isNone) = false := by rfl) (h5 : (backToKw pos (keywordEach [⟨some "key", .Name x p2, p3⟩] X.env)).filterMap (·.1) = [Str.ofString "key"] := by rfl) :
    CF X (.Call (.Name "sorted" p) [e] [⟨some "key", .Name x p2, p3⟩] pos) (fSortKey te) := by
  obtain ⟨f, fd, g, m, kp, b⟩ := G.ok
  obtain ⟨t, pe, ge⟩ := he.ok
  refine ⟨_, pe_callBK (ks := [Str.ofString "key"]) (r := fun vs zs H Q => ∃ a ws, vs = [V.ref a] ∧ zs = [V.ref f] ∧ LamX.Tabs Tb.tabs H ∧ (∀ pins s σ, Inv X pins σ H s → Collects X s a (ws.map mkS)) ∧ ws.length ≤ 100000 ∧ (∀ w ∈ ws, w.length ≤ 100000) ∧
      ∀ (D : Addr) (H' : Hp) (ys : List (List Nat)), Kept H H' → H D = none → H' D = some (.lst ((ys.map mkS).map V.str)) → ys.Perm ws → (ys.Pairwise fun a b => ltW b a = false) → Q (.ref D) H')
    (fun pins s σ H xs zs us ws' Q I r1 r2 h => ?_) hg hm (by rfl) (pa_cons pe pa_nil hs) (pk_cons (pe_glob (v := .ref f) hgx m rfl hd) pk_nil) (by decide) (by decide) h1 h2 h3 h4 h5, fun F al rho mu σ H Q R S q l => ?_⟩
  · obtain ⟨a, ws, rfl, rfl, ht, hcol, hz, hw, q⟩ := h
    have e1 := Vals.ref1 r1
    have e2 := Vals.ref1 r2
    subst e1
    subst e2
    refine call_sorted_key I (ws := ws.map mkS) (hcol _ _ _ I) (by rw [List.length_map]; exact hz) (fun w hm => ?_) fun D H' s' ys J k1 n0 d1 y2 y3 => ?_
    · obtain ⟨w', h', rfl⟩ := List.mem_map.mp hm
      exact key_turn g b hr H ht w' (hw w' h')
    · have ey := unmk ys
      generalize (ys.map fun y => y.cps.toList) = zs at ey
      subst ey
      refine ⟨.ref D, H', J, rfl, q D H' zs k1 n0 d1 ?_ ?_⟩
      · have := y2.map (fun y : Str => y.cps.toList)
        rw [List.map_map, List.map_map] at this
        have id1 : ((fun y : Str => y.cps.toList) ∘ mkS) = id := rfl
        rw [id1, List.map_id, List.map_id] at this
        exact this
      · rw [List.pairwise_map] at y3
        exact y3.imp fun {a b} h => by rw [← ltS_mk]; exact h
  · refine ge F al rho mu σ H _ _ S q fun F1 al1 y mu1 v H1 E1 C1 r1 q1 => ?_
    obtain ⟨ws, hw, hz, hlw, q2⟩ := onSome_out q1
    have fin : ∀ a, v = .ref a → (∀ pins s σ, Inv X pins σ H1 s → Collects X s a (ws.map mkS)) → ∃ a ws, [v] = [V.ref a] ∧ [V.ref f] = [V.ref f] ∧ LamX.Tabs Tb.tabs H1 ∧ (∀ pins s σ, Inv X pins σ H1 s → Collects X s a (ws.map mkS)) ∧ ws.length ≤ 100000 ∧ (∀ w ∈ ws, w.length ≤ 100000) ∧
      ∀ (p : Addr) (H' : Hp) (ys : List (List Nat)), Kept H1 H' → H1 p = none → H' p = some (.lst ((ys.map mkS).map V.str)) → ys.Perm ws → (ys.Pairwise fun a b => ltW b a = false) → R (.ref p) H' := fun a ev hc => by
      refine ⟨a, ws, by rw [ev], rfl, C1.tb, hc, hz, hlw, fun p H' ys k1 n0 d1 y1 y2 => ?_⟩
      have nF : F1 p = none := by
        cases z : F1 p with
        | none => rfl
        | some o =>
          have := C1.ex _ _ z
          rw [n0] at this
          cases this
      refine l F1 al1 (.lst (ys.map D.str)) mu1 p H' (E1.trans (Ext.up C1 k1)) (C1.up k1) (C1.not_al n0) ?_ rfl ⟨nF, _, d1, repl_strs ys⟩ (q2 ys y1 y2)
      exact none_back (E1.dm p) n0
    have lst : ∀ ds, seqL mu1 y = some ds → toSs ds = some ws → ∃ a, v = .ref a ∧ ∀ pins s σ, Inv X pins σ H1 s → Collects X s a (ws.map mkS) := fun ds h1 h2 => by
      obtain ⟨a, vs, ev, hp, rl⟩ := seqL_out C1 r1 h1
      have e := toSs_map h2
      subst e
      have e := rl.strs
      subst e
      exact ⟨a, ev, fun pins s σ I => coll_list I (.inl (.inl hp))⟩
    have dic : ∀ a ks vs, H1 a = some (.dK (ks.zip vs)) → ks.length = vs.length → keysS ks = some ws → ∀ pins s σ, Inv X pins σ H1 s → Collects X s a (ws.map mkS) := fun a ks vs h1 hl h2 pins s σ I => by
      refine coll_dict hc I (.inl h1) ?_ (by rw [List.length_map]; exact hz)
      rw [List.map_fst_zip (by omega)]
      exact keysS_of h2
    cases y with
    | dat d =>
      cases d with
      | lst ds =>
        obtain ⟨a, ev, hcol⟩ := lst ds rfl hw
        exact fin a ev hcol
      | dk ks ds =>
        have r2 : Rep F1 (.dk ks ds) v := r1
        rw [Rep] at r2
        obtain ⟨a, vs, ev, hF, hl, rl⟩ := r2
        exact fin a ev (dic a ks vs (C1.ex _ _ hF) (by rw [hl, rl.len]) hw)
      | _ => cases hw
    | cel j =>
      have hw : (match mu1[j]? with
        | some (.lst ds) => toSs ds
        | some (.dk ks _) => keysS ks
        | _ => none) = some ws := hw
      cases hj : mu1[j]? with
      | none => rw [hj] at hw; cases hw
      | some mc =>
        rw [hj] at hw
        cases mc with
        | lst ds =>
          obtain ⟨a, ev, hcol⟩ := lst ds (by unfold seqL; simp only [hj]) hw
          exact fin a ev hcol
        | dk ks ds =>
          obtain ⟨a, ha, ev⟩ := r1
          obtain ⟨_, vs, hH, hl, rl⟩ := C1.cel j a _ ha hj
          exact fin a ev (dic a ks vs hH (by rw [hl, rl.len]) hw)
        | _ => cases hw
end
end Dx

namespace Dx
open PySem PySem.Spec PyProof.Rows L2
open Evl (Ex)
variable [Tb]

/-! ### dicts whose keys are ints and texts -/
def keyD : D → Option Key
  | .str w => some (.inr (mkS w))
  | .int i => some (.inl i)
  | _ => none
theorem keyD_V {F : Hp} {d : D} {v : V} {k : Key} (r : Rep F d v) (h : keyD d = some k) : v = kV k := by
  cases d with
  | str w =>
    have e := rv_str_out (F := F) (al := []) r
    have h := Option.some.inj h
    subst h
    exact e
  | int i =>
    have e := rv_int_out (F := F) (al := []) r
    have h := Option.some.inj h
    subst h
    exact e
  | _ => cases h
def dval {α : Type} : List Key → List α → Key → Option α
  | k' :: ks, d :: ds, k => if k' = k then some d else dval ks ds k
  | _, _, _ => none
def hasK (ks : List Key) (k : Key) : Bool := ks.any fun k' => decide (k' = k)
def kput (ks : List Key) (k : Key) : List Key := if hasK ks k = true then ks else ks ++ [k]
def vput {α : Type} (ks : List Key) (ds : List α) (k : Key) (d : α) : List α := if hasK ks k = true then List.zipWith (fun k' x => if k' = k then d else x) ks ds else ds ++ [d]
theorem valV_zip : ∀ (ks : List Key) (vs : List V) (k : Key), valV (ks.zip vs) k = dval ks vs k
  | [], vs, k => by cases vs <;> rfl
  | k' :: ks, [], k => rfl
  | k' :: ks, v :: vs, k => by
    rw [List.zip_cons_cons]
    unfold dval
    by_cases e : k' = k
    · rw [if_pos e, valV_pos e]
    · rw [if_neg e, valV_neg e, valV_zip ks vs k]
theorem dval_rep {F : Hp} : ∀ {ks : List Key} {ds : List D} {vs : List V} {k : Key}, RepL F ds vs → (∀ d, dval ks ds k = some d → ∃ v, dval ks vs k = some v ∧ Rep F d v) ∧ (dval ks ds k = none → dval ks vs k = none)
  | [], ds, vs, k, r => by
    refine ⟨fun d h => ?_, fun _ => ?_⟩
    · cases ds <;> cases h
    · cases vs <;> rfl
  | k' :: ks, [], vs, k, r => by
    rw [r.unnil]
    refine ⟨fun d h => ?_, fun _ => rfl⟩
    cases h
  | k' :: ks, d :: ds, vs, k, r => by
    obtain ⟨v, us, e, a, b⟩ := r.uncons
    subst e
    unfold dval
    by_cases e : k' = k
    · rw [if_pos e, if_pos e]
      exact ⟨fun d' h => ⟨v, rfl, Option.some.inj h ▸ a⟩, fun h => nomatch h⟩
    · rw [if_neg e, if_neg e]
      exact dval_rep b
theorem any_zip : ∀ (ks : List Key) (vs : List V) (k : Key), ks.length = vs.length → ((ks.zip vs).any fun kv => decide (kv.1 = k)) = hasK ks k
  | [], vs, k, _ => by simp [hasK]
  | k' :: ks, [], k, h => by simp at h
  | k' :: ks, v :: vs, k, h => by
    have ih := any_zip ks vs k (by simpa using h)
    unfold hasK at ih ⊢
    rw [List.zip_cons_cons, List.any_cons, ih, List.any_cons]
theorem map_zip : ∀ (ks : List Key) (vs : List V) (k : Key) (v : V), ((ks.zip vs).map fun kv => if kv.1 = k then (kv.1, v) else kv) = ks.zip (List.zipWith (fun k' x => if k' = k then v else x) ks vs)
  | [], vs, k, v => by simp
  | k' :: ks, [], k, v => rfl
  | k' :: ks, u :: vs, k, v => by
    rw [List.zip_cons_cons, List.map_cons, map_zip ks vs k v, List.zipWith_cons_cons, List.zip_cons_cons]
    by_cases e : k' = k
    · rw [if_pos e, if_pos e]
    · rw [if_neg e, if_neg e]
theorem putK_zip {ks : List Key} {vs : List V} (k : Key) (v : V) (hl : ks.length = vs.length) : putK (ks.zip vs) k v = (kput ks k).zip (vput ks vs k v) := by
  unfold putK kput vput
  rw [any_zip ks vs k hl]
  by_cases h : hasK ks k = true
  · rw [if_pos h, if_pos h, if_pos h, map_zip]
  · rw [if_neg h, if_neg h, if_neg h, List.zip_append hl]
    rfl
theorem put_len {α : Type} {ks : List Key} {ds : List α} (k : Key) (d : α) (hl : ks.length = ds.length) : (kput ks k).length = (vput ks ds k d).length := by
  unfold kput vput
  by_cases h : hasK ks k = true
  · rw [if_pos h, if_pos h, List.length_zipWith, ← hl, Nat.min_self]
  · rw [if_neg h, if_neg h, List.length_append, List.length_append, hl]
    rfl
theorem zipW_rep {F : Hp} {d : D} {v : V} {k : Key} (rd : Rep F d v) : ∀ {ks : List Key} {ds : List D} {vs : List V}, RepL F ds vs → RepL F (List.zipWith (fun k' x => if k' = k then d else x) ks ds) (List.zipWith (fun k' x => if k' = k then v else x) ks vs)
  | [], ds, vs, r => by
    show RepL F [] []
    exact .nil
  | k' :: ks, [], vs, r => by
    rw [r.unnil]
    exact .nil
  | k' :: ks, e :: ds, vs, r => by
    obtain ⟨u, us, ev, a, b⟩ := r.uncons
    subst ev
    rw [List.zipWith_cons_cons, List.zipWith_cons_cons]
    refine .cons ?_ (zipW_rep rd b)
    by_cases h : k' = k
    · rw [if_pos h, if_pos h]
      exact rd
    · rw [if_neg h, if_neg h]
      exact a
theorem vput_rep {F : Hp} {d : D} {v : V} {k : Key} {ks : List Key} {ds : List D} {vs : List V} (r : RepL F ds vs) (rd : Rep F d v) : RepL F (vput ks ds k d) (vput ks vs k v) := by
  unfold vput
  by_cases h : hasK ks k = true
  · rw [if_pos h, if_pos h]
    exact zipW_rep rd r
  · rw [if_neg h, if_neg h]
    exact r.app (.cons rd .nil)
/-- the dict that x is -/
def dicD (mu : Mu) : DV → Option (List Key × List D)
  | .dat (.dk ks ds) => some (ks, ds)
  | .cel j => match mu[j]? with
    | some (.dk ks ds) => some (ks, ds)
    | _ => none
  | _ => none
theorem dicD_out {F H : Hp} {al : List Addr} {mu : Mu} {x : DV} {v : V} {p : List Key × List D} (C : Cels F al mu H) (r : RepV F al x v) (h : dicD mu x = some p) : ∃ a vs, v = .ref a ∧ H a = some (.dK (p.1.zip vs)) ∧ p.1.length = vs.length ∧ RepL F p.2 vs := by
  cases x with
  | dat d =>
    cases d with
    | dk ks ds =>
      have h := Option.some.inj h
      subst h
      have r2 : Rep F (.dk ks ds) v := r
      rw [Rep] at r2
      obtain ⟨a, vs, ev, hF, hl, rl⟩ := r2
      exact ⟨a, vs, ev, C.ex _ _ hF, by rw [hl, rl.len], rl⟩
    | _ => cases h
  | cel j =>
    have h : (match mu[j]? with
      | some (.dk ks ds) => some (ks, ds)
      | _ => none) = some p := h
    cases hj : mu[j]? with
    | none => rw [hj] at h; cases h
    | some mc =>
      rw [hj] at h
      cases mc with
      | dk ks ds =>
        have h := Option.some.inj h
        subst h
        obtain ⟨a, ha, ev⟩ := r
        obtain ⟨_, vs, hH, hl, rl⟩ := C.cel j a _ ha hj
        exact ⟨a, vs, ev, hH, by rw [hl, rl.len], rl⟩
      | _ => cases h
section
variable {X : Cx} {a b o i value e k v : Expr} {ta tb to ti te tk tv : DE} {pos pos' : Pos}
def dDget (to ti : DE) : DE := fun rho mu Q => to rho mu fun x mu1 => ti rho mu1 fun y mu2 => onD y fun d => onSome (keyD d) fun k => onSome (dicD mu2 x) fun p => onSome (dval p.1 p.2 k) fun r => Q (.dat r) mu2
theorem ce_dget (hu : X.A.units + 1 < cLine) (ho : CE X o to) (hi : CE X i ti) (hs : NoSl i := by intro _ _; rfl) : CE X (.Subscript o i pos) (dDget to ti) := by
  obtain ⟨_, p1, g1⟩ := ho.ok
  obtain ⟨_, p2, g2⟩ := hi.ok
  refine ⟨_, pe_dget hu p1 p2 hs, fun F al rho mu σ H Q R S q l => g1 F al rho mu σ H _ _ S q fun F1 al1 x mu1 v1 H1 E1 C1 r1 q1 => ?_⟩
  refine g2 F1 al1 rho mu1 σ H1 _ _ (S.of C1 E1.ex E1.pf) q1 fun F2 al2 y mu2 v2 H2 E2 C2 r2 q2 => ?_
  obtain ⟨d, ed, q3⟩ := onD_out q2
  subst ed
  obtain ⟨k, hk, q3⟩ := onSome_out q3
  obtain ⟨p, hp, q3⟩ := onSome_out q3
  obtain ⟨r, hr, q3⟩ := onSome_out q3
  obtain ⟨a, vs, ev, hH, hl, rl⟩ := dicD_out C2 (r1.mono E2.ex E2.pf) hp
  have ek := keyD_V r2 hk
  subst ek
  obtain ⟨v, hv, rv⟩ := (dval_rep rl).1 r hr
  have g := DGet.k (k := k) hH
  rw [valV_zip, hv] at g
  exact ⟨a, v, ev, g, l F2 al2 (.dat r) mu2 v H2 (E1.trans E2) C2 rv q3⟩
def dDin (neg : Bool) (ti to : DE) : DE := fun rho mu Q => ti rho mu fun y mu1 => to rho mu1 fun x mu2 => onD y fun d => onSome (keyD d) fun k => onSome (dicD mu2 x) fun p => Q (.dat (.bl (if neg then !hasK p.1 k else hasK p.1 k))) mu2
theorem dval_some {α : Type} : ∀ {ks : List Key} {ds : List α} {k : Key}, ks.length = ds.length → (dval ks ds k).isSome = hasK ks k
  | [], [], k, _ => rfl
  | [], _ :: _, k, h => by simp at h
  | _ :: _, [], k, h => by simp at h
  | k' :: ks, d :: ds, k, h => by
    have ih := dval_some (ks := ks) (ds := ds) (k := k) (by simpa using h)
    unfold dval
    unfold hasK at ih ⊢
    rw [List.any_cons]
    by_cases e : k' = k
    · rw [if_pos e, decide_eq_true e]
      rfl
    · rw [if_neg e, ih, decide_eq_false e, Bool.false_or]
theorem g_din {t1 t2 : TE} (g2 : GE t1 ti) (g1 : GE t2 to) : GE (tDIn t1 t2) (dDin false ti to) := by
  refine fun F al rho mu σ H Q R S q l => g2 F al rho mu σ H _ _ S q fun F1 al1 y mu1 v1 H1 E1 C1 r1 q1 => ?_
  refine g1 F1 al1 rho mu1 σ H1 _ _ (S.of C1 E1.ex E1.pf) q1 fun F2 al2 x mu2 v2 H2 E2 C2 r2 q2 => ?_
  obtain ⟨d, ed, q3⟩ := onD_out q2
  subst ed
  obtain ⟨k, hk, q3⟩ := onSome_out q3
  obtain ⟨p, hp, q3⟩ := onSome_out q3
  obtain ⟨a, vs, ev, hH, hl, rl⟩ := dicD_out C2 r2 hp
  have ek := keyD_V r1 hk
  subst ek
  have g := DGet.k (k := k) hH
  rw [valV_zip] at g
  refine ⟨a, _, ev, g, ?_⟩
  rw [dval_some hl]
  exact l F2 al2 _ mu2 _ H2 (E1.trans E2) C2 rv_bl q3
theorem ce_din (hu : X.A.units + 1 < cLine) (hi : CE X i ti) (ho : CE X o to) (h1 : behindInMarks .In o = false := by first | exact nobehind _ (by decide) (by decide) | rfl) : CE X (.Compare i [.In] [o] pos) (dDin false ti to) :=
  let ⟨_, p1, g1⟩ := ho.ok; let ⟨_, p2, g2⟩ := hi.ok; ⟨_, pe_cmp (pc_din hu p2 p1) h1, g_din g2 g1⟩
theorem ct_din (hu : X.A.units + 1 < cLine) (hi : CE X i ti) (ho : CE X o to) (h1 : behindInMarks .In o = false := by first | exact nobehind _ (by decide) (by decide) | rfl) : CT X (.Compare i [.In] [o] pos) (dTest (dDin false ti to)) :=
  let ⟨_, p1, g1⟩ := ho.ok; let ⟨_, p2, g2⟩ := hi.ok; ⟨_, pt_cmp (pc_din hu p2 p1) h1, gt_test (g_din g2 g1)⟩
theorem g_dnin {t1 t2 : TE} (g2 : GE t1 ti) (g1 : GE t2 to) : GE (tDNotIn t1 t2) (dDin true ti to) := by
  refine fun F al rho mu σ H Q R S q l => g2 F al rho mu σ H _ _ S q fun F1 al1 y mu1 v1 H1 E1 C1 r1 q1 => ?_
  refine g1 F1 al1 rho mu1 σ H1 _ _ (S.of C1 E1.ex E1.pf) q1 fun F2 al2 x mu2 v2 H2 E2 C2 r2 q2 => ?_
  obtain ⟨d, ed, q3⟩ := onD_out q2
  subst ed
  obtain ⟨k, hk, q3⟩ := onSome_out q3
  obtain ⟨p, hp, q3⟩ := onSome_out q3
  obtain ⟨a, vs, ev, hH, hl, rl⟩ := dicD_out C2 r2 hp
  have ek := keyD_V r1 hk
  subst ek
  have g := DGet.k (k := k) hH
  rw [valV_zip] at g
  refine ⟨a, _, ev, g, ?_⟩
  rw [dval_some hl]
  exact l F2 al2 _ mu2 _ H2 (E1.trans E2) C2 rv_bl q3
theorem ce_dnin (hu : X.A.units + 1 < cLine) (hi : CE X i ti) (ho : CE X o to) (h1 : behindInMarks .NotIn o = false := by first | exact nobehind _ (by decide) (by decide) | rfl) : CE X (.Compare i [.NotIn] [o] pos) (dDin true ti to) :=
  let ⟨_, p1, g1⟩ := ho.ok; let ⟨_, p2, g2⟩ := hi.ok; ⟨_, pe_cmp (pc_dnotin hu p2 p1) h1, g_dnin g2 g1⟩
theorem ct_dnin (hu : X.A.units + 1 < cLine) (hi : CE X i ti) (ho : CE X o to) (h1 : behindInMarks .NotIn o = false := by first | exact nobehind _ (by decide) (by decide) | rfl) : CT X (.Compare i [.NotIn] [o] pos) (dTest (dDin true ti to)) :=
  let ⟨_, p1, g1⟩ := ho.ok; let ⟨_, p2, g2⟩ := hi.ok; ⟨_, pt_cmp (pc_dnotin hu p2 p1) h1, gt_test (g_dnin g2 g1)⟩
/-- d[k] = v, d a cell -/
def dDput (to ti te : DE) : DS := fun D rho mu => te rho mu fun z mu1 => to rho mu1 fun x mu2 => ti rho mu2 fun y mu3 => onD z fun d => onD y fun kd => onSome (keyD kd) fun k => match x with
  | .cel j => match mu3[j]? with
    | some (.dk ks ds) => ks.length < 100000 ∧ D.nx rho (mu3.set j (.dk (kput ks k) (vput ks ds k d)))
    | _ => False
  | _ => False
theorem cs_dput (hu : X.A.units + 1 < cLine) (ho : CE X o to) (hi : CE X i ti) (hv : CE X value te) (hs : swapsWith value (some (.Subscript o i pos')) pos.line X.env = pure false := by rfl) : CS X (.Assign [.Subscript o i pos'] value pos) (dDput to ti te) := by
  obtain ⟨_, p1, g1⟩ := ho.ok
  obtain ⟨_, p2, g2⟩ := hi.ok
  obtain ⟨_, p3, g3⟩ := hv.ok
  refine ⟨_, ps_dput hu p1 p2 p3 hs, fun F al rho mu σ H D E S q l => g3 F al rho mu σ H _ _ S q fun F1 al1 z mu1 v1 H1 E1 C1 r1 q1 => ?_⟩
  refine g1 F1 al1 rho mu1 σ H1 _ _ (S.of C1 E1.ex E1.pf) q1 fun F2 al2 x mu2 v2 H2 E2 C2 r2 q2 => ?_
  have E12 := E1.trans E2
  refine g2 F2 al2 rho mu2 σ H2 _ _ (S.of C2 E12.ex E12.pf) q2 fun F3 al3 y mu3 v3 H3 E3 C3 r3 q3 => ?_
  have E13 := E12.trans E3
  obtain ⟨d, ed, q4⟩ := onD_out q3
  obtain ⟨kd, ek, q5⟩ := onD_out q4
  obtain ⟨k, hk, q6⟩ := onSome_out q5
  clear q3 q4 q5
  subst ed
  subst ek
  have ek := keyD_V r3 hk
  subst ek
  cases x with
  | dat _ => exact q6.elim
  | cel j =>
    have q3 : (match mu3[j]? with
      | some (.dk ks ds) => ks.length < 100000 ∧ D.nx rho (mu3.set j (.dk (kput ks k) (vput ks ds k d)))
      | _ => False) := q6
    cases hj : mu3[j]? with
    | none => rw [hj] at q3; exact q3.elim
    | some mc =>
      rw [hj] at q3
      cases mc with
      | dk ks ds =>
        obtain ⟨hz, q4⟩ := q3
        obtain ⟨a, ha, ev⟩ := r2.mono E3.ex E3.pf
        subst ev
        obtain ⟨hn, vs, hH, hl, rl⟩ := C3.cel j a _ ha hj
        have hl2 : ks.length = vs.length := by rw [hl, rl.len]
        have rd : Rep F3 d v1 := (r1.mono E2.ex E2.pf).mono E3.ex E3.pf
        have rl2 := vput_rep (k := k) (ks := ks) rl rd
        obtain ⟨c2, e3⟩ := C3.put (m' := .dk (kput ks k) (vput ks ds k d)) (o := .dK ((kput ks k).zip (vput ks vs k v1))) ha hj rfl ⟨hn, _, upd_same, put_len k d hl, rl2⟩
        refine ⟨a, _, rfl, DPut.k (k := k) hH (by rw [List.length_zip, ← hl2, Nat.min_self]; exact Nat.lt_of_lt_of_le hz (Evl.sz_of (Nat.le_refl _))), ?_⟩
        rw [putK_zip k v1 hl2]
        exact l.nx F3 al3 rho _ σ _ (E13.trans e3) (S.of c2 (E13.trans e3).ex (E13.trans e3).pf) q4
      | _ => exact q3.elim
/-- {} -/
def fDK0 : DF := fun rho mu Q => Q (.dk [] []) mu
theorem cf_dK0 : CF X (.Dict [] [] pos) fDK0 := ⟨_, pe_dnewK, fun F al rho mu σ H Q R S q l p hp =>
  l F al (.dk [] []) mu p _ (Ext.loose hp) (S.toCels.loose hp) (S.toCels.not_al hp) hp rfl ⟨ex_none S.ex hp, [], upd_same, rfl, .nil⟩ q⟩
theorem Cels.other {F H : Hp} {al : List Addr} {mu : Mu} {p : Addr} {o : HO} (C : Cels F al mu H) (n : p ∉ al) (nF : F p = none) {o1 : HO} (h1 : H p = some o1) (pl : Plain p o1) : Cels F al mu (upd H p o) := by
  refine ⟨fun b u h => ?_, C.nt, tabs_put C.tb h1 pl, C.len, C.nd, fun j a m h1' h2 => ?_⟩
  · rw [upd_ne (fun z => by rw [z, nF] at h; cases h)]
    exact C.ex b u h
  · refine (C.cel j a m h1' h2).mono (Ex.refl F) id ?_
    exact upd_ne (fun z : a = p => n (by rw [← z]; exact List.mem_of_getElem? h1'))
/-- {k: v} -/
def fDK1 (tk tv : DE) : DF := fun rho mu Q => tk rho mu fun x mu1 => tv rho mu1 fun y mu2 => onD x fun kd => onD y fun d => onSome (keyD kd) fun k => Q (.dk [k] [d]) mu2
theorem cf_dK1 (hk : CE X k tk) (hv : CE X v tv) : CF X (.Dict [some k] [v] pos) (fDK1 tk tv) := by
  obtain ⟨_, p1, g1⟩ := hk.ok
  obtain ⟨_, p2, g2⟩ := hv.ok
  refine ⟨_, pe_disp (pps_cons p1 p2 pps_nil) rfl rfl (by simp) (by simp), fun F al rho mu σ H Q R S q l p hp => ?_⟩
  have E0 : Ext F al H F al (upd H p (.dK [])) := Ext.loose hp
  have C0 := S.toCels.loose (o := .dK []) hp
  have na := S.toCels.not_al hp
  have nF : F p = none := ex_none S.ex hp
  refine g1 F al rho mu σ _ _ _ (S.of C0 E0.ex E0.pf) q fun F1 al1 x mu1 v1 H1 E1 C1 r1 q1 => ?_
  refine g2 F1 al1 rho mu1 σ H1 _ _ (S.of C1 (E0.trans E1).ex (E0.trans E1).pf) q1 fun F2 al2 y mu2 v2 H2 E2 C2 r2 q2 => ?_
  have E02 := E1.trans E2
  obtain ⟨kd, ek, q3⟩ := onD_out q2
  obtain ⟨d, ed, q4⟩ := onD_out q3
  obtain ⟨k, hk, q5⟩ := onSome_out q4
  clear q2 q3 q4
  subst ek
  subst ed
  have ek := keyD_V (r1.mono E2.ex E2.pf) hk
  subst ek
  have hH2 : H2 p = some (.dK []) := E02.kp p _ na upd_same (plain_dK (a := p)).1
  have n2 : p ∉ al2 := fun z => by
    rcases E02.nc p z with w | w
    · exact na w
    · rw [upd_same] at w
      cases w
  have nF2 : F2 p = none := by
    cases w : F2 p with
    | none => rfl
    | some o =>
      rcases E02.nf p (by rw [w]; exact fun z => nomatch z) with z | z | z
      · exact absurd nF z
      · rw [upd_same] at z
        cases z
      · exact absurd z na
  refine ⟨hH2, [(k, v2)], rfl, by show 1 ≤ 15; omega, ?_⟩
  have E := E0.trans E02
  have ex : Ext F al H F2 al2 (upd H2 p (.dK (mergeK [] [(k, v2)]))) := ⟨E.ex, E.pf, E.nf, E.nc, fun a o ha h nt => by
    rw [upd_ne (fun z => by rw [z, hp] at h; cases h)]
    exact E.kp a o ha h nt, fun a h => by
    by_cases z : a = p
    · subst z
      rw [upd_same]
      exact fun z => nomatch z
    · rw [upd_ne z]
      exact E.dm a h⟩
  refine l F2 al2 (.dk [k] [d]) mu2 p _ ex (C2.other n2 nF2 hH2 plain_dK) n2 hp rfl ⟨nF2, [v2], ?_, rfl, .cons r2 .nil⟩ q5
  rw [upd_same]
  rfl
/-- list(d): the keys -/
def keyV : Key → D
  | .inl i => .int i
  | .inr x => .str x.cps.toList
def fListD : DCallF := fun xs mu Q => on1 xs fun x => onSome (dicD mu x) fun p => Q (.lst (p.1.map keyV)) mu
theorem keyV_rep {F : Hp} : ∀ ks : List Key, RepL F (ks.map keyV) (ks.map kV)
  | [] => .nil
  | .inl i :: r => .cons (by rw [keyV, Rep]; rfl) (keyV_rep r)
  | .inr x :: r => .cons (by rw [keyV, Rep]; rfl) (keyV_rep r)
theorem cListD (hc : X.calm = true) : CallF X (.type "list") fListD := ⟨_, call_list_dK hc, fun F al mu H xs vs Q R c r q l => by
  obtain ⟨x, v, ev, rx, q⟩ := on1_out q r
  obtain ⟨p, hp, q⟩ := onSome_out q
  obtain ⟨a, us, e2, hH, hl, rl⟩ := dicD_out c rx hp
  subst e2
  refine ⟨a, _, ev, hH, fun n hn => ?_⟩
  have e3 : ((p.1.zip us).map fun kv => kV kv.1) = p.1.map kV := by
    have e4 : ((p.1.zip us).map fun kv => kV kv.1) = ((p.1.zip us).map (·.1)).map kV := by rw [List.map_map]; rfl
    rw [e4, List.map_fst_zip (by omega)]
  rw [e3]
  exact l F al (.lst (p.1.map keyV)) mu n _ (Ext.loose hn) (c.loose hn) (c.not_al hn) hn rfl ⟨ex_none c.ex hn, _, upd_same, keyV_rep p.1⟩ q⟩
/-- len(d) -/
def dLenD : DCall := fun xs mu Q => on1 xs fun x => onSome (dicD mu x) fun p => Q (.dat (.int p.1.length)) mu
theorem cLenD : CallD X (.builtin "len") dLenD := ⟨_, call_lenD, fun F al mu H xs vs Q R c r q l => by
  obtain ⟨x, v, ev, rx, q⟩ := on1_out q r
  obtain ⟨p, hp, q⟩ := onSome_out q
  obtain ⟨a, us, e2, hH, hl, rl⟩ := dicD_out c rx hp
  subst e2
  refine ⟨a, _, ev, hH, ?_⟩
  have e3 : (p.1.zip us).length = p.1.length := by rw [List.length_zip, ← hl, Nat.min_self]
  rw [e3]
  exact l F al _ mu _ H Ext.refl c rv_int q⟩
end
end Dx

namespace Dx
open PySem PySem.Spec PyProof.Rows L2
open Evl (Ex)
variable [Tb]

/-! ### keys: a word's length, the word -/
def t_order_of : DS :=
  (dRet (dTup (aCons (dCB dLen (aCons (dVar 0) aNil)) (aCons (dVar 0) aNil))))
def t_word_order : DS :=
  (dRet (dTup (aCons (dCB dLen (aCons (dVar 0) aNil)) (aCons (dVar 0) aNil))))
def t_w_order : DS :=
  (dRet (dTup (aCons (dCB dLen (aCons (dVar 0) aNil)) (aCons (dVar 0) aNil))))
theorem len_order_of : ∀ xs mu Q, S_order xs mu Q → xs.length = 1 := fun xs mu Q h => by
  obtain ⟨w, rfl, _⟩ := h
  rfl
theorem len_word_order : ∀ xs mu Q, S_order xs mu Q → xs.length = 1 := len_order_of
theorem len_w_order : ∀ xs mu Q, S_order xs mu Q → xs.length = 1 := len_order_of
theorem rd_order_of : Body t_order_of ["word"] S_order := fun xs mu Q h => by
  obtain ⟨w, rfl, rfl, hw, q⟩ := h
  refine ⟨hw, ?_⟩
  refine ⟨by show 2 ≤ 1000; omega, ?_⟩
  exact q
theorem rd_word_order : Body t_word_order ["word"] S_order := rd_order_of
theorem rd_w_order : Body t_w_order ["_law_word_here"] S_order := fun xs mu Q h => rd_order_of xs mu Q h

/-! ### words in their order -/
theorem ltW_iff {a b : List Nat} : ltW a b = true ↔ a.length < b.length ∨ (a.length = b.length ∧ a < b) := by
  unfold ltW
  rw [Bool.or_eq_true_iff, Bool.and_eq_true_iff, decide_eq_true_iff, decide_eq_true_iff, decide_eq_true_iff]
theorem ltW_irr (a : List Nat) : ltW a a = false := by
  cases h : ltW a a with
  | false => rfl
  | true =>
    rcases ltW_iff.mp h with z | ⟨_, z⟩
    · omega
    · exact absurd z (List.lt_irrefl a)
theorem ltW_tri {a b : List Nat} (h1 : ltW a b = false) (h2 : ltW b a = false) : a = b := by
  have n1 : ¬ (a.length < b.length ∨ (a.length = b.length ∧ a < b)) := fun z => by rw [ltW_iff.mpr z] at h1; cases h1
  have n2 : ¬ (b.length < a.length ∨ (b.length = a.length ∧ b < a)) := fun z => by rw [ltW_iff.mpr z] at h2; cases h2
  have e : a.length = b.length := by
    rcases Nat.lt_trichotomy a.length b.length with z | z | z
    · exact absurd (.inl z) n1
    · exact z
    · exact absurd (.inl z) n2
  have l1 : ¬ a < b := fun z => n1 (.inr ⟨e, z⟩)
  have l2 : ¬ b < a := fun z => n2 (.inr ⟨e.symm, z⟩)
  exact List.le_antisymm (List.not_lt.mp l2) (List.not_lt.mp l1)
theorem ltW_trans {a b c : List Nat} (h1 : ltW a b = true) (h2 : ltW b c = true) : ltW a c = true := by
  rcases ltW_iff.mp h1 with z1 | ⟨e1, z1⟩
  · rcases ltW_iff.mp h2 with z2 | ⟨e2, z2⟩
    · exact ltW_iff.mpr (.inl (by omega))
    · exact ltW_iff.mpr (.inl (by omega))
  · rcases ltW_iff.mp h2 with z2 | ⟨e2, z2⟩
    · exact ltW_iff.mpr (.inl (by omega))
    · exact ltW_iff.mpr (.inr ⟨by omega, List.lt_trans z1 z2⟩)
/-- in their order -/
def OrdW (l : List (List Nat)) : Prop := l.Pairwise fun a b => ltW b a = false
/-- there is just one such list -/
theorem ordW_uniq : ∀ {l m : List (List Nat)}, OrdW l → OrdW m → l.Perm m → l = m
  | [], m, _, _, p => (List.Perm.nil_eq p)
  | a :: l, [], _, _, p => absurd p.length_eq (by simp)
  | a :: l, b :: m, hl, hm, p => by
    have h1 : ltW b a = false := by
      rcases List.mem_cons.mp (p.mem_iff.mpr (List.mem_cons_self (a := b) (l := m))) with e | e
      · rw [e]; exact ltW_irr a
      · exact (List.pairwise_cons.mp hl).1 b e
    have h2 : ltW a b = false := by
      rcases List.mem_cons.mp (p.mem_iff.mp (List.mem_cons_self (a := a) (l := l))) with e | e
      · rw [e]; exact ltW_irr b
      · exact (List.pairwise_cons.mp hm).1 a e
    have e := ltW_tri h2 h1
    subst e
    rw [ordW_uniq (List.pairwise_cons.mp hl).2 (List.pairwise_cons.mp hm).2 p.cons_inv]
end Dx

namespace Dx
open PySem PySem.Spec PyProof.Rows L2
open Evl (Ex)
variable [Tb]

/-! ### all words of some letters -/
def lev (l : List Nat) : Nat → List (List Nat)
  | 0 => [[]]
  | n + 1 => (lev l n).flatMap fun w => l.map fun c => w ++ [c]
def allW (l : List Nat) : Nat → List (List Nat)
  | 0 => [[]]
  | n + 1 => allW l n ++ lev l (n + 1)
theorem mem_lev {l : List Nat} : ∀ {n : Nat} {w : List Nat}, w ∈ lev l n ↔ w.length = n ∧ ∀ c ∈ w, c ∈ l
  | 0, w => by
    unfold lev
    rw [List.mem_singleton]
    refine ⟨fun e => by subst e; simp, fun h => List.eq_nil_of_length_eq_zero h.1⟩
  | n + 1, w => by
    unfold lev
    rw [List.mem_flatMap]
    refine ⟨fun ⟨v, hv, hw⟩ => ?_, fun ⟨h1, h2⟩ => ?_⟩
    · obtain ⟨c, hc, rfl⟩ := List.mem_map.mp hw
      obtain ⟨a, b⟩ := mem_lev.mp hv
      refine ⟨by rw [List.length_append, a]; rfl, fun x hx => ?_⟩
      rcases List.mem_append.mp hx with z | z
      · exact b x z
      · rw [List.mem_singleton] at z; rw [z]; exact hc
    · rcases List.eq_nil_or_concat w with e | ⟨v, c, e⟩
      · subst e; simp at h1
      · rw [List.concat_eq_append] at e
        subst e
        refine ⟨v, mem_lev.mpr ⟨?_, fun x hx => h2 x (List.mem_append_left _ hx)⟩, List.mem_map.mpr ⟨c, h2 c (by simp), rfl⟩⟩
        rw [List.length_append, List.length_singleton] at h1
        omega
theorem mem_allW {l : List Nat} : ∀ {n : Nat} {w : List Nat}, w ∈ allW l n ↔ w.length ≤ n ∧ ∀ c ∈ w, c ∈ l
  | 0, w => by
    unfold allW
    rw [List.mem_singleton]
    refine ⟨fun e => by subst e; simp, fun h => List.eq_nil_of_length_eq_zero (by omega)⟩
  | n + 1, w => by
    unfold allW
    rw [List.mem_append, mem_allW, mem_lev]
    refine ⟨fun h => ?_, fun ⟨h1, h2⟩ => ?_⟩
    · rcases h with ⟨a, b⟩ | ⟨a, b⟩
      · exact ⟨by omega, b⟩
      · exact ⟨by omega, b⟩
    · by_cases h : w.length ≤ n
      · exact .inl ⟨h, h2⟩
      · exact .inr ⟨by omega, h2⟩
theorem snoc_inj {v w : List Nat} {c d : Nat} (h : v ++ [c] = w ++ [d]) : v = w ∧ c = d := by
  have h1 := congrArg List.reverse h
  rw [List.reverse_append, List.reverse_append] at h1
  have h2 : c :: v.reverse = d :: w.reverse := h1
  injection h2 with a b
  exact ⟨List.reverse_inj.mp b, a⟩
theorem nodup_lev {l : List Nat} (nd : l.Nodup) : ∀ n, (lev l n).Nodup
  | 0 => by simp [lev]
  | n + 1 => by
    unfold lev
    show List.Pairwise (· ≠ ·) _
    rw [List.pairwise_flatMap]
    refine ⟨fun v _ => ?_, (nodup_lev nd n).imp fun {v w} hvw x hx y hy e => ?_⟩
    · rw [List.pairwise_map]
      exact nd.imp fun {c d} h e => h (snoc_inj e).2
    · obtain ⟨c, _, rfl⟩ := List.mem_map.mp hx
      obtain ⟨d, _, rfl⟩ := List.mem_map.mp hy
      exact hvw (snoc_inj e).1
theorem nodup_allW {l : List Nat} (nd : l.Nodup) : ∀ n, (allW l n).Nodup
  | 0 => by simp [allW]
  | n + 1 => by
    unfold allW
    rw [List.nodup_append]
    refine ⟨nodup_allW nd n, nodup_lev nd _, fun a ha b hb e => ?_⟩
    have h1 := (mem_allW.mp ha).1
    have h2 := (mem_lev.mp hb).1
    rw [e] at h1
    omega
theorem len_lev (l : List Nat) : ∀ n, (lev l n).length = l.length ^ n
  | 0 => rfl
  | n + 1 => by
    unfold lev
    rw [List.length_flatMap]
    have e : ((lev l n).map fun w => (l.map fun c => w ++ [c]).length) = List.replicate (lev l n).length l.length := by
      rw [← List.map_const']
      refine List.map_congr_left fun w _ => ?_
      rw [List.length_map]
    rw [e, List.sum_replicate_nat, len_lev l n, Nat.pow_succ]
theorem len_allW {l : List Nat} (h : l.length ≤ 3) : ∀ n, (allW l n).length ≤ 3 ^ (n + 1)
  | 0 => by show 1 ≤ 3 ^ 1; omega
  | n + 1 => by
    unfold allW
    have h1 := len_allW h n
    have h2 : l.length ^ (n + 1) ≤ 3 ^ (n + 1) := Nat.pow_le_pow_left h _
    rw [List.length_append, len_lev, Nat.pow_succ 3 (n + 1)]
    omega
theorem few_words {l : List Nat} {n : Nat} {ws : List (List Nat)} (h : l.length ≤ 3) (hn : n ≤ 6) (nd : ws.Nodup) (hw : ∀ w ∈ ws, w.length ≤ n ∧ ∀ c ∈ w, c ∈ l) : ws.length ≤ 2187 := by
  have h1 := nd.length_le_of_subset (l₂ := allW l n) fun w hm => mem_allW.mpr (hw w hm)
  have h2 := len_allW h n
  have h3 : (3 : Nat) ^ (n + 1) ≤ 3 ^ 7 := Nat.pow_le_pow_right (by omega) (by omega)
  have h4 : (3 : Nat) ^ 7 = 2187 := by decide
  omega

/-! ### a dict that is a set of words -/
def keysW (ws : List (List Nat)) : List Key := (ws.map mkS).map Sum.inr
def wput (ws : List (List Nat)) (w : List Nat) : List (List Nat) := if w ∈ ws then ws else ws ++ [w]
def setW (ws : List (List Nat)) : MC := .dk (keysW ws) (List.replicate ws.length (.bl true))
theorem hasK_W (ws : List (List Nat)) (w : List Nat) : hasK (keysW ws) (.inr (mkS w)) = decide (w ∈ ws) := by
  induction ws with
  | nil => rfl
  | cons u r ih =>
    unfold hasK keysW at ih ⊢
    rw [List.map_cons, List.map_cons, List.any_cons, ih]
    by_cases e : u = w
    · subst e; simp
    · rw [decide_eq_false (fun z => e (mkS_inj (Sum.inr.inj z))), Bool.false_or]
      refine decide_eq_decide.mpr ⟨fun z => List.mem_cons_of_mem _ z, fun z => ?_⟩
      rcases List.mem_cons.mp z with e' | e'
      · exact absurd e'.symm e
      · exact e'
theorem kput_W (ws : List (List Nat)) (w : List Nat) : kput (keysW ws) (.inr (mkS w)) = keysW (wput ws w) := by
  unfold kput wput
  rw [hasK_W]
  by_cases h : w ∈ ws
  · rw [if_pos h, decide_eq_true h, if_pos rfl]
  · rw [if_neg h, decide_eq_false h, if_neg (by decide)]
    unfold keysW
    rw [List.map_append, List.map_append]
    rfl
theorem keysW_len (ws : List (List Nat)) : (keysW ws).length = ws.length := by
  unfold keysW
  rw [List.length_map, List.length_map]
theorem zipW_same (k : Key) (d : D) : ∀ (ks : List Key), List.zipWith (fun k' x => if k' = k then d else x) ks (List.replicate ks.length d) = List.replicate ks.length d
  | [] => rfl
  | k' :: ks => by
    rw [List.length_cons, List.replicate_succ, List.zipWith_cons_cons, zipW_same k d ks]
    by_cases h : k' = k
    · rw [if_pos h]
    · rw [if_neg h]
theorem vput_W (ws : List (List Nat)) (w : List Nat) : vput (keysW ws) (List.replicate ws.length (D.bl true)) (.inr (mkS w)) (.bl true) = List.replicate (wput ws w).length (.bl true) := by
  unfold vput wput
  rw [hasK_W]
  by_cases h : w ∈ ws
  · rw [if_pos h, decide_eq_true h, if_pos rfl]
    have := zipW_same (.inr (mkS w)) (D.bl true) (keysW ws)
    rw [keysW_len] at this
    exact this
  · rw [if_neg h, decide_eq_false h, if_neg (by decide), List.length_append, List.length_singleton, List.replicate_succ']
theorem put_W (ws : List (List Nat)) (w : List Nat) : MC.dk (kput (keysW ws) (.inr (mkS w))) (vput (keysW ws) (List.replicate ws.length (D.bl true)) (.inr (mkS w)) (.bl true)) = setW (wput ws w) := by
  rw [kput_W, vput_W]
  rfl
theorem keysS_W : ∀ ws : List (List Nat), keysS (keysW ws) = some ws
  | [] => rfl
  | w :: r => by
    show (keysS (keysW r)).map _ = _
    rw [keysS_W r]
    rfl
theorem keyV_W : ∀ ws : List (List Nat), (keysW ws).map keyV = ws.map D.str
  | [] => rfl
  | w :: r => by
    show D.str w :: (keysW r).map keyV = _
    rw [keyV_W r]
    rfl
theorem mem_wput {ws : List (List Nat)} {w u : List Nat} : u ∈ wput ws w ↔ u ∈ ws ∨ u = w := by
  unfold wput
  by_cases h : w ∈ ws
  · rw [if_pos h]
    refine ⟨.inl, fun z => ?_⟩
    rcases z with z | z
    · exact z
    · rw [z]; exact h
  · rw [if_neg h, List.mem_append, List.mem_singleton]
theorem nodup_wput {ws : List (List Nat)} {w : List Nat} (nd : ws.Nodup) : (wput ws w).Nodup := by
  unfold wput
  by_cases h : w ∈ ws
  · rw [if_pos h]; exact nd
  · rw [if_neg h, List.nodup_append]
    refine ⟨nd, by simp, fun a ha b hb e => ?_⟩
    rw [List.mem_singleton] at hb
    subst hb
    subst e
    exact h ha
theorem str_at2 {ws : List (List Nat)} {i : Nat} {d : D} (h : (ws.map D.str)[i]? = some d) : ∃ w, d = .str w ∧ ws[i]? = some w := by
  rw [List.getElem?_map] at h
  cases e : ws[i]? with
  | none => rw [e] at h; cases h
  | some w =>
    rw [e] at h
    exact ⟨w, (Option.some.inj h).symm, rfl⟩

/-! ### the words that lie spread -/
/-- shorter ones first, each once -/
def WordsOf (t : List Nat) (k : Nat) (ys : List (List Nat)) : Prop := OrdW ys ∧ ys.Nodup ∧ ∀ w, w ∈ ys ↔ w.Sublist t ∧ w.length ≤ k
theorem wordsOf_uniq {t : List Nat} {k : Nat} {ys zs : List (List Nat)} (a : WordsOf t k ys) (b : WordsOf t k zs) : ys = zs :=
  ordW_uniq a.1 b.1 ((List.perm_ext_iff_of_nodup a.2.1 b.2.1).mpr fun w => (a.2.2 w).trans (b.2.2 w).symm)
theorem sub_snoc {w t : List Nat} {c : Nat} : w.Sublist (t ++ [c]) ↔ w.Sublist t ∨ ∃ v, v.Sublist t ∧ w = v ++ [c] := by
  rw [List.sublist_append_iff]
  refine ⟨fun ⟨l1, l2, e, h1, h2⟩ => ?_, fun h => ?_⟩
  · cases h2 with
    | cons _ h =>
      cases h
      rw [List.append_nil] at e
      subst e
      exact .inl h1
    | cons_cons _ h =>
      cases h
      exact .inr ⟨l1, h1, e⟩
  · rcases h with h | ⟨v, h, e⟩
    · exact ⟨w, [], by simp, h, List.nil_sublist _⟩
    · exact ⟨v, [c], e, h, List.Sublist.refl _⟩
def S_spread_words : FS := fun xs mu Q => ∃ (t l : List Nat) (k : Nat), xs = [.dat (.str t), .dat (.int (k : Int))] ∧ mu = [] ∧ l.length ≤ 3 ∧ (∀ c ∈ t, c ∈ l) ∧ k ≤ 6 ∧ t.length ≤ 1000 ∧ ∀ ys, WordsOf t k ys → Q (.new (.lst (ys.map D.str))) []
theorem len_spread_words : ∀ xs mu Q, S_spread_words xs mu Q → xs.length = 2 := fun xs mu Q h => by
  obtain ⟨_, _, _, rfl, _⟩ := h
  rfl
/- slots of spread_words: 0 text, 1 k, 2 found, 3 letter, 4 word -/
def t_spread_words : DS :=
  (dSeq (dSet 2 (dNew (fDK1 (dC (.str (lit ""))) (dC (.bl true)))))
  (dSeq (dFor (iStrD (dVar 0)) (dgN 3)
  (dFor (iDat (dFrz (fCB fListD (aCons (dVar 2) aNil)))) (dgN 4)
  (dIf (dTest (dOp dLt (dCB dLen (aCons (dVar 4) aNil)) (dVar 1)))
  (dDput (dVar 2) (dOp dAdd (dVar 4) (dVar 3)) (dC (.bl true)))
  dNext)))
  (dRetF (fSortKey (dVar 2)))))
theorem rd_spread_words : Body t_spread_words ["text", "k", "found", "letter", "word"] S_spread_words := fun xs mu Q h => by
  obtain ⟨t, l, k, rfl, rfl, hl, tc, hk, ht, q⟩ := h
  have few : ∀ {i : Nat} {ws : List (List Nat)}, ws.Nodup → (∀ w, w ∈ ws → w.Sublist (t.take i) ∧ w.length ≤ k) → ws.length ≤ 2187 := fun {i ws} nd hw => few_words hl hk nd fun w hm => ⟨(hw w hm).2, fun c hc => tc c (List.mem_of_mem_take ((hw w hm).1.subset hc))⟩
  have e0 : MC.dk [.inr (mkS (lit ""))] [D.bl true] = setW [[]] := by rw [lit_nil]; rfl
  refine for_inv (fun i rho mu => ∃ ws x y, mu = [setW ws] ∧ rho = [some (.dat (.str t)), some (.dat (.int (k : Int))), some (.cel 0), x, y] ∧ ws.Nodup ∧ ∀ w, w ∈ ws ↔ w.Sublist (t.take i) ∧ w.length ≤ k) ⟨[[]], none, none, by rw [← e0]; rfl, rfl, by simp, fun w => ?_⟩ (fun i d rho mu K hd hp ke => ?_) (fun rho mu hp => ?_)
  · rw [List.mem_singleton, List.take_zero, List.sublist_nil]
    refine ⟨fun e => ⟨e, by rw [e]; exact Nat.zero_le _⟩, fun h => h.1⟩
  · obtain ⟨ws, x, y, rfl, rfl, nd, mem⟩ := hp
    obtain ⟨c, hc, rfl⟩ := str_at hd
    have e1 : t.take (i + 1) = t.take i ++ [c] := by rw [List.take_add_one, hc]; rfl
    have hws := few nd fun w hm => (mem w).mp hm
    show dForL _ _ _ ((keysW ws).map keyV) _ _
    rw [keyV_W]
    refine for_inv (fun j rho mu => ∃ us y, mu = [setW us] ∧ rho = [some (.dat (.str t)), some (.dat (.int (k : Int))), some (.cel 0), some (.dat (.str [c])), y] ∧ us.Nodup ∧ ∀ w, w ∈ us ↔ w ∈ ws ∨ ∃ v, v ∈ ws.take j ∧ v.length < k ∧ w = v ++ [c]) ⟨ws, y, rfl, rfl, nd, fun w => by simp⟩ (fun j d rho mu K hd hp ke2 => ?_) (fun rho mu hp => ?_)
    · obtain ⟨us, y, rfl, rfl, und, umem⟩ := hp
      obtain ⟨v, rfl, hv⟩ := str_at2 hd
      have hvm := List.mem_of_getElem? hv
      have e2 : ws.take (j + 1) = ws.take j ++ [v] := by rw [List.take_add_one, hv]; rfl
      have vl := ((mem v).mp hvm).2
      have ul : us.length ≤ 2187 := few (i := i + 1) und fun w hm => by
        rw [e1]
        rcases (umem w).mp hm with z | ⟨v', hv', z1, z2⟩
        · have := (mem w).mp z
          exact ⟨sub_snoc.mpr (.inl this.1), this.2⟩
        · have := (mem v').mp (List.mem_of_mem_take hv')
          exact ⟨sub_snoc.mpr (.inr ⟨v', this.1, z2⟩), by rw [z2, List.length_append, List.length_singleton]; omega⟩
      refine ⟨by omega, ?_⟩
      refine itD (p := ((v.length : Nat) : Int) < (k : Int)) (fun h1 => ?_) (fun h1 => ?_)
      · refine ⟨by show v.length + 1 ≤ 100000; omega, ?_⟩
        refine ⟨by rw [keysW_len]; omega, ?_⟩
        refine ke2 _ _ ⟨wput us (v ++ [c]), _, ?_, rfl, nodup_wput und, fun w => ?_⟩
        · show [MC.dk _ _] = _
          exact congrArg (fun m => [m]) (put_W us (v ++ [c]))
        · rw [mem_wput, umem w, e2]
          refine ⟨fun h => ?_, fun h => ?_⟩
          · rcases h with (z | ⟨v', a, b, d⟩) | z
            · exact .inl z
            · exact .inr ⟨v', List.mem_append_left _ a, b, d⟩
            · exact .inr ⟨v, by simp, by omega, z⟩
          · rcases h with z | ⟨v', a, b, d⟩
            · exact .inl (.inl z)
            · rcases List.mem_append.mp a with z | z
              · exact .inl (.inr ⟨v', z, b, d⟩)
              · rw [List.mem_singleton] at z
                subst z
                exact .inr d
      · refine ke2 _ _ ⟨us, _, rfl, rfl, und, fun w => ?_⟩
        rw [umem w, e2]
        refine ⟨fun h => ?_, fun h => ?_⟩
        · rcases h with z | ⟨v', a, b, d⟩
          · exact .inl z
          · exact .inr ⟨v', List.mem_append_left _ a, b, d⟩
        · rcases h with z | ⟨v', a, b, d⟩
          · exact .inl z
          · rcases List.mem_append.mp a with z | z
            · exact .inr ⟨v', z, b, d⟩
            · rw [List.mem_singleton] at z
              subst z
              omega
    · obtain ⟨us, y, rfl, rfl, und, umem⟩ := hp
      refine ke _ _ ⟨us, _, _, rfl, rfl, und, fun w => ?_⟩
      rw [umem w, List.length_map, List.take_length, e1, sub_snoc]
      refine ⟨fun h => ?_, fun ⟨h1, h2⟩ => ?_⟩
      · rcases h with z | ⟨v, a, b, d⟩
        · have := (mem w).mp z
          exact ⟨.inl this.1, this.2⟩
        · have := (mem v).mp a
          exact ⟨.inr ⟨v, this.1, d⟩, by rw [d, List.length_append, List.length_singleton]; omega⟩
      · rcases h1 with z | ⟨v, a, d⟩
        · exact .inl ((mem w).mpr ⟨z, h2⟩)
        · rw [d, List.length_append, List.length_singleton] at h2
          exact .inr ⟨v, (mem v).mpr ⟨a, by omega⟩, by omega, d⟩
  · obtain ⟨ws, x, y, rfl, rfl, nd, mem⟩ := hp
    rw [List.length_map, List.take_length] at mem
    have hws := few (i := t.length) nd fun w hm => by rw [List.take_length]; exact (mem w).mp hm
    refine on_some (a := ws) (keysS_W ws) ?_
    refine ⟨by omega, fun w hw => by have := ((mem w).mp hw).2; omega, fun ys pm so => ?_⟩
    exact q ys ⟨so, pm.nodup_iff.mpr nd, fun w => (pm.mem_iff).trans (mem w)⟩
end Dx

namespace Dx
open PySem PySem.Spec PyProof.Rows L2
open Evl (Ex)
variable [Tb]

/-! ### the law's own words -/
def pairsL (ws : List (List Nat)) (l : List Nat) : List (List Nat × Nat) := ws.flatMap fun w => l.map fun c => (w, c)
def pairD (p : List Nat × Nat) : D := .tup [.str p.1, .str [p.2]]
theorem pairsL_len (ws : List (List Nat)) (l : List Nat) : (pairsL ws l).length = ws.length * l.length := by
  unfold pairsL
  induction ws with
  | nil => simp
  | cons w r ih => rw [List.flatMap_cons, List.length_append, List.length_map, ih, List.length_cons, Nat.succ_mul]; omega
theorem pairsL_lev (l : List Nat) (n : Nat) : (pairsL (lev l n) l).map (fun p => p.1 ++ [p.2]) = lev l (n + 1) := by
  unfold pairsL
  rw [List.map_flatMap, lev]
  refine congrArg (fun f => List.flatMap f _) (funext fun w => ?_)
  rw [List.map_map]
  rfl
def S_w_pairs : FS := fun xs mu Q => ∃ (ws : List (List Nat)) (l : List Nat), xs = [.dat (.lst (ws.map D.str)), .dat (.str l)] ∧ mu = [] ∧ l.length ≤ 26 ∧ ws.length ≤ 2200 ∧ Q (.new (.lst ((pairsL ws l).map pairD))) []
theorem len_w_pairs : ∀ xs mu Q, S_w_pairs xs mu Q → xs.length = 2 := fun xs mu Q h => by
  obtain ⟨_, _, rfl, _⟩ := h
  rfl
/- slots of w_pairs: 0 words, 1 letters_here, 2 found, 3 word_here, 4 letter -/
def t_w_pairs : DS :=
  (dSeq (dSet 2 (dNew (fLst aNil)))
  (dSeq (dFor (iDat (dVar 0)) (dgN 3)
  (dDrop (dBM "list" dExtend (dVar 2) (aCons (dFrz (fLc (iStrD (dVar 1)) (dgN 4) dYes (dTup (aCons (dVar 3) (aCons (dVar 4) aNil))) [4])) aNil))))
  (dRet (dVar 2))))
theorem take_flat {α β : Type} {f : α → List β} {ws : List α} {i : Nat} {w : α} (h : ws[i]? = some w) : (ws.take (i + 1)).flatMap f = (ws.take i).flatMap f ++ f w := by
  rw [List.take_add_one, h, List.flatMap_append]
  simp
theorem rd_w_pairs : Body t_w_pairs ["_law_words", "_law_letters_here", "_law_found", "_law_word_here", "_law_letter"] S_w_pairs := fun xs mu Q h => by
  obtain ⟨ws, l, rfl, rfl, hl, hw, q⟩ := h
  refine ⟨by show 0 ≤ 1000; omega, ?_⟩
  refine for_inv (fun i rho mu => ∃ x y, mu = [.lst ((pairsL (ws.take i) l).map pairD)] ∧ rho = [some (.dat (.lst (ws.map D.str))), some (.dat (.str l)), some (.cel 0), x, y]) ⟨none, none, rfl, rfl⟩ (fun i d rho mu K hd hp ke => ?_) (fun rho mu hp => ?_)
  · obtain ⟨x, y, rfl, rfl⟩ := hp
    obtain ⟨w, rfl, hw1⟩ := str_at2 hd
    have hi := (List.getElem?_eq_some_iff.mp hw1).1
    refine ⟨rfl, ?_⟩
    refine comp_inv (fun j acc mu => mu = [.lst ((pairsL (ws.take i) l).map pairD)] ∧ acc = ((l.take j).map fun c => (w, c)).map pairD) ⟨rfl, rfl⟩ (fun j d acc mu K hd hp ke2 => ?_) (fun acc mu hp => ?_)
    · obtain ⟨rfl, rfl⟩ := hp
      obtain ⟨c, hc, rfl⟩ := str_at hd
      have hj := (List.getElem?_eq_some_iff.mp hc).1
      refine ⟨by show 2 ≤ 1000; omega, ?_⟩
      refine ⟨by rw [List.length_map, List.length_map, List.length_take]; omega, ke2 _ _ ⟨rfl, ?_⟩⟩
      rw [List.take_add_one, hc, List.map_append, List.map_append]
      rfl
    · obtain ⟨rfl, rfl⟩ := hp
      rw [List.length_map, List.take_length]
      have e : pairsL (ws.take (i + 1)) l = pairsL (ws.take i) l ++ l.map fun c => (w, c) := take_flat hw1
      refine ⟨?_, ?_⟩
      · rw [List.length_map, List.length_map, List.length_map, pairsL_len, List.length_take]
        have : min i ws.length * l.length ≤ 2200 * 26 := Nat.mul_le_mul (by omega) hl
        omega
      · refine ke _ _ ⟨_, _, ?_, rfl⟩
        rw [e, List.map_append]
        rfl
  · obtain ⟨x, y, rfl, rfl⟩ := hp
    rw [List.length_map, List.take_length]
    refine ⟨Nat.le_refl _, rfl, ?_⟩
    exact q
def S_w_all_words : FS := fun xs mu Q => ∃ (l : List Nat) (k : Nat), xs = [.dat (.str l), .dat (.int (k : Int))] ∧ mu = [] ∧ l.length ≤ 3 ∧ k ≤ 6 ∧ Q (.new (.lst ((allW l k).map D.str))) []
theorem len_w_all_words : ∀ xs mu Q, S_w_all_words xs mu Q → xs.length = 2 := fun xs mu Q h => by
  obtain ⟨_, _, rfl, _⟩ := h
  rfl
/- slots of w_all_words: 0 letters_here, 1 most, 2 found, 3 here, 4 turn, 5 word_here, 6 letter -/
def t_w_all_words : DS :=
  (dSeq (dSet 2 (dNew (fLst (aCons (dC (.str (lit ""))) aNil))))
  (dSeq (dSet 3 (dFrz (fLst (aCons (dC (.str (lit ""))) aNil))))
  (dSeq (dFor (iRg1 (aCons (dVar 1) aNil)) (dgN 4)
  (dSeq (dSet 3 (dFrz (fLc (iDat (dCall S_w_pairs (aCons (dVar 3) (aCons (dVar 0) aNil)))) (dgTup 2 (dgCons (dgN 5) (dgCons (dgN 6) dgNil))) dYes (dOp dAdd (dVar 5) (dVar 6)) [5, 6])))
  (dDrop (dBM "list" dExtend (dVar 2) (aCons (dVar 3) aNil)))))
  (dRet (dVar 2)))))
theorem rd_w_all_words : Body t_w_all_words ["_law_letters_here", "_law_most", "_law_found", "_law_here", "_law_turn", "_law_word_here", "_law_letter"] S_w_all_words := fun xs mu Q h => by
  obtain ⟨l, k, rfl, rfl, hl, hk, q⟩ := h
  have few : ∀ i, i ≤ 6 → (allW l i).length ≤ 2187 := fun i hi => by
    have h2 := len_allW hl i
    have h3 : (3 : Nat) ^ (i + 1) ≤ 3 ^ 7 := Nat.pow_le_pow_right (by omega) (by omega)
    have h4 : (3 : Nat) ^ 7 = 2187 := by decide
    omega
  have fewL : ∀ i, i ≤ 6 → (lev l i).length ≤ 2187 := fun i hi => by
    have h1 := few i hi
    cases i with
    | zero => exact h1
    | succ i =>
      unfold allW at h1
      rw [List.length_append] at h1
      omega
  refine ⟨by show 1 ≤ 1000; omega, ?_⟩
  refine ⟨by show 1 ≤ 1000; omega, ?_⟩
  have ek : ((k : Nat) : Int).toNat = k := by omega
  refine ⟨by omega, by omega, ?_⟩
  rw [ek]
  refine for_inv (fun i rho mu => ∃ x y z, mu = [.lst ((allW l i).map D.str)] ∧ rho = [some (.dat (.str l)), some (.dat (.int (k : Int))), some (.cel 0), some (.dat (.lst ((lev l i).map D.str))), x, y, z]) ⟨none, none, none, by show [MC.lst [D.str (lit "")]] = _; rw [lit_nil]; rfl, by show [_, _, _, some (DV.dat (.lst [D.str (lit "")])), _, _, _] = _; rw [lit_nil]; rfl⟩ (fun i d rho mu K hd hp ke => ?_) (fun rho mu hp => ?_)
  · obtain ⟨x, y, z, rfl, rfl⟩ := hp
    obtain ⟨rfl, hi⟩ := rng_at hd
    refine ⟨rfl, lev l i, l, rfl, rfl, by omega, by have := fewL i (by omega); omega, ?_⟩
    have hpl := pairsL_len (lev l i) l
    have hb : (lev l i).length * l.length ≤ 2187 * 3 := Nat.mul_le_mul (fewL i (by omega)) hl
    refine comp_inv (fun j acc mu => mu = [.lst ((allW l i).map D.str)] ∧ acc = (((pairsL (lev l i) l).take j).map fun p => p.1 ++ [p.2]).map D.str) ⟨rfl, rfl⟩ (fun j d acc mu K hd hp ke2 => ?_) (fun acc mu hp => ?_)
    · obtain ⟨rfl, rfl⟩ := hp
      rw [List.getElem?_map] at hd
      cases hpj : (pairsL (lev l i) l)[j]? with
      | none => rw [hpj] at hd; cases hd
      | some p =>
        rw [hpj] at hd
        have hd := (Option.some.inj hd).symm
        subst hd
        have hj := (List.getElem?_eq_some_iff.mp hpj).1
        have hm := List.mem_of_getElem? hpj
        have pl : p.1.length = i := by
          unfold pairsL at hm
          obtain ⟨w, hw, hp⟩ := List.mem_flatMap.mp hm
          obtain ⟨c, _, rfl⟩ := List.mem_map.mp hp
          exact (mem_lev.mp hw).1
        refine ⟨rfl, ?_⟩
        refine ⟨by show p.1.length + 1 ≤ 100000; omega, ?_⟩
        refine ⟨by rw [List.length_map, List.length_map, List.length_take]; omega, ke2 _ _ ⟨rfl, ?_⟩⟩
        rw [List.take_add_one, hpj, List.map_append, List.map_append]
        rfl
    · obtain ⟨rfl, rfl⟩ := hp
      rw [List.length_map, List.take_length, pairsL_lev]
      refine ⟨rfl, ?_⟩
      have f1 := few i (by omega)
      have f2 := fewL (i + 1) (by omega)
      refine ⟨by rw [List.length_map, List.length_map]; omega, ?_⟩
      refine ke _ _ ⟨_, _, _, ?_, rfl⟩
      rw [allW, List.map_append]
      rfl
  · obtain ⟨x, y, z, rfl, rfl⟩ := hp
    rw [rng_len]
    refine ⟨Nat.le_refl _, rfl, ?_⟩
    exact q
def S_w_due_words : FS := fun xs mu Q => ∃ (l t : List Nat) (k : Nat), xs = [.dat (.str l), .dat (.str t), .dat (.int (k : Int))] ∧ mu = [] ∧ l.length ≤ 3 ∧ l.Nodup ∧ (∀ c ∈ l, c < 1114112) ∧ (∀ c ∈ t, c ∈ l) ∧ k ≤ 6 ∧ t.length ≤ 1000 ∧ ∀ ys, WordsOf t k ys → Q (.new (.lst (ys.map D.str))) []
theorem len_w_due_words : ∀ xs mu Q, S_w_due_words xs mu Q → xs.length = 3 := fun xs mu Q h => by
  obtain ⟨_, _, _, rfl, _⟩ := h
  rfl
/- slots of w_due: 0 letters_here, 1 text, 2 k, 3 word_here -/
def t_w_due_words : DS :=
  (dRetF (fLc (iDat (dFrz (fSortKey (dCall S_w_all_words (aCons (dVar 0) (aCons (dVar 2) aNil)))))) (dgN 3) (dTest (dCall S_w_spread (aCons (dVar 3) (aCons (dVar 1) aNil)))) (dVar 3) [3]))
theorem rd_w_due_words : Body t_w_due_words ["_law_letters_here", "_law_text", "_law_k", "_law_word_here"] S_w_due_words := fun xs mu Q h => by
  obtain ⟨l, t, k, rfl, rfl, hl, nd, lo, tc, hk, ht, q⟩ := h
  have to : ∀ c ∈ t, c < 1114112 := fun c hc => lo c (tc c hc)
  refine ⟨rfl, l, k, rfl, rfl, hl, hk, ?_⟩
  refine on_some (a := allW l k) (toSs_of _) ?_
  have hw : ∀ w ∈ allW l k, w.length ≤ k ∧ ∀ c ∈ w, c ∈ l := fun w hm => mem_allW.mp hm
  have few := few_words hl hk (nodup_allW nd k) hw
  refine ⟨by omega, fun w hm => by have := (hw w hm).1; omega, fun ys pm so => ?_⟩
  have yl := pm.length_eq
  refine comp_inv (fun i acc mu => mu = [] ∧ acc = ((ys.take i).filter fun w => sub w t).map D.str) ⟨rfl, rfl⟩ (fun i d acc mu K hd hp ke => ?_) (fun acc mu hp => ?_)
  · obtain ⟨rfl, rfl⟩ := hp
    obtain ⟨w, rfl, hwi⟩ := str_at2 hd
    have hi := (List.getElem?_eq_some_iff.mp hwi).1
    obtain ⟨w1, w2⟩ := hw w (pm.mem_iff.mp (List.mem_of_getElem? hwi))
    have cl := List.length_filter_le (fun w => sub w t) (ys.take i)
    rw [List.length_take] at cl
    refine ⟨rfl, w, t, rfl, rfl, by omega, ht, fun c hc => lo c (w2 c hc), to, ?_⟩
    show if sub w t = true then _ else _
    by_cases z : sub w t = true
    · rw [if_pos z]
      refine ⟨by rw [List.length_map]; omega, ke _ _ ⟨rfl, ?_⟩⟩
      rw [List.take_add_one, hwi, List.filter_append, List.map_append, Option.toList_some, List.filter_cons_of_pos (by exact z)]
      rfl
    · rw [if_neg z]
      refine ke _ _ ⟨rfl, ?_⟩
      rw [List.take_add_one, hwi, List.filter_append, Option.toList_some, List.filter_cons_of_neg (by exact z), List.filter_nil, List.append_nil]
  · obtain ⟨rfl, rfl⟩ := hp
    rw [List.length_map, List.take_length]
    refine q _ ⟨List.Pairwise.filter _ so, (pm.nodup_iff.mpr (nodup_allW nd k)).filter _, fun w => ?_⟩
    rw [List.mem_filter, pm.mem_iff, mem_allW]
    refine ⟨fun h => ⟨(sub_iff _ _).mp h.2, h.1.1⟩, fun h => ⟨⟨h.2, fun c hc => tc c (h.1.subset hc)⟩, (sub_iff _ _).mpr h.1⟩⟩
theorem words_plain {n : Nat} {ys : List (List Nat)} (h : ∀ w ∈ ys, ∀ c ∈ w, c < 1114112) : plainDs n (ys.map D.str) = true := plains_of fun d hd => by
  obtain ⟨w, hw, rfl⟩ := List.mem_map.mp hd
  have : w.all (· < 0x110000) = true := List.all_eq_true.mpr fun c hc => decide_eq_true (h w hw c hc)
  cases n <;> (rw [plainD]; exact this)
end Dx

namespace Dx
open PySem PySem.Spec PyProof.Rows L2
open Evl (Ex)
variable [Tb]

/-! ### turned about: s[::-1], xs[::-1] -/
def tRevS (te : TE) : TE := fun σ H Q => te σ H fun x H1 => ∃ a : Str, x = .str a ∧ a.length ≤ 100000 ∧ Q (.str (mkS a.cps.toList.reverse)) H1
theorem rev_made (x : Str) (u : Tok) : ((Builtin.Str.strSliceIndices none none (-1) x.length).filterMap (x.cps[·]?)) = x.cps.toList.reverse := by
  rw [picked_rev, filterMap_get, List.map_map]
  · refine List.ext_getElem? fun i => ?_
    rw [List.getElem?_map]
    have hl : x.cps.toList.length = x.length := rfl
    by_cases hi : i < x.length
    · rw [List.getElem?_range hi, List.getElem?_reverse (by rw [hl]; exact hi), hl]
      have h2 : x.length - 1 - i < x.cps.size := by show _ < x.length; omega
      show some (x.cps.getD (x.length - 1 - i) 0) = _
      rw [Array.getElem?_toList]
      simp [Array.getD, h2]
    · rw [List.getElem?_eq_none (by rw [List.length_range]; omega), List.getElem?_eq_none (by rw [List.length_reverse, hl]; omega)]
      rfl
  · intro i hi
    obtain ⟨k, hk, rfl⟩ := List.mem_map.mp hi
    have hk' : k < x.length := List.mem_range.mp hk
    show x.length - 1 - k < x.length
    omega
section
variable {X : Cx} {e : Expr} {te : DE} {k : Nat} {p1 p2 p3 pos : Pos}
theorem pe_revS {te : TE} (he : PE X e te) : PE X (.Subscript e (.Slice none none (some (.UnaryOp .USub (.Constant (.int 1) k p1) p2)) p3) pos) (tRevS te) := by
  refine ⟨fun pins s σ H Q I h => ?_⟩
  refine Subscript_ (thn (he.run pins s σ H _ I h) fun v s1 ⟨x, H1, I1, r1, q1⟩ => ?_)
  obtain ⟨a, ex, ha, q⟩ := q1
  subst ex
  obtain ⟨t, rfl⟩ := r1
  have hst : PO X (some (.UnaryOp .USub (.Constant (.int 1) k p1) p2)) (tPart (tUn (rU fun i => .int (-i)) (tC (.int 1)))) := po_some (pe_un un_neg pe_int)
  refine wpAny_Slice (thn (po_none.run pins s1 σ H1 (fun o H2 => o = none ∧ H2 = H1) I1 ⟨rfl, rfl⟩) fun vl s2 ⟨l, H2, I2, pl, el, e2⟩ => ?_)
  subst el e2
  refine thn (po_none.run pins s2 σ H2 (fun o H3 => o = none ∧ H3 = H2) I2 ⟨rfl, rfl⟩) fun vu s3 ⟨u, H3, I3, pu, eu, e3⟩ => ?_
  subst eu e3
  refine thn (hst.run pins s3 σ H3 (fun o H4 => o = some (-1) ∧ H4 = H3) I3 ⟨1, rfl, -1, rfl, rfl, rfl⟩) fun vs s4 ⟨o, H4, I4, ps, eo, e4⟩ => ?_
  subst eo e4
  cases pl
  cases pu
  cases ps with
  | int _ tk =>
    have I5 : Inv X pins σ H4 { s4 with heap := s4.heap.push { cls := .type "slice", data := .fields #[.none, .none, .int (-1) tk] } } := I4.kept (t' := s4.toks) fun b ob q => Heap.get?_push_of_some _ q
    show wpAny (model X.prog X.w) X.A (subscriptTail e (.Slice none none (some (.UnaryOp .USub (.Constant (.int 1) k p1) p2)) p3) (.str a t) (.ref s4.heap.objs.size)) (EP X pins σ Q) X.xe { s4 with heap := s4.heap.push { cls := .type "slice", data := .fields #[.none, .none, .int (-1) tk] } }
    refine tail_any (ops := [.str a t, .ref s4.heap.objs.size]) (typeIs_str _ a t) (PySem.F.slot_str_getitem.lookup) ?_ (by with_unfolding_all rfl)
    refine wpAny_getItem_str_slice (l := none) (u := none) (st := some (-1, tk)) ⟨_, Heap.get?_push_size _ rfl, rfl, rfl⟩ rfl ?_
    have e : ((PySem.slicePicked a none none (some (-1, tk))).filterMap (a.cps[·]?)) = a.cps.toList.reverse := rev_made a tk
    show (Made.str ⟨((PySem.slicePicked a none none (some (-1, tk))).filterMap (a.cps[·]?)).toArray⟩).post _ _
    rw [e]
    refine ⟨?_, ⟨.str (mkS a.cps.toList.reverse), H4, I5.tok _, ⟨_, rfl⟩, q⟩⟩
    show a.cps.toList.reverse.toArray.size ≤ sizeLine
    rw [List.size_toArray, List.length_reverse]
    exact Evl.sz_of ha
def dRevS (te : DE) : DE := fun rho mu Q => te rho mu fun x mu1 => onS x fun s => s.length ≤ 100000 ∧ Q (.dat (.str s.reverse)) mu1
theorem ce_revS {te : DE} (he : CE X e te) : CE X (.Subscript e (.Slice none none (some (.UnaryOp .USub (.Constant (.int 1) k p1) p2)) p3) pos) (dRevS te) := by
  obtain ⟨_, p, g⟩ := he.ok
  refine ⟨_, pe_revS p, fun F al rho mu σ H Q R S q l => g F al rho mu σ H _ _ S q fun F1 al1 x mu1 v H1 E1 C1 r1 q1 => ?_⟩
  obtain ⟨s, ex, ev, q2⟩ := onS_out q1 r1
  refine ⟨mkS s, ev, by rw [mkS_len]; exact q2.1, ?_⟩
  exact l F1 al1 _ mu1 _ H1 E1 C1 (rv_str) q2.2
def fRevL (te : DE) : DF := fun rho mu Q => te rho mu fun x mu1 => onSome (seqL mu1 x) fun ds => Q (.lst ds.reverse) mu1
theorem cf_revL {te : DE} (he : CE X e te) : CF X (.Subscript e (.Slice none none (some (.UnaryOp .USub (.Constant (.int 1) k p1) p2)) p3) pos) (fRevL te) := by
  obtain ⟨_, p, g⟩ := he.ok
  refine ⟨_, pe_revL p, fun F al rho mu σ H Q R S q l => g F al rho mu σ H _ _ S q fun F1 al1 x mu1 v H1 E1 C1 r1 q1 => ?_⟩
  obtain ⟨ds, h1, q2⟩ := onSome_out q1
  obtain ⟨a, vs, ev, hp, rl⟩ := seqL_out C1 r1 h1
  refine ⟨a, vs, ev, .inl (.inl hp), fun n hn => ?_⟩
  exact l F1 al1 (.lst ds.reverse) mu1 n _ (E1.trans (Ext.loose hn)) (C1.loose hn) (C1.not_al hn) (none_back (E1.dm n) hn) rfl ⟨ex_none C1.ex hn, _, upd_same, rl.rev⟩ q2
end
/-! ### is True, is not True -/
def onBB (x y : DV) (k : Bool → Bool → Prop) : Prop := match x, y with
  | .dat (.bl a), .dat (.bl b) => k a b
  | _, _ => False
theorem onBB_out {F : Hp} {al : List Addr} {x y : DV} {v u : V} {k : Bool → Bool → Prop} (h : onBB x y k) (rx : RepV F al x v) (ry : RepV F al y u) : ∃ a b, v = .bl a ∧ u = .bl b ∧ k a b := by
  unfold onBB at h
  split at h
  · have r1 : Rep F (.bl _) v := rx
    have r2 : Rep F (.bl _) u := ry
    rw [Rep] at r1 r2
    exact ⟨_, _, r1, r2, h⟩
  · exact h.elim
def dIsB : D2 := fun x y mu Q => onBB x y fun a b => Q (.dat (.bl (decide (a = b)))) mu
def dNotB : D2 := fun x y mu Q => onBB x y fun a b => Q (.dat (.bl (!decide (a = b)))) mu
theorem oIsB {X : Cx} : OpD X (compareOp .Is) dIsB := ⟨_, op_isBl, fun F al mu H x y v u Q R c rx ry q l => by
  obtain ⟨a, b, e1, e2, q⟩ := onBB_out q rx ry
  exact ⟨a, b, e1, e2, l F al _ mu _ H Ext.refl c rv_bl q⟩⟩
theorem oNotB {X : Cx} : OpD X (compareOp .IsNot) dNotB := ⟨_, op_notBl, fun F al mu H x y v u Q R c rx ry q l => by
  obtain ⟨a, b, e1, e2, q⟩ := onBB_out q rx ry
  exact ⟨a, b, e1, e2, l F al _ mu _ H Ext.refl c rv_bl q⟩⟩
end Dx

namespace Dx
open PySem PySem.Spec PyProof.Rows L2
open Evl (Ex)
variable [Tb]

/-! ### ways in a text and another one behind it -/
def splitSum (g : List Nat → List Nat → Nat) : List Nat → Nat
  | [] => g [] []
  | a :: w => g [] (a :: w) + splitSum (fun p s => g (a :: p) s) w
theorem split_range (w : List Nat) : ∀ (g : List Nat → List Nat → Nat), splitSum g w = ((List.range (w.length + 1)).map fun j => g (w.take j) (w.drop j)).sum := by
  induction w with
  | nil => intro g; simp [splitSum, List.range_succ]
  | cons a w ih =>
    intro g
    unfold splitSum
    rw [ih, List.length_cons, List.range_succ_eq_map (n := w.length + 1), List.map_cons, List.sum_cons, List.map_map]
    rfl
theorem split_add (w : List Nat) : ∀ (g h : List Nat → List Nat → Nat), splitSum (fun p s => g p s + h p s) w = splitSum g w + splitSum h w := by
  induction w with
  | nil => intro g h; rfl
  | cons a w ih =>
    intro g h
    show g [] (a :: w) + h [] (a :: w) + splitSum (fun p s => g (a :: p) s + h (a :: p) s) w = _
    rw [ih (fun p s => g (a :: p) s) (fun p s => h (a :: p) s)]
    show _ = (g [] (a :: w) + splitSum (fun p s => g (a :: p) s) w) + (h [] (a :: w) + splitSum (fun p s => h (a :: p) s) w)
    omega
theorem split_zero (w : List Nat) : splitSum (fun _ _ => 0) w = 0 := by
  induction w with
  | nil => rfl
  | cons a w ih => show 0 + splitSum (fun _ _ => 0) w = 0; rw [ih]
theorem cnt_app : ∀ (t w u : List Nat), cnt w (t ++ u) = splitSum (fun p s => cnt p t * cnt s u) w
  | [], [], u => by
    show cnt [] u = cnt [] [] * cnt [] u
    rw [cnt_nil, cnt_nil]
  | [], a :: w, u => by
    show cnt (a :: w) u = cnt [] [] * cnt (a :: w) u + splitSum (fun p s => cnt (a :: p) [] * cnt s u) w
    have e : (fun p s => cnt (a :: p) [] * cnt s u) = fun _ _ => 0 := funext fun p => funext fun s => by rw [cnt_end, Nat.zero_mul]
    rw [e, split_zero, cnt_nil, Nat.one_mul, Nat.add_zero]
  | c :: t, [], u => by
    show cnt [] (c :: (t ++ u)) = cnt [] (c :: t) * cnt [] u
    rw [cnt_nil, cnt_nil, cnt_nil]
  | c :: t, a :: w, u => by
    have i1 := cnt_app t w u
    have i2 := cnt_app t (a :: w) u
    have i2 : cnt (a :: w) (t ++ u) = cnt [] t * cnt (a :: w) u + splitSum (fun p s => cnt (a :: p) t * cnt s u) w := i2
    show cnt (a :: w) (c :: (t ++ u)) = cnt [] (c :: t) * cnt (a :: w) u + splitSum (fun p s => cnt (a :: p) (c :: t) * cnt s u) w
    have e : (fun p s => cnt (a :: p) (c :: t) * cnt s u) = fun p s => (if a = c then cnt p t * cnt s u else 0) + cnt (a :: p) t * cnt s u := funext fun p => funext fun s => by
      rw [cnt_cons, Nat.add_mul]
      split <;> simp
    rw [e, split_add w (fun p s => if a = c then cnt p t * cnt s u else 0), cnt_cons, i2, cnt_nil, cnt_nil]
    by_cases h : a = c
    · simp only [if_pos h]
      rw [i1]
      omega
    · simp only [if_neg h]
      rw [split_zero]
      omega
theorem cnt_le : ∀ (w t : List Nat), cnt w t ≤ 2 ^ t.length
  | [], t => by rw [cnt_nil]; exact Nat.one_le_two_pow
  | a :: w, [] => by rw [cnt_end]; exact Nat.zero_le _
  | a :: w, b :: t => by
    have h1 := cnt_le w t
    have h2 := cnt_le (a :: w) t
    rw [cnt_cons, List.length_cons, Nat.pow_succ]
    split <;> omega
/-- the letters at the places are the word -/
theorem places_at : ∀ {w t : List Nat} {k : Nat} {l : List Nat}, placesF w t k = some l → l.map (fun i => t[i]?) = w.map some
  | [], t, k, l, h => by cases h; rfl
  | c :: w, t, k, l, h => by
    rw [placesF_cons] at h
    cases e : findFrom t c k with
    | none => rw [e] at h; cases h
    | some i =>
      rw [e] at h
      have h2 : (placesF w t (i + 1)).map (i :: ·) = some l := h
      cases e2 : placesF w t (i + 1) with
      | none => rw [e2] at h2; cases h2
      | some r =>
        rw [e2] at h2
        have := Option.some.inj h2
        subst this
        rw [List.map_cons, List.map_cons, places_at e2, (find_some e).2.2.1]
/-- the words of a text and another one behind it -/
theorem words_app {t u : List Nat} {k : Nat} {ys zs : List (List Nat)} {us : List (List Nat)} (hy : WordsOf t k ys) (hz : WordsOf u k zs) (h : ∀ w, w ∈ us ↔ ∃ v ∈ ys, ∃ x ∈ zs, (v ++ x).length ≤ k ∧ w = v ++ x) (w : List Nat) : w ∈ us ↔ w.Sublist (t ++ u) ∧ w.length ≤ k := by
  rw [h, List.sublist_append_iff]
  refine ⟨fun ⟨v, hv, x, hx, l, e⟩ => ⟨⟨v, x, e, ((hy.2.2 v).mp hv).1, ((hz.2.2 x).mp hx).1⟩, by rw [e]; exact l⟩, fun ⟨⟨v, x, e, hv, hx⟩, l⟩ => ?_⟩
  rw [e] at l
  have l2 := l
  rw [List.length_append] at l2
  exact ⟨v, (hy.2.2 v).mpr ⟨hv, by omega⟩, x, (hz.2.2 x).mpr ⟨hx, by omega⟩, l, e⟩
theorem words_rev {t : List Nat} {k : Nat} {ys zs : List (List Nat)} (hy : WordsOf t k ys) (pm : zs.Perm (ys.map List.reverse)) (so : OrdW zs) : WordsOf t.reverse k zs := by
  have nd : (ys.map List.reverse).Nodup := by
    show List.Pairwise _ _
    rw [List.pairwise_map]
    exact hy.2.1.imp fun {a b} h e => h (List.reverse_inj.mp e)
  refine ⟨so, pm.nodup_iff.mpr nd, fun w => ?_⟩
  rw [pm.mem_iff, List.mem_map]
  refine ⟨fun ⟨v, hv, e⟩ => ?_, fun ⟨h1, h2⟩ => ⟨w.reverse, (hy.2.2 _).mpr ⟨?_, by rw [List.length_reverse]; exact h2⟩, List.reverse_reverse w⟩⟩
  · have := (hy.2.2 v).mp hv
    rw [← e]
    exact ⟨List.reverse_sublist.mpr this.1, by rw [List.length_reverse]; exact this.2⟩
  · have := h1.reverse
    rwa [List.reverse_reverse] at this
end Dx

namespace Dx
open PySem PySem.Spec PyProof.Rows L2 PySem.Froz
open Evl (Ex)
variable [Tb]

/-! ### sets of texts -/
structure TxR (P : Program) (w : World) (D : SD) (l : List Str) : Prop where
  ok : TxOk P w D l
  ris : Ris D.2.2.place.toList
  led : w.params.followText "set-order" = true ∨ D.2.2.led = true
  nd : l.Nodup
theorem tail_place {w : World} {ep : Nat} {es1 : Array (Int × Value)} {t2 : SetTable} {d : Bool} (r : Ris t2.place.toList) (l : w.params.followText "set-order" = true ∨ t2.led = true) :
    Ris (tailTx ep es1 t2 d).2.2.place.toList ∧ (w.params.followText "set-order" = true ∨ (tailTx ep es1 t2 d).2.2.led = true) := by
  unfold tailTx
  by_cases c : (!d && t2.tooFull) = true
  · rw [if_pos c]
    exact ⟨relayAll_ris _ _ _, l.imp id fun z => (relayAll_led _ _ _).trans z⟩
  · rw [if_neg c]
    exact ⟨r, l⟩
theorem TxR.add {P : Program} {w : World} {D : SD} {l : List Str} {k : Str} (u : Tok) (R : TxR P w D l) (hk : k ∉ l) : TxR P w (addTx (hashStr w k) (.str k u) D) (k :: l) := by
  have h1 := layNew_ris D.2.2 D.1 (hashStr w k) (.str k u) R.ris
  have h2 := layNew_led D.2.2 D.1 (hashStr w k) (.str k u)
  have h3 : Ris (if (layNew D.2.2 D.1 (hashStr w k) (.str k u)).2.1.plain = true then { (layNew D.2.2 D.1 (hashStr w k) (.str k u)).2.1 with plain := false } else (layNew D.2.2 D.1 (hashStr w k) (.str k u)).2.1).place.toList ∧
      (w.params.followText "set-order" = true ∨ (if (layNew D.2.2 D.1 (hashStr w k) (.str k u)).2.1.plain = true then { (layNew D.2.2 D.1 (hashStr w k) (.str k u)).2.1 with plain := false } else (layNew D.2.2 D.1 (hashStr w k) (.str k u)).2.1).led = true) := by
    split
    · exact ⟨h1, R.led.imp id fun z => h2.trans z⟩
    · exact ⟨h1, R.led.imp id fun z => h2.trans z⟩
  have h4 := tail_place (ep := D.2.1) (es1 := (layNew D.2.2 D.1 (hashStr w k) (.str k u)).1) (d := (layNew D.2.2 D.1 (hashStr w k) (.str k u)).2.2.1) h3.1 h3.2
  exact ⟨add_ok u R.ok, h4.1, h4.2, List.nodup_cons.mpr ⟨hk, R.nd⟩⟩
section
variable {P : Program} {w : World} {A : Around} {E : Value → Shared → Prop} {s : Shared} {a : Addr} {D : SD} {l : List Str} {k : Str} {u : Tok}
theorem add_old {Q : Bool → Shared → Prop} (ho : s.heap.get? a = some (sObj "set" D)) (F : TxOk P w D l) (hk : k ∈ l) (hb : l.length < scanBound) (h : Q false s) : wpAny (model P w) A (setAddHashed a (.str k u) (hashStr w k)) Q E s := by
  obtain ⟨es, ep, t⟩ := D
  have hdt : (sObj "set" (es, ep, t)).data = .set es ep t := rfl
  have hel : ElemsOf (strKind P w) es.toList := F.el
  have hsz : es.size = l.length := F.sz
  obtain ⟨e, he, hie⟩ := (F.mem k).mp hk
  unfold setAddHashed setAddHashedIn
  refine wpAny_holding (wpAny_bind (wpAny_setState_of ho hdt F.fit ?_))
  dsimp only
  rw [byScan_of rfl (by omega) hel]
  simp only [↓reduceIte]
  unfold setAddByScan
  refine wpAny_bind (wpAny_bind (wpAny_rule ?_))
  refine wpAny_bind (wpAny_setScan_of (knd := strKind P w) (k := k) (is_str k u) ho hdt F.fit hel ?_)
  cases hr : List.findIdx? (fun e => (strKind P w).is k e.2) es.toList with
  | none =>
    have := List.findIdx?_eq_none_iff.mp hr e he
    rw [hie] at this
    cases this
  | some j =>
    dsimp only
    exact wpAny_pure (wpAny_pure h)
/-- a sign into the set -/
theorem sign_in {Q : Bool → Shared → Prop} (ho : s.heap.get? a = some (sObj "set" D)) (R : TxR P w D l) (hb : l.length + 1 < scanBound)
    (h : ∀ (b : Bool) (D' : SD) (l' : List Str) (h' : Heap), h'.get? a = some (sObj "set" D') → TxR P w D' l' → (∀ y, y ∈ l' ↔ y ∈ l ∨ y = k) → l'.length ≤ l.length + 1 → Heap.SameBut a s.heap h' → Q b { s with heap := h', toks := s.toks + 1 }) :
    wpAny (model P w) A (setAdd a (.str k u)) Q E s := by
  unfold setAdd
  refine wpAny_holding ?_
  refine wpAny_bind ((strKind P w).pyHash (k := k) (is_str k u) ?_)
  by_cases hk : k ∈ l
  · refine add_old (s := { s with toks := s.toks + 1 }) ho R.ok hk (by omega) ?_
    exact h _ D l s.heap ho R (fun y => ⟨.inl, fun z => z.elim id fun e => e ▸ hk⟩) (Nat.le_succ _) (Heap.SameBut.refl a s.heap)
  · refine add_x (s := { s with toks := s.toks + 1 }) ho R.ok hk hb ?_
    refine h _ _ (k :: l) _ (get_upd _ ho rfl) (R.add u hk) (fun y => ?_) (Nat.le_refl _) (Heap.SameBut.update s.heap a _)
    rw [List.mem_cons]
    exact Or.comm
end
section
variable {P : Program} {w : World} {A : Around} {a : Addr} {R : Result → Shared → Prop}
def SignsOf (x : Str) (i : Nat) (l : List Str) : Prop := ∀ y, y ∈ l ↔ ∃ c ∈ x.cps.toList.take i, y = sing c
theorem txt_update {x : Str} {I : Addr} {fp wr : List Addr} {n : Nat} {St : Nat → Heap → Prop} (W : Walks P w A.in1 I fp wr n (SignAt x) St) (hn : n = x.cps.size) (haf : a ∉ fp) (hb : n + 1 < scanBound) :
    ∀ (m i : Nat) (s : Shared) (D : SD) (l : List Str), n - i = m → i ≤ n → St i s.heap → s.heap.get? a = some (sObj "set" D) → TxR P w D l → SignsOf x i l → l.length ≤ i →
      (∀ h' tk (D' : SD) (l' : List Str), h'.get? a = some (sObj "set" D') → TxR P w D' l' → SignsOf x n l' → l'.length ≤ n → (∀ b o, b ∉ wr → b ≠ a → s.heap.get? b = some o → h'.get? b = some o) → R (.ok (.ret .none)) { s with heap := h', toks := tk }) →
      codeAny (model P w) A (.builtin "set.update.loop" ⟨[.ref a, .ref I], []⟩) R s := by
  have haw : a ∉ wr := fun z => haf (W.sub _ z)
  intro m
  induction m with
  | zero =>
    intro i s D l hm hi hst ho hR hS hl q
    have hin : i = n := by omega
    subst hin
    refine codeAny_builtin F.entry_set_update_loop ?_
    rw [Around.under_plainId F.plain_set_update_loop _]
    show wpAny _ A.in1 (pyNext (.ref I) >>= _) _ _ s
    refine wpAny_bind (W.done s _ _ hst fun h' tk hk => ?_)
    show wpAny _ A.in1 (ret Value.none) _ _ _
    exact wpAny_pure (q h' tk D l (hk a _ haw ho) hR hS hl fun b o b1 _ e => hk b o b1 e)
  | succ m ih =>
    intro i s D l hm hi hst ho hR hS hl q
    have hlt : i < n := by omega
    refine codeAny_builtin F.entry_set_update_loop ?_
    rw [Around.under_plainId F.plain_set_update_loop _]
    show wpAny _ A.in1 (pyNext (.ref I) >>= _) _ _ s
    refine wpAny_bind (W.item i s _ _ hlt hst fun v h1 tk hP hst1 hk => ?_)
    obtain ⟨c, t, hc, rfl⟩ := hP
    show wpAny _ A.in1 (holding [Value.str (sing c) t] (setAdd a (.str (sing c) t)) >>= _) _ _ _
    refine wpAny_bind (wpAny_holding ?_)
    refine sign_in (s := { s with heap := h1, toks := tk }) (hk a _ haw ho) hR (by omega) fun b D' l' h2 ho2 hR2 hm2 hl2 sb => ?_
    have hst2 : St (i + 1) h2 := W.frame _ _ _ hst1 fun b hb o e => by
      rw [sb.2 b (fun z => haf (z ▸ hb))]
      exact e
    have hci : x.cps.toList[i]? = some c := by
      rw [Array.getElem?_toList]
      exact hc
    refine wpAny_pure ⟨plainId_quiet F.plain_set_update_loop _, ih (i + 1) _ D' l' (by omega) hlt hst2 ho2 hR2 (fun y => ?_) (by omega) fun h3 tk3 D3 l3 o3 r3 s3 n3 k3 => q h3 tk3 D3 l3 o3 r3 s3 n3 fun b o b1 b2 e => k3 b o b1 b2 ?_⟩
    · rw [hm2, hS y, List.take_add_one, hci]
      refine ⟨fun z => ?_, fun ⟨d, hd, e⟩ => ?_⟩
      · rcases z with ⟨d, hd, e⟩ | e
        · exact ⟨d, List.mem_append_left _ hd, e⟩
        · exact ⟨c, by simp, e⟩
      · rcases List.mem_append.mp hd with z | z
        · exact .inl ⟨d, z, e⟩
        · have e2 : d = c := by simpa using z
          rw [e2] at e
          exact .inr e
    · show h2.get? b = some o
      rw [sb.2 b b2]
      exact hk b o b1 e
end
/-- a set as it is made -/
def newS (w : World) : SD := (#[], 0, .fresh 0 0 (!w.params.followText "set-order"))
theorem newS_ok (P : Program) (w : World) : TxR P w (newS w) [] := ⟨TxOk.nil rfl, List.Pairwise.nil, by
  show _ ∨ (!w.params.followText "set-order") = true
  cases w.params.followText "set-order"
  · exact .inr rfl
  · exact .inl rfl, .nil⟩
section
variable {P : Program} {w : World} {A : Around} {E : Value → Shared → Prop} {s : Shared}
set_option maxHeartbeats 8000000 in
/-- set(text) -/
theorem call_set_txt {x : Str} {u : Tok} {Q : Value → Shared → Prop} (hh : A.handled = none) (hb : x.cps.size + 1 < scanBound)
    (q : ∀ (h' : Heap) (tk : Nat) (D : SD) (l : List Str), h'.get? s.heap.objs.size = some (sObj "set" D) → TxR P w D l → SignsOf x x.cps.size l → l.length ≤ x.cps.size → (∀ b o, s.heap.get? b = some o → h'.get? b = some o) → Q (.ref s.heap.objs.size) { s with heap := h', toks := tk }) :
    wpAny (model P w) A (call (.type "set") [.str x u]) Q E s := by
  obtain ⟨c, tl, hmro⟩ := F.called_set.mro
  have hmade := F.called_set.made
  have hsub := F.called_set.sub
  refine wpAny_call (codeAny_of_tree ?_)
  show wpAny _ _ (callAny (.type "set") _) _ _ _
  refine wpAny_pure ⟨Code.quiet_builtin _ (by decide +kernel), codeAny_builtin F.entry_type_call ?_⟩
  rw [Around.under_plain (weight_type_call_type "set" [.str x u] []) rfl]
  have h1 := F.called_set.notType
  have h2 := F.called_set.canCreate
  have hct := F.typeCall_set_1 (.str x u)
  repeat (any_goals (first | assumption | wp_step))
  refine codeAny_mono (code_set_led1 (.str x u) (E := E) (Q₁ := fun obj s₁ => obj = .ref s.heap.objs.size ∧ s₁ = { s with heap := s.heap.push (sObj "set" (newS w)) }) ⟨rfl, rfl⟩) fun r s₁ hr => ?_
  cases r with
  | error e => exact hr
  | ok fl =>
    cases fl with
    | ret obj =>
      obtain ⟨rfl, rfl⟩ := hr
      have hS : (s.heap.push (sObj "set" (newS w))).get? s.heap.objs.size = some (sObj "set" (newS w)) := Heap.get?_push_size _ rfl
      have hT : Shared.TypeIs { s with heap := s.heap.push (sObj "set" (newS w)) } (.ref s.heap.objs.size) "set" := ⟨_, hS, rfl⟩
      have hli := F.called_set.init.lookup
      have hbi := F.called_set.init.bind (.ref s.heap.objs.size)
      repeat (any_goals (first | assumption | wp_step))
      have hz : (s.heap.push (sObj "set" (newS w))).objs.size = s.heap.objs.size + 1 := Heap.size_push ..
      refine codeAny_mono (codeAny_call_builtin (R := wants (fun r s₂ => r = .none ∧ ∃ h' tk D l, s₂ = { s with heap := h', toks := tk } ∧ h'.get? s.heap.objs.size = some (sObj "set" D) ∧ TxR P w D l ∧ SignsOf x x.cps.size l ∧ l.length ≤ x.cps.size ∧
          ∀ b o, s.heap.get? b = some o → h'.get? b = some o) E) F.called_set.init.plain F.entry_set_init (check_set_init_1 hT ?_)) fun r₂ s₂ hr₂ => ?_
      · have g1 := PySem.F.sub_str_set
        have g2 := PySem.F.sub_str_frozenset
        have hne : (Value.type "str" == Value.type "dict") = false := by decide
        unfold Builtin.«set.__init__» noKeywords Builtin.Frozenset.updateFrom
        generalize hPI : pyIter = PI
        wp_walk
        subst hPI
        refine wpAny_pyIter_str fun o St W st0 => ?_
        refine wpAny_bind (wpAny_runValue ?_)
        have hh3 : A.in1.in1.in1.handled = none := by simp [hh]
        have n1 : s.heap.objs.size ∉ [(s.heap.push (sObj "set" (newS w))).objs.size] := by
          rw [hz, List.mem_singleton]
          omega
        have none_of : ∀ b, s.heap.objs.size ≤ b → s.heap.get? b = none := fun b hb => by
          cases z : s.heap.get? b with
          | none => rfl
          | some o => exact absurd (Nat.lt_of_lt_of_le (Heap.lt_size z) hb) (Nat.lt_irrefl _)
        refine txt_update (W _ hh3) rfl n1 hb _ 0 _ (newS w) [] rfl (Nat.zero_le _) st0 (Heap.get?_push_of_some _ hS) (newS_ok P w) (fun y => by simp) (Nat.le_refl _) fun h' tk D l o1 r1 s1 l1 k1 => ?_
        show wpAny _ _ _ _ _ _
        refine wpAny_pure ?_
        show wpAny _ _ (ret Value.none) _ _ _
        refine wpAny_pure ⟨rfl, h', tk, D, l, rfl, o1, r1, s1, l1, fun b o e => k1 b o (fun z => ?_) (fun z => ?_) (Heap.get?_push_of_some _ (Heap.get?_push_of_some _ e))⟩
        · rw [List.mem_singleton, hz] at z
          rw [z, none_of _ (by omega)] at e
          cases e
        · rw [z, none_of _ (Nat.le_refl _)] at e
          cases e
      · cases r₂ with
        | error e => exact hr₂
        | ok fl₂ =>
          cases fl₂ with
          | ret r =>
            obtain ⟨rfl, h', tk, D, l, rfl, o1, r1, s1, n1, k1⟩ := hr₂
            repeat (any_goals (first | assumption | wp_step))
            exact q h' tk D l o1 r1 s1 n1 k1
          | _ => exact hr₂.elim
    | _ => exact hr.elim
end
end Dx

namespace Dx
open PySem PySem.Spec PyProof.Rows L2 PySem.Froz
open Evl (Ex)
variable [Tb]

/-! ### sorted(set(text)) -/
theorem perm_of_sub {α : Type} [BEq α] [LawfulBEq α] : ∀ {l m : List α}, l.Nodup → (∀ x ∈ l, x ∈ m) → l.length = m.length → l.Perm m
  | [], m, _, _, h => by rw [List.eq_nil_of_length_eq_zero h.symm]
  | a :: l, m, nd, s, h => by
    have ha := s a (by simp)
    obtain ⟨n1, n2⟩ := List.nodup_cons.mp nd
    have p := List.perm_cons_erase ha
    have hl : (m.erase a).length + 1 = m.length := by
      have := p.length_eq
      rw [List.length_cons] at this
      exact this.symm
    refine ((perm_of_sub n2 (fun x hx => ?_) (by rw [List.length_cons] at h; omega)).cons a).trans p.symm
    exact (List.mem_erase_of_ne (fun e : x = a => n1 (by rw [← e]; exact hx))).mpr (s x (by simp [hx]))
def SetTx (P : Program) (w : World) (a : Addr) (l : List Str) : HO := .ext fun h => ∃ D, h.get? a = some (sObj "set" D) ∧ TxR P w D l
def rSetTx (P : Program) (w : World) : List V → Hp → VK → Prop := fun xs H Q => ∃ x : Str, xs = [.str x] ∧ x.cps.size ≤ 4000 ∧ ∀ a l, H a = none → l.Nodup → SignsOf x x.cps.size l → l.length ≤ x.cps.size → Q (.ref a) (upd H a (SetTx P w a l))
theorem cr_setTx {X : Cx} (hc : X.calm = true) : CallR X (.type "set") (rSetTx X.prog X.w) := by
  intro pins s σ H xs us Q I r h
  obtain ⟨x, rfl, hb, q⟩ := h
  obtain ⟨u, eu, rx⟩ := vals1 r
  subst eu
  obtain ⟨t, rfl⟩ := rx
  have hn : H s.heap.objs.size = none := I.hok.fresh (Nat.le_refl _)
  refine call_set_txt (I.ok.hd hc) (by unfold scanBound; omega) fun h' tk D l o1 r1 s1 l1 k1 => ?_
  refine ⟨.ref s.heap.objs.size, upd H s.heap.objs.size (SetTx X.prog X.w s.heap.objs.size l), I.laid (t' := tk) k1 (Nat.le_refl _) ?_, rfl, q _ l hn r1.nd s1 l1⟩
  exact ⟨⟨D, o1, r1⟩, ⟨_, o1⟩, fun h1 h2 ⟨D', o, r⟩ k => ⟨D', k _ o, r⟩⟩
def rSortedTx (P : Program) (w : World) : List V → Hp → VK → Prop := fun xs H Q => ∃ (a : Addr) (l : List Str), xs = [.ref a] ∧ H a = some (SetTx P w a l) ∧ l.length ≤ 4000 ∧ ∀ ys p, ys.Perm l → sortedS ys = true → H p = none → Q (.ref p) (upd H p (.lst (ys.map V.str)))
theorem cr_sortedTx {X : Cx} (hc : X.calm = true) : CallR X (.builtin "sorted") (rSortedTx X.prog X.w) := by
  intro pins s σ H xs us Q I r h
  obtain ⟨a, l, rfl, ha, hl, q⟩ := h
  rw [Vals.ref1 r]
  obtain ⟨D, ho, R⟩ := (I.hok a _ ha).1
  have hsz : D.1.size = l.length := R.ok.sz
  have hat : SetAt s.heap a D.1 D.2.1 D.2.2 := ⟨_, ho, rfl, rfl⟩
  refine Calls.call_function_entry PyProof.Rows.kind_sorted PyProof.Rows.plain_sorted PyProof.Rows.entry_sorted (PyProof.Rows.args_sorted1 _) ?_
  unfold Builtin.«sorted»
  refine wpAny_bind (m := checkCount "sorted" 1 1 _) (wpAny_pure ?_)
  refine wpAny_bind (collect_set (A := X.A.in1) (I.ok.hd hc) hat R.ok.fit (by unfold scanBound; omega) R.ris R.led fun s' out k gsz gg go pm => ?_)
  have vals : ∀ v ∈ D.1.toList.map (·.2), ∃ y t, v = Value.str y t ∧ y ∈ l := fun v hv => by
    obtain ⟨e, he, rfl⟩ := List.mem_map.mp hv
    obtain ⟨⟨y, hy, _⟩, _⟩ := R.ok.el e he
    obtain ⟨t, et⟩ := Value.isStrOf_shape hy
    exact ⟨y, t, et, (R.ok.mem y).mpr ⟨e, he, hy⟩⟩
  have p0 : l.Perm ((D.1.toList.map (·.2)).map strOf) := perm_of_sub R.nd (fun y hy => by
    obtain ⟨e, he, ie⟩ := (R.ok.mem y).mp hy
    obtain ⟨t, et⟩ := Value.isStrOf_shape ie
    exact List.mem_map.mpr ⟨e.2, List.mem_map.mpr ⟨e, he, rfl⟩, by rw [et]; rfl⟩) (by rw [List.length_map, List.length_map]; exact hsz.symm)
  have p1 : (out.map strOf).Perm l := (pm.map strOf).trans p0.symm
  have hal : out.length = l.length := by rw [← p1.length_eq, List.length_map]
  have hS : StrsAre out (out.map strOf) := by
    have : ∀ o : List Value, (∀ v ∈ o, ∃ y t, v = Value.str y t) → StrsAre o (o.map strOf) := fun o => by
      induction o with
      | nil => intro _; exact .nil
      | cons v r ih =>
        intro h
        obtain ⟨y, t, rfl⟩ := h v (by simp)
        exact .cons _ _ (ih fun v hv => h v (by simp [hv]))
    exact this out fun v hv => by
      obtain ⟨y, t, e, _⟩ := vals v (pm.mem_iff.mp hv)
      exact ⟨y, t, e⟩
  have I1 : Inv X pins σ H s' := I.call' go (Un.kept k) (I.hok.kept k) (by rw [gg]; exact I.bare) (fun b y => absurd y List.not_mem_nil)
  have hl2 : out.length ≤ sizeLine := by rw [hal]; exact Evl.sz_of (by omega)
  refine wpAny_bind (wpAny_newList ?_ hl2)
  have hoL : (s'.heap.push (seqObj "list" out.toArray 0)).get? s'.heap.objs.size = some (seqObj "list" out.toArray 0) := Heap.get?_push_size _ rfl
  show wpAny _ _ _ _ _ { s' with heap := s'.heap.push (seqObj "list" out.toArray 0) }
  refine wpAny_bind (wpAny_holding (wpAny_call_entry PyProof.Rows.slot_list_sort ⟨_, hoL, rfl⟩ PyProof.Rows.entry_list_sort
    (list_sort_treeKAny PyProof.Rows.strKind_oneLt (s := { s' with heap := s'.heap.push (seqObj "list" out.toArray 0) }) hoL hS.keysOf (fun v₁ v₂ rest e => keyKind_strs (by rw [← e]; exact hS)) hl2 fun st' hp hs => ⟨_, rfl, ?_⟩) (PyProof.Rows.args_list_sort _)))
  obtain ⟨ys, g1, g2, g3⟩ := sorted_out_str hS hp hs
  obtain ⟨e', he'⟩ := PyProof.Rows.sortedHeap_at (vs := out) (out := (arrOf st').map (·.2)) hoL
  have hlen : (ys.map V.str).length ≤ sizeLine := by rw [List.length_map, g2.length_eq, List.length_map]; exact hl2
  refine wpAny_pure ⟨_, rfl, .ref s'.heap.objs.size, upd H s'.heap.objs.size (.lst (ys.map V.str)), I1.laid (t' := s'.toks) (fun b u e => ?_) (Nat.le_refl _) ⟨hlen, ((arrOf st').map (·.2)).toList, e', vals_of_strs g1, by rw [Array.toArray_toList]; exact he'⟩, rfl, q ys _ (g2.trans p1) g3 (I1.hok.fresh (Nat.le_refl _))⟩
  have hb : b < s'.heap.objs.size := Heap.lt_size e
  rw [PyProof.Rows.sortedHeap_old (Nat.ne_of_lt hb) (by rw [size_push']; exact Nat.lt_succ_of_lt hb)]
  exact Heap.get?_push_of_some _ e
/-- rising, unlike: the signs of s, each once -/
def SignsIn (s l : List Nat) : Prop := l.Pairwise (· < ·) ∧ ∀ c, c ∈ l ↔ c ∈ s
def fSortSet (te : DE) : DF := fun rho mu Q => te rho mu fun x mu1 => onS x fun s => s.length ≤ 4000 ∧ ∀ l, SignsIn s l → Q (.lst (l.map fun c => D.str [c])) mu1
theorem sing_mk (c : Nat) : sing c = mkS [c] := rfl
theorem signs_list {s : List Nat} {l ys : List Str} (nd : l.Nodup) (h : SignsOf (mkS s) (mkS s).cps.size l) (pm : ys.Perm l) (so : sortedS ys = true) : ∃ cs, ys = (cs.map fun c => [c]).map mkS ∧ SignsIn s cs := by
  have all : ∀ y ∈ ys, ∃ c ∈ s, y = mkS [c] := fun y hy => by
    obtain ⟨c, hc, e⟩ := (h y).mp (pm.mem_iff.mp hy)
    exact ⟨c, List.mem_of_mem_take hc, e⟩
  obtain ⟨cs, ec⟩ : ∃ cs : List Nat, ys = (cs.map fun c => [c]).map mkS := by
    clear pm so
    induction ys with
    | nil => exact ⟨[], rfl⟩
    | cons y r ih =>
      obtain ⟨c, _, e⟩ := all y (by simp)
      obtain ⟨cs, e2⟩ := ih fun z hz => all z (by simp [hz])
      exact ⟨c :: cs, by rw [e, e2]; rfl⟩
  subst ec
  have nd2 : ((cs.map fun c => [c]).map mkS).Nodup := pm.nodup_iff.mpr nd
  have nd3 : cs.Nodup := by
    have : List.Pairwise (· ≠ ·) ((cs.map fun c => [c]).map mkS) := nd2
    rw [List.pairwise_map, List.pairwise_map] at this
    exact this.imp fun {a b} h e => h (by rw [e])
  refine ⟨cs, rfl, strict_of (sorted_one so) nd3, fun c => ⟨fun hc => ?_, fun hc => ?_⟩⟩
  · obtain ⟨d, hd, e⟩ := all (mkS [c]) (List.mem_map.mpr ⟨[c], List.mem_map.mpr ⟨c, hc, rfl⟩, rfl⟩)
    have := mkS_inj e
    have : c = d := by simpa using this
    rw [this]
    exact hd
  · have hm : mkS [c] ∈ l := (h _).mpr ⟨c, by
      have e : (mkS s).cps.toList.take (mkS s).cps.size = s := List.take_of_length_le (Nat.le_refl _)
      rw [e]
      exact hc, rfl⟩
    obtain ⟨w, hw, e⟩ := List.mem_map.mp (pm.mem_iff.mpr hm)
    obtain ⟨d, hd, rfl⟩ := List.mem_map.mp hw
    have := mkS_inj e
    have : d = c := by simpa using this
    rw [← this]
    exact hd
theorem b_set : bootBuiltins "set" = some (.type "set") := by decide +kernel
section
variable {X : Cx} {e : Expr} {te : DE} {p p2 pos pos2 : Pos}
theorem cf_sortSet (hc : X.calm = true) (m1 : X.mg "sorted" = none) (m2 : X.mg "set" = none) (he : CE X e te) (g1 : Gl X "sorted" := by rfl) (g2 : Gl X "set" := by rfl)
    (hs : starEach [e] X.env = (false, eval e X.env) :: starEach [] X.env := by rfl)
    (hs2 : starEach [.Call (.Name "set" p2) [e] [] pos2] X.env = (false, eval (.Call (.Name "set" p2) [e] [] pos2) X.env) :: starEach [] X.env := by rfl) :
    CF X (.Call (.Name "sorted" p) [.Call (.Name "set" p2) [e] [] pos2] [] pos) (fSortSet te) := by
  obtain ⟨t, pe, ge⟩ := he.ok
  refine ⟨_, pe_callB (cr_sortedTx hc) g1 m1 b_sorted (pa_cons (pe_callTy (cr_setTx hc) g2 m2 b_set (pa_cons pe pa_nil hs) (by decide) (by decide) hs rfl) pa_nil hs2) (by decide) (by decide) hs2 rfl, fun F al rho mu σ H Q R S q l => ?_⟩
  refine ge F al rho mu σ H _ _ S q fun F1 al1 y mu1 v H1 E1 C1 r1 q1 => ?_
  obtain ⟨s, ex, ev, hs4, q2⟩ := onS_out q1 r1
  refine ⟨mkS s, by rw [ev], hs4, fun a ws ha nd sg wl => ?_⟩
  refine ⟨a, ws, rfl, upd_same, Nat.le_trans wl hs4, fun ys n pm so hn => ?_⟩
  obtain ⟨cs, ey, hcs⟩ := signs_list nd sg pm so
  subst ey
  have na : n ≠ a := fun z => by rw [z, upd_same] at hn; cases hn
  have hn1 : H1 n = none := by rw [upd_ne na] at hn; exact hn
  have Ea : Ext F1 al1 H1 F1 al1 (upd H1 a (SetTx X.prog X.w a ws)) := Ext.loose ha
  have Ca := C1.loose (o := SetTx X.prog X.w a ws) ha
  have e3 : (cs.map fun c => D.str [c]) = (cs.map fun c => [c]).map D.str := map_str1 cs
  refine l F1 al1 (.lst (cs.map fun c => D.str [c])) mu1 n _ ((E1.trans Ea).trans (Ext.loose hn)) (Ca.loose hn) (Ca.not_al hn) (none_back (E1.dm n) hn1) rfl ⟨ex_none Ca.ex hn, _, upd_same, ?_⟩ (q2 cs hcs)
  rw [e3]
  exact repl_strs _
end
end Dx

namespace Dx
open PySem PySem.Spec PyProof.Rows L2
open Evl (Ex)
variable [Tb]

/-! ### lists of texts compared -/
theorem eqv_words : ∀ (xs ys : List (List Nat)), PyData.eqvAll (toPys (xs.map D.str)) (toPys (ys.map D.str)) = decide (xs = ys)
  | [], [] => rfl
  | [], y :: ys => rfl
  | x :: xs, [] => rfl
  | x :: xs, y :: ys => by
    show (mkS x == mkS y && PyData.eqvAll (toPys (xs.map D.str)) (toPys (ys.map D.str))) = _
    rw [eqv_words xs ys, beq_mkS]
    by_cases e : x = y
    · subst e
      by_cases e2 : xs = ys
      · subst e2; simp
      · simp [e2]
    · simp [e]
theorem eqD_words (xs ys : List (List Nat)) : eqD (.lst (xs.map D.str)) (.lst (ys.map D.str)) = decide (xs = ys) := eqv_words xs ys
theorem map_one_inj {xs ys : List Nat} (h : (xs.map fun c => [c]) = ys.map fun c => [c]) : xs = ys := by
  have := congrArg List.flatten h
  rwa [flat_one, flat_one] at this
theorem eqD_signs (xs ys : List Nat) : eqD (.lst (xs.map fun c => D.str [c])) (.lst (ys.map fun c => D.str [c])) = decide (xs = ys) := by
  rw [map_str1, map_str1, eqD_words]
  exact decide_eq_decide.mpr ⟨map_one_inj, fun e => by rw [e]⟩
/-- two rising lists with the same members are one -/
theorem rise_uniq {l m : List Nat} (hl : l.Pairwise (· < ·)) (hm : m.Pairwise (· < ·)) (h : ∀ c, c ∈ l ↔ c ∈ m) : l = m := by
  have n1 : l.Nodup := hl.imp fun {a b} z e => by omega
  have n2 : m.Nodup := hm.imp fun {a b} z e => by omega
  have p := (List.perm_ext_iff_of_nodup n1 n2).mpr h
  exact p.eq_of_pairwise (le := (· < ·)) (fun a b _ _ h1 h2 => by omega) hl hm
theorem signs_self {s l : List Nat} (h : SignsIn s l) : l = s ↔ s.Pairwise (· < ·) := ⟨fun e => e ▸ h.1, fun p => rise_uniq h.1 p h.2⟩
end Dx

namespace Dx
open PySem PySem.Spec PyProof.Rows L2
open Evl (Ex)
variable [Tb]

/-! ### joints, lists of truths -/
@[irreducible] def dJn (t u : DS) : DS := dSeq t u
theorem dJn_eq (t u : DS) : dJn t u = dSeq t u := by unfold dJn; rfl
theorem css_join {X : Cx} {st : Stmt} {rest : List Stmt} {t u : DS} (h1 : CS X st t) (h2 : CSs X rest u) : CSs X (st :: rest) (dJn t u) := by
  rw [dJn_eq]
  exact css_cons h1 h2
/-- a joint: what is known where two ways meet -/
theorem jn_k {t u : DS} {D : DEnds} {rho : Rho} {mu : Mu} (P : Rho → Mu → Prop) (h1 : ∀ K : Rho → Mu → Prop, (∀ r m, P r m → K r m) → t { D with nx := K } rho mu) (h2 : ∀ r m, P r m → u D r m) : dJn t u D rho mu := by
  rw [dJn_eq]
  exact h1 (u D) h2
/-- no joint is wanted -/
theorem jn_go {t u : DS} {D : DEnds} {rho : Rho} {mu : Mu} (h : t { D with nx := u D } rho mu) : dJn t u D rho mu := by
  rw [dJn_eq]
  exact h
theorem rise_nd {l : List Nat} (h : l.Pairwise (· < ·)) : l.Nodup := h.imp fun {a b} z e => by omega
theorem nodup_le {α : Type} [BEq α] [LawfulBEq α] : ∀ {l m : List α}, l.Nodup → (∀ x ∈ l, x ∈ m) → l.length ≤ m.length
  | [], m, _, _ => Nat.zero_le _
  | a :: l, m, nd, s => by
    obtain ⟨n1, n2⟩ := List.nodup_cons.mp nd
    have ha := s a (by simp)
    have hl := nodup_le (m := m.erase a) n2 (fun x hx => (List.mem_erase_of_ne (fun e : x = a => n1 (by rw [← e]; exact hx))).mpr (s x (by simp [hx])))
    rw [List.length_erase_of_mem ha] at hl
    have : 0 < m.length := List.length_pos_of_mem ha
    rw [List.length_cons]
    omega
/-- [f(x) for x in ..] that changes nothing -/
theorem comp_map {t : DG} {te : DE} {ds : List D} {f : Nat → D} {rho : Rho} {mu : Mu} {Q : List D → Mu → Prop} (hs : ds.length ≤ 100000)
    (step : ∀ (j : Nat) (d : D) (K : DV → Mu → Prop), ds[j]? = some d → K (.dat (f j)) mu → t d rho fun rho' => te rho' mu K)
    (q : Q ((List.range ds.length).map f) mu) : dCompL t dYes te rho Q ds [] mu := by
  refine comp_inv (fun j acc mu' => mu' = mu ∧ acc = (List.range j).map f) ⟨rfl, rfl⟩ (fun j d acc mu' K hd hp ke => ?_) (fun acc mu' hp => ?_)
  · obtain ⟨rfl, rfl⟩ := hp
    have hj := (List.getElem?_eq_some_iff.mp hd).1
    unfold dYes
    simp only [if_true]
    refine step j d _ hd ?_
    refine ⟨by rw [List.length_map, List.length_range]; omega, ke _ _ ⟨rfl, ?_⟩⟩
    rw [List.range_succ, List.map_append]
    rfl
  · obtain ⟨rfl, rfl⟩ := hp
    exact q
theorem all_bl {α : Type} {l : List α} {f : α → Bool} {mu : Mu} {Q : DV → Mu → Prop} (q : Q (.dat (.bl (l.all f))) mu) : dAll [.dat (.lst ((l.map f).map D.bl))] mu Q := by
  refine on_some (a := l.map f) (toBls_of _) ?_
  rw [List.all_map]
  exact q
/-- [f(c) for c in text], truths -/
theorem comp_bl {i : Nat} {te : DE} {s : List Nat} {f : Nat → Bool} {rho : Rho} {mu : Mu} {Q : List D → Mu → Prop} (hs : s.length ≤ 100000)
    (step : ∀ (c : Nat) (K : DV → Mu → Prop), c ∈ s → K (.dat (.bl (f c))) mu → te (setD rho i (.dat (.str [c]))) mu K)
    (q : Q ((s.map f).map D.bl) mu) : dCompL (dgN i) dYes te rho Q (s.map fun c => D.str [c]) [] mu := by
  refine comp_inv (fun j acc mu' => mu' = mu ∧ acc = ((s.take j).map f).map D.bl) ⟨rfl, rfl⟩ (fun j d acc mu' K hd hp ke => ?_) (fun acc mu' hp => ?_)
  · obtain ⟨rfl, rfl⟩ := hp
    rw [List.getElem?_map] at hd
    cases hc : s[j]? with
    | none => rw [hc] at hd; cases hd
    | some c =>
      rw [hc] at hd
      have hd := (Option.some.inj hd).symm
      subst hd
      have hj := (List.getElem?_eq_some_iff.mp hc).1
      unfold dgN dYes
      simp only [if_true]
      refine step c _ (List.mem_of_getElem? hc) ?_
      refine ⟨by rw [List.length_map, List.length_map, List.length_take]; omega, ke _ _ ⟨rfl, ?_⟩⟩
      rw [List.take_add_one, hc, List.map_append, List.map_append]
      rfl
  · obtain ⟨rfl, rfl⟩ := hp
    rw [List.length_map, List.take_length]
    exact q
theorem sing_lt (a b : Nat) : decide ([a] < [b]) = decide (a < b) := by
  apply decide_eq_decide.mpr
  rw [List.cons_lt_cons_iff]
  refine ⟨fun h => ?_, fun h => .inl h⟩
  rcases h with h | h
  · exact h
  · exact absurd h.2 (List.not_lt_nil [])
theorem getD_at {t : List Nat} {j : Nat} (h : j < t.length) : t[j]? = some (t.getD j 0) := by
  rw [List.getD_eq_getElem?_getD, List.getElem?_eq_getElem h]
  rfl
end Dx

namespace Dx
open PySem PySem.Spec PyProof.Rows L2
open Evl (Ex)
variable [Tb]

/-! ### dicts whose keys are nested tuples (or ints, bools, texts) -/
mutual
def keyOk : D → Bool
  | .non => true
  | .bl _ => true
  | .int _ => true
  | .str _ => true
  | .tup ds => keyOks ds
  | .lst _ => false
  | .dk _ _ => false
  | .dt _ _ _ => false
  | .scr _ _ => false
def keyOks : List D → Bool
  | [] => true
  | d :: r => keyOk d && keyOks r
end
def isTup : D → Bool
  | .tup _ => true
  | _ => false
def kTup (d : D) : Bool := isTup d && (keyOk d && decide ((nkD d).depth ≤ 8))
def kLeaf (d : D) : Bool := !isTup d && keyOk d
def KeyT (H : Hp) (k : NestedKey) (y : V) : Prop := ∃ F d, Ex F H ∧ kTup d = true ∧ Rep F d y ∧ k = nkD d
def KeyL (k : NestedKey) (y : V) : Prop := ∃ F d, kLeaf d = true ∧ Rep F d y ∧ k = nkD d

mutual
theorem nested_of {P : Program} {w : World} {H F : Hp} {h : Heap} (ok : HOk P w H h) (e : Ex F H) : ∀ (d : D) (y : V) (u : Value), keyOk d = true → Rep F d y → RelV y u → NestedIs h (nkD d) u
  | .non, y, u, _, r, q => by
    rw [Rep] at r
    subst r
    cases (show u = Value.none from q)
    exact .none
  | .bl b, y, u, _, r, q => by
    rw [Rep] at r
    subst r
    cases (show u = Value.bool b from q)
    exact .bool rfl
  | .int i, y, u, _, r, q => by
    rw [Rep] at r
    subst r
    obtain ⟨t, rfl⟩ := q
    exact .int _ _
  | .str s, y, u, _, r, q => by
    rw [Rep] at r
    subst r
    obtain ⟨t, rfl⟩ := q
    exact .text _ _
  | .tup ds, y, u, ko, r, q => by
    rw [Rep] at r
    obtain ⟨a, vs, rfl, hF, rl⟩ := r
    cases (show u = Value.ref a from q)
    obtain ⟨_, its, rv, o, h1, h2, n, h3⟩ := (show ObjOk P w H h a (.tup vs) from ok a _ (e _ _ hF))
    exact .tup h1 h2 h3 (by simpa using nesteds_of ok e ds vs its ko rl rv)
  | .lst _, y, u, ko, r, q => by cases ko
  | .dk _ _, y, u, ko, r, q => by cases ko
  | .dt _ _ _, y, u, ko, r, q => by cases ko
  | .scr _ _, y, u, ko, r, q => by cases ko
theorem nesteds_of {P : Program} {w : World} {H F : Hp} {h : Heap} (ok : HOk P w H h) (e : Ex F H) : ∀ (ds : List D) (ys : List V) (us : List Value), keyOks ds = true → RepL F ds ys → Vals ys us → NestedAll h (nkDs ds) us
  | [], ys, us, _, r, q => by
    rw [r.unnil] at q
    cases q
    exact .nil
  | d :: ds, ys, us, ko, r, q => by
    obtain ⟨y, r', rfl, a, b⟩ := r.uncons
    cases q with
    | cons q1 q2 =>
      rw [keyOks, Bool.and_eq_true_iff] at ko
      exact .cons (nested_of ok e d y _ ko.1 a q1) (nesteds_of ok e ds r' _ ko.2 b q2)
end
def leafOf : D → Leaf
  | .bl b => .num (if b = true then 1 else 0)
  | .int i => .num i
  | .str s => .text ⟨s.toArray⟩
  | _ => .none
theorem leaf_of {F : Hp} {d : D} {y : V} {u : Value} (h : kLeaf d = true) (r : Rep F d y) (q : RelV y u) : (leafOf d).key = nkD d ∧ Leaf.isOf (leafOf d) u = true ∧ ∀ b, y ≠ .ref b := by
  cases d with
  | non =>
    rw [Rep] at r
    subst r
    cases (show u = Value.none from q)
    exact ⟨rfl, rfl, fun b z => nomatch z⟩
  | bl b =>
    rw [Rep] at r
    subst r
    cases (show u = Value.bool b from q)
    exact ⟨rfl, decide_eq_true rfl, fun b z => nomatch z⟩
  | int i =>
    rw [Rep] at r
    subst r
    obtain ⟨t, rfl⟩ := q
    exact ⟨rfl, decide_eq_true rfl, fun b z => nomatch z⟩
  | str s =>
    rw [Rep] at r
    subst r
    obtain ⟨t, rfl⟩ := q
    refine ⟨rfl, ?_, fun b z => nomatch z⟩
    show Value.isStrOf _ (.str _ t) = true
    simp [Value.isStrOf]
  | _ => cases h
theorem leaf_V {F : Hp} {d : D} {y : V} (h : kLeaf d = true) (r : Rep F d y) : ∀ u, KR (nkD d) y u ↔ ∃ l : Leaf, l.key = nkD d ∧ Leaf.isOf l u = true := fun u => by
  cases d with
  | non => rw [Rep] at r; subst r; exact Iff.rfl
  | bl b => rw [Rep] at r; subst r; exact Iff.rfl
  | int i => rw [Rep] at r; subst r; exact Iff.rfl
  | str s => rw [Rep] at r; subst r; exact Iff.rfl
  | _ => cases h
theorem KeyT.ref {H : Hp} {k : NestedKey} {y : V} (h : KeyT H k y) : ∃ b, y = .ref b := by
  obtain ⟨F, d, e, kt, r, _⟩ := h
  cases d with
  | tup ds =>
    rw [Rep] at r
    obtain ⟨a, vs, e, _⟩ := r
    exact ⟨a, e⟩
  | _ => cases kt
theorem KeyT.is {P : Program} {w : World} {H : Hp} {h : Heap} (ok : HOk P w H h) {k : NestedKey} {b : Addr} (x : KeyT H k (.ref b)) : (nestedKind P w).is h k b := by
  obtain ⟨F, d, e, kt, r, rfl⟩ := x
  unfold kTup at kt
  rw [Bool.and_eq_true_iff, Bool.and_eq_true_iff] at kt
  exact ⟨nested_of ok e d _ _ kt.2.1 r rfl, of_decide_eq_true kt.2.2⟩
def KeysT (H : Hp) (xs : List (NestedKey × V × V)) : Prop := ∀ x ∈ xs, KeyT H x.1 x.2.1
def KeysL (xs : List (NestedKey × V × V)) : Prop := ∀ x ∈ xs, KeyL x.1 x.2.1
def at3 {α β : Type} (xs : List (NestedKey × α × β)) (k : NestedKey) : Option β := (xs.find? fun x => decide (x.1 = k)).map (·.2.2)
def put3 {α β : Type} (xs : List (NestedKey × α × β)) (k : NestedKey) (a : α) (b : β) : List (NestedKey × α × β) := if (at3 xs k).isSome then xs.map (fun x => if x.1 = k then (x.1, x.2.1, b) else x) else xs ++ [(k, a, b)]

/-! #### the entries as the library tells them -/
abbrev RX (p : NestedKey × V × V) (q : NestedKey × Value × Value) : Prop := p.1 = q.1 ∧ KR p.1 p.2.1 q.2.1 ∧ RelV p.2.2 q.2.2
abbrev RT (p : NestedKey × V × V) (q : NestedKey × Addr × Value) : Prop := p.1 = q.1 ∧ p.2.1 = .ref q.2.1 ∧ RelV p.2.2 q.2.2
abbrev RLf (p : NestedKey × V × V) (q : Leaf × Value) : Prop := p.1 = q.1.key ∧ RelV p.2.2 q.2
theorem paired_app {α β : Type} {F : α → β → Prop} : ∀ {l m : List α} {l' m' : List β}, Paired F l l' → Paired F m m' → Paired F (l ++ m) (l' ++ m')
  | _, _, _, _, .nil, h => h
  | _, _, _, _, .cons a t, h => .cons a (paired_app t h)
theorem paired_mem {α β : Type} {F : α → β → Prop} : ∀ {l : List α} {l' : List β}, Paired F l l' → ∀ b ∈ l', ∃ a ∈ l, F a b
  | _, _, .nil, b, h => nomatch h
  | _, _, .cons r t, b, h => by
    rcases List.mem_cons.mp h with e | h
    · subst e
      exact ⟨_, by simp, r⟩
    · obtain ⟨a, h1, h2⟩ := paired_mem t b h
      exact ⟨a, by simp [h1], h2⟩
theorem rt_at {xs : List (NestedKey × V × V)} {zs : List (NestedKey × Addr × Value)} (r : Paired RT xs zs) (k : NestedKey) : RelO (at3 xs k) ((atKey zs k).map (·.2)) := by
  induction r with
  | nil => exact True.intro
  | @cons p q ps qs hq t ih =>
    unfold at3 atKey at ih ⊢
    rw [List.find?_cons, List.find?_cons, hq.1]
    by_cases e : q.1 = k
    · rw [decide_eq_true e]
      exact hq.2.2
    · rw [decide_eq_false e]
      exact ih
theorem rt_put {xs : List (NestedKey × V × V)} {zs : List (NestedKey × Addr × Value)} (r : Paired RT xs zs) (k : NestedKey) {b : Addr} {y : V} {u : Value} (ry : RelV y u) : Paired RT (put3 xs k (.ref b) y) (storedH zs k b u) := by
  have e : (at3 xs k).isSome = (atKey zs k).isSome := by
    have := (rt_at r k).isSome_eq
    rw [this, Option.isSome_map]
  unfold put3 storedH
  rw [e]
  split
  · clear e
    rename_i h
    clear h
    induction r with
    | nil => exact .nil
    | @cons p q ps qs hq t ih =>
      refine .cons ?_ ih
      show RT (if p.1 = k then (p.1, p.2.1, y) else p) (if q.1 = k then (q.1, q.2.1, u) else q)
      by_cases e : q.1 = k
      · rw [if_pos (hq.1.trans e), if_pos e]
        exact ⟨hq.1, hq.2.1, ry⟩
      · rw [if_neg (fun z => e (hq.1.symm.trans z)), if_neg e]
        exact hq
  · exact paired_app r (.cons ⟨rfl, rfl, ry⟩ .nil)
theorem rl_at {xs : List (NestedKey × V × V)} {zs : List (Leaf × Value)} (r : Paired RLf xs zs) (k : Leaf) : RelO (at3 xs k.key) (valueAt zs k) := by
  induction r with
  | nil => exact True.intro
  | @cons p q ps qs hq t ih =>
    unfold at3 valueAt at ih ⊢
    rw [List.find?_cons, List.find?_cons, hq.1]
    by_cases e : q.1 = k
    · rw [decide_eq_true e, e, decide_eq_true rfl]
      exact hq.2
    · rw [decide_eq_false e, decide_eq_false (fun z => e (Leaf.key_inj z))]
      exact ih
theorem any_valueAt (k : Leaf) : ∀ zs : List (Leaf × Value), (zs.any fun kv => decide (kv.1 = k)) = (valueAt zs k).isSome
  | [] => rfl
  | z :: zs => by
    have ih := any_valueAt k zs
    unfold valueAt at ih ⊢
    rw [List.any_cons, List.find?_cons]
    by_cases e : z.1 = k
    · rw [decide_eq_true e]
      rfl
    · rw [decide_eq_false e, Bool.false_or]
      exact ih
theorem rl_put {xs : List (NestedKey × V × V)} {zs : List (Leaf × Value)} (r : Paired RLf xs zs) (k : Leaf) {a y : V} {u : Value} (ry : RelV y u) : Paired RLf (put3 xs k.key a y) (stored zs k u) := by
  have e : (at3 xs k.key).isSome = zs.any (fun kv => decide (kv.1 = k)) := by
    rw [(rl_at r k).isSome_eq, any_valueAt]
  unfold put3 stored
  rw [e]
  split
  · clear e
    rename_i h
    clear h
    induction r with
    | nil => exact .nil
    | @cons p q ps qs hq t ih =>
      refine .cons ?_ ih
      show RLf (if p.1 = k.key then (p.1, p.2.1, y) else p) (if q.1 = k then (q.1, u) else q)
      by_cases e : q.1 = k
      · rw [if_pos (by rw [hq.1, e]), if_pos e]
        exact ⟨hq.1, ry⟩
      · rw [if_neg (fun z => e (Leaf.key_inj (hq.1.symm.trans z))), if_neg e]
        exact hq
  · exact paired_app r (.cons ⟨rfl, ry⟩ .nil)

/-! #### the object and its description -/
section
variable {P : Program} {w : World} {H : Hp} {h : Heap} {a : Addr} {xs : List (NestedKey × V × V)}
theorem put3_keys {α β : Type} (xs : List (NestedKey × α × β)) (k : NestedKey) (a : α) (b : β) (nd : (xs.map (·.1)).Nodup) : ((put3 xs k a b).map (·.1)).Nodup := by
  unfold put3
  split
  · rw [List.map_map]
    have e : ((fun x : NestedKey × α × β => x.1) ∘ fun x => if x.1 = k then (x.1, x.2.1, b) else x) = fun x => x.1 := by
      funext x
      show (if x.1 = k then (x.1, x.2.1, b) else x).1 = x.1
      split <;> rfl
    rw [e]
    exact nd
  · rename_i hn
    rw [List.map_append, List.nodup_append]
    refine ⟨nd, by simp, fun x hx y hy => ?_⟩
    have hy : y = k := by simpa using hy
    subst hy
    intro e
    subst e
    obtain ⟨p, hp, rfl⟩ := List.mem_map.mp hx
    apply hn
    unfold at3
    cases q : xs.find? (fun x => decide (x.1 = p.1)) with
    | some _ => rfl
    | none => exact absurd (decide_eq_true rfl) (List.find?_eq_none.mp q p hp)
theorem put3_len {α β : Type} (xs : List (NestedKey × α × β)) (k : NestedKey) (a : α) (b : β) : (put3 xs k a b).length ≤ xs.length + 1 := by
  unfold put3
  split
  · rw [List.length_map]; omega
  · rw [List.length_append]; exact Nat.le_refl _
theorem put3_mem {α β : Type} {xs : List (NestedKey × α × β)} {k : NestedKey} {a : α} {b : β} {x : NestedKey × α × β} (h : x ∈ put3 xs k a b) : (∃ y ∈ xs, y.1 = x.1 ∧ y.2.1 = x.2.1) ∨ x = (k, a, b) := by
  unfold put3 at h
  split at h
  · obtain ⟨y, hy, e⟩ := List.mem_map.mp h
    refine .inl ⟨y, hy, ?_⟩
    subst e
    split <;> exact ⟨rfl, rfl⟩
  · rcases List.mem_append.mp h with h | h
    · exact .inl ⟨x, h, rfl, rfl⟩
    · exact .inr (by simpa using h)
theorem dicN_t (ok : HOk P w H h) (e : H a = some (DicN w a xs)) (kt : KeysT H xs) : xs.length ≤ sizeLine ∧ (a == sysModules) = false ∧ ∃ zs : List (NestedKey × Addr × Value), Paired RT xs zs ∧ h.DictOfH (nestedKind P w) a zs := by
  obtain ⟨⟨hz, hd, nd, ys, pr, o, es, ep, h1, h2, h3, h4⟩, _⟩ := (show ObjOk P w H h a (DicN w a xs) from ok a _ e)
  refine ⟨hz, hd, ?_⟩
  have key : ∀ {xs : List (NestedKey × V × V)} {ys : List (NestedKey × Value × Value)}, Paired RX xs ys → KeysT H xs → ∃ zs : List (NestedKey × Addr × Value), Paired RT xs zs ∧ (ys.map fun y : NestedKey × Value × Value => (⟨y.1.hash w, y.2.1, y.2.2⟩ : DictEntry)) = zs.map (entryOfKey (nestedKind P w)) ∧ (∀ z ∈ zs, (nestedKind P w).is h z.1 z.2.1) ∧ zs.map (·.1) = xs.map (·.1) := by
    intro xs ys pr
    induction pr with
    | nil => exact fun _ => ⟨[], .nil, rfl, (fun _ z => nomatch z), rfl⟩
    | @cons p q ps qs hq t ih =>
      intro kt
      obtain ⟨zs, z1, z2, z3, z4⟩ := ih fun x hx => kt x (by simp [hx])
      have kp := kt p (by simp)
      obtain ⟨b, eb⟩ := kp.ref
      have e2 : q.2.1 = .ref b := by
        have := hq.2.1
        rw [eb] at this
        exact this
      rw [eb] at kp
      refine ⟨(q.1, b, q.2.2) :: zs, .cons ⟨hq.1, eb, hq.2.2⟩ z1, ?_, fun z hz => ?_, ?_⟩
      · rw [List.map_cons, List.map_cons, z2, e2]
        rfl
      · rcases List.mem_cons.mp hz with e | hz
        · subst e
          rw [← hq.1]
          exact kp.is ok
        · exact z3 z hz
      · rw [List.map_cons, List.map_cons, z4, hq.1]
  obtain ⟨zs, z1, z2, z3, z4⟩ := key pr kt
  exact ⟨zs, z1, o, es, ep, h1, h2, h3, h4.trans z2, z3, by rw [z4]; exact nd⟩
theorem dicN_ok {H' : Hp} {h' : Heap} (hz : xs.length ≤ sizeLine) (hd : (a == sysModules) = false) (nd : (xs.map (·.1)).Nodup) (ys : List (NestedKey × Value × Value)) (pr : Paired RX xs ys) {o : Obj} {es : Array DictEntry} {ep : Nat} (h1 : h'.get? a = some o) (h2 : o.ExactDict) (h3 : o.data = .dict es ep)
    (h4 : es.toList = ys.map fun y => ⟨y.1.hash w, y.2.1, y.2.2⟩) : ObjOk P w H' h' a (DicN w a xs) :=
  ⟨⟨hz, hd, nd, ys, pr, o, es, ep, h1, h2, h3, h4⟩, ⟨o, h1⟩, fun k1 k2 ⟨z, d, n, y, p, o, es, ep, g1, g2⟩ k => ⟨z, d, n, y, p, o, es, ep, k o g1, g2⟩⟩
theorem dicN_of_t {H' : Hp} {h' : Heap} {zs : List (NestedKey × Addr × Value)} (hz : xs.length ≤ sizeLine) (hd : (a == sysModules) = false) (pr : Paired RT xs zs) (dd : h'.DictOfH (nestedKind P w) a zs) : ObjOk P w H' h' a (DicN w a xs) := by
  obtain ⟨o, es, ep, h1, h2, h3, h4, h5, h6⟩ := dd
  have e : xs.map (·.1) = zs.map (·.1) := by
    clear h4 h5 h6 hz
    induction pr with
    | nil => rfl
    | cons hq t ih => rw [List.map_cons, List.map_cons, hq.1, ih]
  refine dicN_ok hz hd (by rw [e]; exact h6) (zs.map fun z => (z.1, .ref z.2.1, z.2.2)) ?_ h1 h2 h3 ?_
  · clear h4 h5 h6 hz e
    induction pr with
    | nil => exact .nil
    | @cons p q ps qs hq t ih =>
      refine .cons ⟨hq.1, ?_, hq.2.2⟩ ih
      rw [hq.2.1]
      rfl
  · rw [h4, List.map_map]
    rfl
theorem dicN_l (ok : HOk P w H h) (e : H a = some (DicN w a xs)) (kl : KeysL xs) : xs.length ≤ sizeLine ∧ (a == sysModules) = false ∧ ∃ zs : List (Leaf × Value), Paired RLf xs zs ∧ h.DictOf (leafKind P w) a zs := by
  obtain ⟨⟨hz, hd, nd, ys, pr, o, es, ep, h1, h2, h3, h4⟩, _⟩ := (show ObjOk P w H h a (DicN w a xs) from ok a _ e)
  refine ⟨hz, hd, ?_⟩
  have key : ∀ {xs : List (NestedKey × V × V)} {ys : List (NestedKey × Value × Value)}, Paired RX xs ys → KeysL xs → ∃ zs : List (Leaf × Value), Paired RLf xs zs ∧ PySem.Pairs (leafKind P w) (ys.map fun y : NestedKey × Value × Value => (⟨y.1.hash w, y.2.1, y.2.2⟩ : DictEntry)) zs ∧
      (∀ y ∈ ys, ∃ l : Leaf, Leaf.isOf l y.2.1 = true ∧ y.1 = l.key) ∧ (zs.map fun z => z.1.key) = xs.map (·.1) := by
    intro xs ys pr
    induction pr with
    | nil => exact fun _ => ⟨[], .nil, .nil, (fun _ z => nomatch z), rfl⟩
    | @cons p q ps qs hq t ih =>
      intro kl
      obtain ⟨zs, z1, z2, z3, z4⟩ := ih fun x hx => kl x (by simp [hx])
      obtain ⟨F, d, kd, rd, ek⟩ := kl p (by simp)
      have kr := hq.2.1
      rw [ek] at kr
      obtain ⟨l, l1, l2⟩ := (leaf_V kd rd q.2.1).mp kr
      have e1 : p.1 = l.key := ek.trans l1.symm
      refine ⟨(l, q.2.2) :: zs, .cons ⟨e1, hq.2.2⟩ z1, .cons l2 rfl z2, fun y hy => ?_, ?_⟩
      · rcases List.mem_cons.mp hy with e | hy
        · subst e
          exact ⟨l, l2, hq.1.symm.trans e1⟩
        · exact z3 y hy
      · rw [List.map_cons, List.map_cons, z4, e1]
  obtain ⟨zs, z1, z2, z3, z4⟩ := key pr kl
  refine ⟨zs, z1, o, es, ep, h1, h2, h3, fun e he => ?_, by rw [h4]; exact z2, ?_⟩
  · have he : e ∈ es.toList := Array.mem_toList_iff.mpr he
    rw [h4] at he
    obtain ⟨y, hy, rfl⟩ := List.mem_map.mp he
    obtain ⟨l, l1, l2⟩ := z3 y hy
    exact ⟨l, l1, by rw [l2]; rfl⟩
  · rw [← z4] at nd
    have : List.Pairwise (· ≠ ·) (zs.map fun z => z.1.key) := nd
    rw [List.pairwise_map] at this
    show List.Pairwise (· ≠ ·) (zs.map (·.1))
    rw [List.pairwise_map]
    exact this.imp fun {x y} hne e => hne (by rw [e])
theorem dicN_of_l {H' : Hp} {h' : Heap} {zs : List (Leaf × Value)} (hz : xs.length ≤ sizeLine) (hd : (a == sysModules) = false) (kl : KeysL xs) (pr : Paired RLf xs zs) (dd : h'.DictOf (leafKind P w) a zs) : ObjOk P w H' h' a (DicN w a xs) := by
  obtain ⟨o, es, ep, h1, h2, h3, h4, h5, h6⟩ := dd
  have h4' : ∀ e ∈ es.toList, ∃ k, (leafKind P w).is k e.key = true ∧ e.hash = (leafKind P w).hash k := fun e he => h4 e (Array.mem_toList_iff.mp he)
  have key : ∀ {xs : List (NestedKey × V × V)} {zs : List (Leaf × Value)} {es : List DictEntry}, Paired RLf xs zs → KeysL xs → PySem.Pairs (leafKind P w) es zs → (∀ e ∈ es, ∃ k, (leafKind P w).is k e.key = true ∧ e.hash = (leafKind P w).hash k) →
      ∃ ys : List (NestedKey × Value × Value), Paired RX xs ys ∧ es = (ys.map fun y => (⟨y.1.hash w, y.2.1, y.2.2⟩ : DictEntry)) ∧ xs.map (·.1) = zs.map (fun z => z.1.key) := by
    intro xs zs es pr
    induction pr generalizing es with
    | nil =>
      intro _ q _
      cases q
      exact ⟨[], .nil, rfl, rfl⟩
    | @cons p z ps zs hq t ih =>
      intro kl q hk
      cases q with
      | @cons e _ es _ q1 q2 q3 =>
        obtain ⟨ys, y1, y2, y3⟩ := ih (fun x hx => kl x (by simp [hx])) q3 fun e he => hk e (by simp [he])
        obtain ⟨F, d, kd, rd, ek⟩ := kl p (by simp)
        obtain ⟨k, k1, k2⟩ := hk e (by simp)
        have ekz : k = z.1 := (leafKind P w).inj _ _ _ k1 q1
        subst ekz
        refine ⟨(p.1, e.key, e.val) :: ys, .cons ⟨rfl, ?_, ?_⟩ y1, ?_, ?_⟩
        · rw [ek]
          exact (leaf_V kd rd e.key).mpr ⟨z.1, by rw [← ek]; exact hq.1.symm, k1⟩
        · rw [q2]
          exact hq.2
        · rw [List.map_cons, ← y2]
          congr 1
          have : e.hash = p.1.hash w := by
            rw [k2, hq.1]
            rfl
          rw [← this]
        · rw [List.map_cons, List.map_cons, y3, hq.1]
  obtain ⟨ys, y1, y2, y3⟩ := key pr kl h5 h4'
  refine dicN_ok hz hd ?_ ys y1 h1 h2 h3 y2
  rw [y3]
  have : List.Pairwise (· ≠ ·) (zs.map (·.1)) := h6
  rw [List.pairwise_map] at this
  show List.Pairwise (· ≠ ·) (zs.map fun z => z.1.key)
  rw [List.pairwise_map]
  exact this.imp fun {x y} hne e => hne (Leaf.key_inj e)
end
end Dx

namespace Dx
open PySem PySem.Spec PyProof.Rows L2
open Evl (Ex)
variable [Tb]

/-! ### what is done to dicts with nested keys: over the heap -/
def KeyFit (H : Hp) (xs : List (NestedKey × V × V)) (k : NestedKey) (y : V) : Prop := (KeysT H xs ∧ KeyT H k y) ∨ (KeysL xs ∧ KeyL k y)
def NGet (w : World) (H : Hp) (a : Addr) (y : V) (r : Option V) : Prop := ∃ xs k, H a = some (DicN w a xs) ∧ KeyFit H xs k y ∧ r = at3 xs k
def NPut (w : World) (H : Hp) (a : Addr) (y v : V) (H' : Hp) : Prop := ∃ xs k, H a = some (DicN w a xs) ∧ KeyFit H xs k y ∧ xs.length < sizeLine ∧ H' = upd H a (DicN w a (put3 xs k y v))
section
variable {X : Cx} {pins : List (Addr × Obj)} {σ : L2.St} {H : Hp} {s : Shared} {a : Addr} {y v : V} {u r : Value} {o : Option V} {A : Around} {E : Value → Shared → Prop}
theorem n_room (hu : A.units + 9 < cLine) : (nestedKind X.prog X.w).room A.in1 := by
  show A.units + 1 + 8 < cLine
  omega
theorem n_typeIs (I : Inv X pins σ H s) {xs : List (NestedKey × V × V)} (e : H a = some (DicN X.w a xs)) : s.TypeIs (.ref a) "dict" ∧ ∀ b, Value.ref a = .ref b → ∃ ob, s.heap.get? b = some ob ∧ ob.dict = none := by
  obtain ⟨⟨_, _, _, _, _, o, _, _, h1, h2, _⟩, _⟩ := (show ObjOk X.prog X.w H s.heap a (DicN X.w a xs) from I.hok a _ e)
  refine ⟨⟨o, h1, h2.1⟩, fun b q => ?_⟩
  cases q
  exact ⟨o, h1, h2.2.1⟩
theorem n_getItem {Q : Value → Shared → Prop} (hu : A.units + 9 < cLine) (I : Inv X pins σ H s) (g : NGet X.w H a y (some v)) (ry : RelV y u) (h : ∀ w' s', Inv X pins σ H s' → RelV v w' → Q w' s') : wpAny (model X.prog X.w) A (getItem (.ref a) u) Q E s := by
  obtain ⟨xs, k, e, ⟨kt, ky⟩ | ⟨kl, ky⟩, l⟩ := g
  · obtain ⟨b, rfl⟩ := ky.ref
    cases (show u = Value.ref b from ry)
    obtain ⟨z, hd, zs, rel, dd⟩ := dicN_t I.hok e kt
    obtain ⟨w', hw, rw'⟩ := RelO.some_of (v := v) (o := (atKey zs k).map (·.2)) (by rw [l]; exact rt_at rel k)
    obtain ⟨p, hp, hp2⟩ := Option.map_eq_some_iff.mp hw
    refine wpAny_getItem_heap (n_room hu) (ky.is I.hok) dd hp ?_
    rw [hp2]
    exact h w' _ (I.tok _) rw'
  · obtain ⟨F, d, kd, rd, rfl⟩ := ky
    obtain ⟨l1, l2, _⟩ := leaf_of kd rd ry
    obtain ⟨z, hd, zs, rel, dd⟩ := dicN_l I.hok e kl
    obtain ⟨w', hw, rw'⟩ := RelO.some_of (v := v) (o := valueAt zs (leafOf d)) (by rw [l, ← l1]; exact rl_at rel _)
    exact wpAny_getItem_of (knd := leafKind X.prog X.w) l2 dd.mapOf hw (h w' _ (I.tok _) rw')
theorem n_in {Q : Value → Shared → Prop} (hu : A.units + 9 < cLine) (I : Inv X pins σ H s) (g : NGet X.w H a y o) (ry : RelV y u) (h : ∀ s', Inv X pins σ H s' → Q (.bool o.isSome) s') : wpAny (model X.prog X.w) A (compareOp .In u (.ref a)) Q E s := by
  obtain ⟨xs, k, e, ⟨kt, ky⟩ | ⟨kl, ky⟩, l⟩ := g
  · obtain ⟨b, rfl⟩ := ky.ref
    cases (show u = Value.ref b from ry)
    obtain ⟨z, hd, zs, rel, dd⟩ := dicN_t I.hok e kt
    refine wpAny_in_heap (n_room hu) (ky.is I.hok) hd dd ?_
    have q := (rt_at rel k).isSome_eq
    rw [Option.isSome_map] at q
    rw [← q, ← l]
    exact h _ (I.tok _)
  · obtain ⟨F, d, kd, rd, rfl⟩ := ky
    obtain ⟨l1, l2, _⟩ := leaf_of kd rd ry
    obtain ⟨z, hd, zs, rel, dd⟩ := dicN_l I.hok e kl
    refine wpAny_in_of (knd := leafKind X.prog X.w) l2 hd dd.mapOf ?_
    have q := (rl_at rel (leafOf d)).isSome_eq
    rw [l1] at q
    rw [← q, ← l]
    exact h _ (I.tok _)
theorem n_notIn {Q : Value → Shared → Prop} (hu : A.units + 9 < cLine) (I : Inv X pins σ H s) (g : NGet X.w H a y o) (ry : RelV y u) (h : ∀ s', Inv X pins σ H s' → Q (.bool (!o.isSome)) s') : wpAny (model X.prog X.w) A (compareOp .NotIn u (.ref a)) Q E s := by
  obtain ⟨xs, k, e, ⟨kt, ky⟩ | ⟨kl, ky⟩, l⟩ := g
  · obtain ⟨b, rfl⟩ := ky.ref
    cases (show u = Value.ref b from ry)
    obtain ⟨z, hd, zs, rel, dd⟩ := dicN_t I.hok e kt
    refine wpAny_notIn_heap (n_room hu) (ky.is I.hok) hd dd ?_
    have q := (rt_at rel k).isSome_eq
    rw [Option.isSome_map] at q
    rw [← q, ← l]
    exact h _ (I.tok _)
  · obtain ⟨F, d, kd, rd, rfl⟩ := ky
    obtain ⟨l1, l2, _⟩ := leaf_of kd rd ry
    obtain ⟨z, hd, zs, rel, dd⟩ := dicN_l I.hok e kl
    refine wpAny_notIn_of (knd := leafKind X.prog X.w) l2 hd dd.mapOf ?_
    have q := (rl_at rel (leafOf d)).isSome_eq
    rw [l1] at q
    rw [← q, ← l]
    exact h _ (I.tok _)
theorem n_len0 {xs : List (NestedKey × V × V)} {k : NestedKey} {y v : V} (h : xs.length < sizeLine) : (put3 xs k y v).length ≤ sizeLine := by
  have := put3_len xs k y v
  omega
theorem keysL_put {xs : List (NestedKey × V × V)} {k : NestedKey} {y v : V} (h : KeysL xs) (ky : KeyL k y) : KeysL (put3 xs k y v) := fun x hx => by
  rcases put3_mem hx with ⟨z, hz, e1, e2⟩ | e
  · rw [← e1, ← e2]
    exact h z hz
  · rw [e]
    exact ky
theorem n_setItem {H' : Hp} {Q : Unit → Shared → Prop} (hu : A.units + 9 < cLine) (I : Inv X pins σ H s) (g : NPut X.w H a y v H') (ry : RelV y u) (rv : RelV v r) (h : ∀ s', Inv X pins σ H' s' → Q () s') : wpAny (model X.prog X.w) A (setItem (.ref a) u r) Q E s := by
  obtain ⟨xs, k, e, ⟨kt, ky⟩ | ⟨kl, ky⟩, l, eH⟩ := g
  · subst eH
    obtain ⟨b, rfl⟩ := ky.ref
    cases (show u = Value.ref b from ry)
    obtain ⟨z, hd, zs, rel, dd⟩ := dicN_t I.hok e kt
    have hz : zs.length ≤ sizeLine := by rw [← Paired.length rel]; exact z
    refine wpAny_setItem_heap (hsz := hz) (n_room hu) (ky.is I.hok) dd fun h' dd' hs => h _ ?_
    have he : ∃ q, h'.get? a = some q := let ⟨q, _, _, hq, _⟩ := dd'; ⟨q, hq⟩
    exact d_write I (by rw [e]; exact True.intro) hs he (dicN_of_t (n_len0 l) hd (rt_put rel k rv) dd')
  · subst eH
    obtain ⟨F, d, kd, rd, rfl⟩ := ky
    obtain ⟨l1, l2, _⟩ := leaf_of kd rd ry
    obtain ⟨z, hd, zs, rel, dd⟩ := dicN_l I.hok e kl
    have hz : zs.length ≤ sizeLine := by rw [← Paired.length rel]; exact z
    refine wpAny_setItem_pairs (knd := leafKind X.prog X.w) (hsz := hz) l2 dd fun h' dd' hs => h _ ?_
    have he : ∃ q, h'.get? a = some q := let ⟨q, _, _, hq, _⟩ := dd'; ⟨q, hq⟩
    have rp := rl_put (a := y) rel (leafOf d) rv
    rw [l1] at rp
    exact d_write I (by rw [e]; exact True.intro) hs he (dicN_of_l (n_len0 l) hd (keysL_put kl ⟨F, d, kd, rd, rfl⟩) rp dd')
theorem n_setd {d : V} {Q : Value → Shared → Prop} {xs : List (NestedKey × V × V)} {k : NestedKey} (hu : A.units + 9 < cLine) (I : Inv X pins σ H s) (e : H a = some (DicN X.w a xs)) (kf : KeyFit H xs k y) (ry : RelV y u) (rd : RelV d r) (hl : xs.length < sizeLine)
    (h1 : ∀ v, at3 xs k = some v → ∀ (w' : Value) (s' : Shared), Inv X pins σ H s' → RelV v w' → Q w' s') (h2 : at3 xs k = none → ∀ (w' : Value) (s' : Shared), Inv X pins σ (L2.upd H a (DicN X.w a (put3 xs k y d))) s' → RelV d w' → Q w' s') :
    wpAny (model X.prog X.w) A (call (.builtin "dict.setdefault") [.ref a, u, r]) Q E s := by
  rcases kf with ⟨kt, ky⟩ | ⟨kl, ky⟩
  · obtain ⟨b, rfl⟩ := ky.ref
    cases (show u = Value.ref b from ry)
    obtain ⟨z, hd, zs, rel, dd⟩ := dicN_t I.hok e kt
    have hz : zs.length ≤ sizeLine := by rw [← Paired.length rel]; exact z
    have q := rt_at rel k
    refine call_setdefault_heap (hsz := hz) (n_room hu) (ky.is I.hok) hd dd (fun p hp => ?_) fun hn h' dd' hs => ?_
    · rw [hp] at q
      cases q0 : at3 xs k with
      | none => rw [q0] at q; exact (show False from q).elim
      | some v0 =>
        rw [q0] at q
        exact h1 v0 q0 _ _ (I.tok _) q
    · rw [hn] at q
      cases q0 : at3 xs k with
      | some v0 => rw [q0] at q; exact (show False from q).elim
      | none =>
        have he : ∃ q, h'.get? a = some q := let ⟨q, _, _, hq, _⟩ := dd'; ⟨q, hq⟩
        exact h2 q0 _ _ (d_write I (by rw [e]; exact True.intro) hs he (dicN_of_t (n_len0 hl) hd (rt_put rel k rd) dd')) rd
  · obtain ⟨F, dk, kd, rk, rfl⟩ := ky
    obtain ⟨l1, l2, _⟩ := leaf_of kd rk ry
    obtain ⟨z, hd, zs, rel, dd⟩ := dicN_l I.hok e kl
    have hz : zs.length ≤ sizeLine := by rw [← Paired.length rel]; exact z
    have q := rl_at rel (leafOf dk)
    rw [l1] at q
    refine call_meetsIn PySem.F.slot_dict_setdefault dd.typeIs PySem.F.entry_dict_setdefault (PySem.F.args_dict_setdefault_3 _ _ _) (kt_meets_setdefault (leafKind X.prog X.w) a l2 hd r) ⟨zs, dd, hz, fun v hv => ?_, fun hn h' dd' hs => ?_⟩
    · rw [hv] at q
      cases q0 : at3 xs (nkD dk) with
      | none => rw [q0] at q; exact (show False from q).elim
      | some v0 =>
        rw [q0] at q
        exact h1 v0 q0 _ _ (I.tok _) q
    · rw [hn] at q
      cases q0 : at3 xs (nkD dk) with
      | some v0 => rw [q0] at q; exact (show False from q).elim
      | none =>
        have he : ∃ q, h'.get? a = some q := let ⟨q, _, _, hq, _⟩ := dd'; ⟨q, hq⟩
        have rp := rl_put (a := y) rel (leafOf dk) rd
        rw [l1] at rp
        exact h2 q0 _ _ (d_write (t' := s.toks + 1) I (by rw [e]; exact True.intro) hs he (dicN_of_l (n_len0 hl) hd (keysL_put kl ⟨F, dk, kd, rk, rfl⟩) rp dd')) rd
end
end Dx

namespace Dx
open PySem PySem.Spec PyProof.Rows L2
open Evl (Ex)
variable [Tb]

/-! ### the rules over the heap -/
def tNGet (w : World) (td ty : TE) : TE := fun σ H Q => td σ H fun x H1 => ty σ H1 fun y H2 => ∃ a v, x = .ref a ∧ NGet w H2 a y (some v) ∧ Q v H2
def tNIn (w : World) (ty td : TE) : TE := fun σ H Q => ty σ H fun y H1 => td σ H1 fun x H2 => ∃ a o, x = .ref a ∧ NGet w H2 a y o ∧ Q (.bl o.isSome) H2
def tNNotIn (w : World) (ty td : TE) : TE := fun σ H Q => ty σ H fun y H1 => td σ H1 fun x H2 => ∃ a o, x = .ref a ∧ NGet w H2 a y o ∧ Q (.bl (!o.isSome)) H2
def sNPut (w : World) (td ty tv : TE) : TS := fun D σ H => tv σ H fun v H1 => td σ H1 fun x H2 => ty σ H2 fun y H3 => ∃ a H4, x = .ref a ∧ NPut w H3 a y v H4 ∧ D.nx σ H4
def tNSetd (w : World) (td ty tx : TE) : TE := fun σ H Q => td σ H fun x H1 => ∃ a, x = .ref a ∧ (∃ xs0, H1 a = some (DicN w a xs0)) ∧ ty σ H1 fun y H2 => tx σ H2 fun z H3 => ∃ (xs : List (NestedKey × V × V)) (k : NestedKey), H3 a = some (DicN w a xs) ∧ KeyFit H3 xs k y ∧ xs.length < sizeLine ∧
  (∀ v, at3 xs k = some v → Q v H3) ∧ (at3 xs k = none → Q z (upd H3 a (DicN w a (put3 xs k y z))))
def tNNew (w : World) : TE := fun _ H Q => ∀ p, H p = none → Q (.ref p) (upd H p (DicN w p []))
section
variable {X : Cx} {o i e f value : Expr} {pos pos' apos cpos : Pos} {td ty tv tx : TE}
theorem pe_nget (hu : X.A.units + 9 < cLine) (ho : PE X o td) (hi : PE X i ty) (hs : NoSl i) : PE X (.Subscript o i pos) (tNGet X.w td ty) := by
  refine ⟨fun pins s σ H Q I h => ?_⟩
  refine subD_of PySem.F.slot_dict_getitem.lookup hs (thn (ho.run pins s σ H _ I h) fun u s1 ⟨x, H1, I1, rx, q1⟩ => thn (hi.run pins s1 σ H1 _ I1 q1) fun iv s2 ⟨y, H2, I2, ry, a, v, ex, g, q2⟩ => ?_)
  subst ex
  obtain rfl : u = Value.ref a := rx
  obtain ⟨xs, k, e, r⟩ := g
  exact ⟨(n_typeIs I2 e).1, n_getItem hu I2 ⟨xs, k, e, r⟩ ry fun w' s3 I3 rw' => ⟨v, H2, I3, rw', q2⟩⟩
theorem pc_nin (hu : X.A.units + 9 < cLine) (hi : PE X i ty) (ho : PE X o td) : PC X .In i o (tNIn X.w ty td) := by
  refine ⟨fun pins s σ H Q I h => ?_⟩
  refine thn (hi.run pins s σ H _ I h) fun iv s1 ⟨y, H1, I1, ry, q1⟩ => thn (ho.run pins s1 σ H1 _ I1 q1) fun u s2 ⟨x, H2, I2, rx, a, ov, ex, g, q2⟩ => ?_
  subst ex
  obtain rfl : u = Value.ref a := rx
  exact n_in hu I2 g ry fun s3 I3 => ⟨.bl ov.isSome, H2, I3, rfl, q2⟩
theorem pc_nnotin (hu : X.A.units + 9 < cLine) (hi : PE X i ty) (ho : PE X o td) : PC X .NotIn i o (tNNotIn X.w ty td) := by
  refine ⟨fun pins s σ H Q I h => ?_⟩
  refine thn (hi.run pins s σ H _ I h) fun iv s1 ⟨y, H1, I1, ry, q1⟩ => thn (ho.run pins s1 σ H1 _ I1 q1) fun u s2 ⟨x, H2, I2, rx, a, ov, ex, g, q2⟩ => ?_
  subst ex
  obtain rfl : u = Value.ref a := rx
  exact n_notIn hu I2 g ry fun s3 I3 => ⟨.bl (!ov.isSome), H2, I3, rfl, q2⟩
theorem ps_nput (hu : X.A.units + 9 < cLine) (ho : PE X o td) (hi : PE X i ty) (hv : PE X value tv) (hs : swapsWith value (some (.Subscript o i pos')) pos.line X.env = pure false) :
    PS X (.Assign [.Subscript o i pos'] value pos) (sNPut X.w td ty tv) := by
  refine ⟨fun pins s σ H D I h => ?_⟩
  refine wpAny_Assign_Subscript (thn (hv.run pins s σ H _ I h) fun r s1 ⟨v, H1, I1, rv, q1⟩ => thn (ho.run pins s1 σ H1 _ I1 q1) fun u s2 ⟨x, H2, I2, rx, q2⟩ => thn (hi.run pins s2 σ H2 _ I2 q2) fun iv s3 ⟨y, H3, I3, ry, a, H4, ex, g, q3⟩ => ?_) hs
  subst ex
  obtain rfl : u = Value.ref a := rx
  exact n_setItem hu I3 g ry rv fun s4 I4 => ⟨σ, H4, I4, q3⟩
theorem pe_nsetd (hu : X.A.units + 9 < cLine) (ho : PE X o td) (he : PE X e ty) (hf : PE X f tx) (m : M2 X o "setdefault" apos e f cpos) : PE X (.Call (.Attribute o "setdefault" apos) [e, f] [] cpos) (tNSetd X.w td ty tx) := by
  refine ⟨fun pins s σ H Q I h => ?_⟩
  refine wpAny_Call_method m.base m.few m.line PySem.F.plainAttrs_dict PySem.F.slot_dict_setdefault PySem.F.type_dict_setdefault (thn (ho.run pins s σ H _ I h) fun u s1 ⟨x, H1, I1, rx, a, ex, ⟨xs0, d⟩, q1⟩ => ?_)
  subst ex
  obtain rfl : u = Value.ref a := rx
  obtain ⟨t1, t2⟩ := n_typeIs I1 d
  refine ⟨t1, t2, ?_⟩
  rw [m.trees]
  refine Calls.callWith_builtin rfl (Calls.evalArgs_plain (Calls.spliced_cons (thn (he.run pins s1 σ H1 _ I1 q1) fun iv s2 ⟨y, H2, I2, ry, q2⟩ =>
    Calls.spliced_cons (thn (hf.run pins s2 σ H2 _ I2 q2) fun fv s3 ⟨z, H3, I3, rz, xs, k, ea, ey, hl, q3, q4⟩ => Calls.spliced_nil ?_))))
  exact n_setd hu I3 ea ey ry rz hl (fun v hv w' s4 I4 rw' => ⟨v, _, I4, rw', q3 v hv⟩) fun hn w' s4 I4 rw' => ⟨z, _, I4, rw', q4 hn⟩
theorem dicN_empty {P : Program} {w : World} {H : Hp} (h : Heap) (hb : sysModules < h.objs.size) : ObjOk P w H (h.push { cls := .type "dict", data := .dict #[] }) h.objs.size (DicN w h.objs.size []) := by
  refine dicN_of_t (zs := []) (by rw [sizeLine_eq]; exact Nat.zero_le _) ?_ .nil (Heap.DictOfH.new h)
  exact beq_false_of_ne (Nat.ne_of_gt hb)
theorem pe_nnew : PE X (.Dict [] [] pos) (tNNew X.w) := by
  refine ⟨fun pins s σ H Q I h => wpAny_Dict_empty ⟨.ref s.heap.objs.size, upd H s.heap.objs.size (DicN X.w s.heap.objs.size []), ?_, rfl, h _ (I.hok.fresh (Nat.le_refl _))⟩⟩
  exact I.laid (t' := s.toks) (fun _ _ e => Heap.get?_push_of_some _ e) (Nat.le_refl s.heap.objs.size) (dicN_empty s.heap I.big)
/-- {k: v}, k a tuple -/
def tNDisp (w : World) (tk tv : TE) : TE := fun σ H Q => ∀ p, H p = none → tk σ (upd H p (DicN w p [])) fun x H1 => tv σ H1 fun y H2 => H2 p = some (DicN w p []) ∧ ∃ k, KeyT H2 k x ∧ Q (.ref p) (upd H2 p (DicN w p [(k, x, y)]))
theorem pe_ndisp {ek ev : Expr} {tk : TE} (hu : X.A.units + 9 < cLine) (hk : PE X ek tk) (hv : PE X ev tv) : PE X (.Dict [some ek] [ev] pos) (tNDisp X.w tk tv) := by
  refine ⟨fun pins s σ H Q I q => ?_⟩
  have hn := I.hok.fresh (Nat.le_refl s.heap.objs.size)
  have I1 : Inv X pins σ (upd H s.heap.objs.size (DicN X.w s.heap.objs.size [])) { s with heap := s.heap.push { cls := .type "dict", data := .dict #[] } } :=
    I.laid (t' := s.toks) (fun _ _ e => Heap.get?_push_of_some _ e) (Nat.le_refl s.heap.objs.size) (dicN_empty s.heap I.big)
  have sh := zip_pairTrees [some ek] [ev] X.env pos rfl rfl
  rw [arm_eval_Dict, sh, dictDisplay_pairs (pairTrees [some ek] [ev] X.env pos) (fun z => nomatch z) (show 1 < 17 by omega)]
  have hr : (nestedKind X.prog X.w).room X.A := by
    show X.A.units + 8 < cLine
    omega
  refine wpAny_bind (wpAny_standAt (wpAny_bind (wpAny_subDictH (knd := nestedKind X.prog X.w) hr (show 1 ≤ 15 by omega) ?_)))
  refine pairTrees_cons_walk (thn (hk.run pins _ σ _ _ I1 (q _ hn)) fun u s1 ⟨x, H1, J1, rx, q1⟩ => thn (hv.run pins s1 σ H1 _ J1 q1) fun w2 s2 ⟨y, H2, J2, ry, e2, k, ky, q2⟩ => pairTrees_nil_walk ?_)
  obtain ⟨b, rfl⟩ := ky.ref
  cases (show u = Value.ref b from rx)
  obtain ⟨hz, hd, zs, rel, dd⟩ := dicN_t J2.hok e2 (fun _ z => nomatch z)
  cases rel
  refine ⟨[(k, b, w2)], ⟨rfl, rfl, ky.is J2.hok, trivial⟩, dd, fun h' tk' dd' hs => wpAny_pure ⟨.ref s.heap.objs.size, _, ?_, rfl, q2⟩⟩
  have dd2 : h'.DictOfH (nestedKind X.prog X.w) s.heap.objs.size [(k, b, w2)] := dd'
  have he : ∃ o, h'.get? s.heap.objs.size = some o := let ⟨o, _, _, ho, _⟩ := dd2; ⟨o, ho⟩
  exact d_write J2 (by rw [e2]; exact True.intro) hs he (dicN_of_t (by rw [sizeLine_eq]; show 1 ≤ _; omega) hd (.cons ⟨rfl, rfl, ry⟩ .nil) dd2)
end
end Dx

namespace Dx
open PySem PySem.Spec PyProof.Rows L2
open Evl (Ex)
variable [Tb]

/-! ### dicts with nested keys: over data -/
def ents (ks ds : List D) : List (NestedKey × D × D) := zip3 (nkDs ks) ks ds
def ndic (mu : Mu) : DV → Option (World × List D × List D)
  | .dat (.dt w ks ds) => some (w, ks, ds)
  | .cel j => match mu[j]? with
    | some (.dt w ks ds) => some (w, ks, ds)
    | _ => none
  | _ => none
theorem ndic_out {F H : Hp} {al : List Addr} {mu : Mu} {x : DV} {v : V} {p : World × List D × List D} (C : Cels F al mu H) (r : RepV F al x v) (h : ndic mu x = some p) :
    ∃ a us vs, v = .ref a ∧ H a = some (DicN p.1 a (zip3 (nkDs p.2.1) us vs)) ∧ p.2.1.length = p.2.2.length ∧ RepL F p.2.1 us ∧ RepL F p.2.2 vs := by
  cases x with
  | dat d =>
    cases d with
    | dt w ks ds =>
      have h := Option.some.inj h
      subst h
      have r2 : Rep F (.dt w ks ds) v := r
      rw [Rep] at r2
      obtain ⟨a, us, vs, ev, hF, hl, rk, rl⟩ := r2
      exact ⟨a, us, vs, ev, C.ex _ _ hF, hl, rk, rl⟩
    | _ => cases h
  | cel j =>
    have h : (match mu[j]? with
      | some (.dt w ks ds) => some (w, ks, ds)
      | _ => none) = some p := h
    cases hj : mu[j]? with
    | none => rw [hj] at h; cases h
    | some mc =>
      rw [hj] at h
      cases mc with
      | dt w ks ds =>
        have h := Option.some.inj h
        subst h
        obtain ⟨a, ha, ev⟩ := r
        obtain ⟨_, us, vs, hH, hl, rk, rl⟩ := C.cel j a _ ha hj
        exact ⟨a, us, vs, ev, hH, hl, rk, rl⟩
      | _ => cases h
def keyFitD (ks : List D) (d : D) : Bool := (kTup d && ks.all kTup) || (kLeaf d && ks.all kLeaf)
abbrev R3 (F : Hp) (p : NestedKey × D × D) (q : NestedKey × V × V) : Prop := p.1 = q.1 ∧ nkD p.2.1 = p.1 ∧ Rep F p.2.1 q.2.1 ∧ Rep F p.2.2 q.2.2
theorem r3_of {F : Hp} : ∀ {ks ds : List D} {us vs : List V}, ks.length = ds.length → RepL F ks us → RepL F ds vs → Paired (R3 F) (ents ks ds) (zip3 (nkDs ks) us vs)
  | [], [], us, vs, _, rk, rd => by
    rw [rk.unnil, rd.unnil]
    exact .nil
  | [], _ :: _, us, vs, h, _, _ => by simp at h
  | _ :: _, [], us, vs, h, _, _ => by simp at h
  | k :: ks, d :: ds, us, vs, h, rk, rd => by
    obtain ⟨u, us', e1, a1, b1⟩ := rk.uncons
    obtain ⟨v, vs', e2, a2, b2⟩ := rd.uncons
    subst e1
    subst e2
    exact .cons ⟨rfl, rfl, a1, a2⟩ (r3_of (by simpa using h) b1 b2)
theorem r3_back {F : Hp} : ∀ {ps : List (NestedKey × D × D)} {qs : List (NestedKey × V × V)}, Paired (R3 F) ps qs →
    ∃ us vs, qs = zip3 (nkDs (ps.map (·.2.1))) us vs ∧ RepL F (ps.map (·.2.1)) us ∧ RepL F (ps.map (·.2.2)) vs
  | _, _, .nil => ⟨[], [], rfl, .nil, .nil⟩
  | p :: ps, q :: qs, .cons h t => by
    obtain ⟨us, vs, e, a, b⟩ := r3_back t
    refine ⟨q.2.1 :: us, q.2.2 :: vs, ?_, .cons h.2.2.1 a, .cons h.2.2.2 b⟩
    rw [e]
    show _ = (nkD p.2.1, q.2.1, q.2.2) :: _
    rw [h.2.1, h.1]
theorem r3_at {F : Hp} {ps : List (NestedKey × D × D)} {qs : List (NestedKey × V × V)} (h : Paired (R3 F) ps qs) (k : NestedKey) : (∀ d, at3 ps k = some d → ∃ v, at3 qs k = some v ∧ Rep F d v) ∧ (at3 ps k).isSome = (at3 qs k).isSome := by
  induction h with
  | nil => exact ⟨(fun d z => nomatch z), rfl⟩
  | @cons p q ps qs h t ih =>
    unfold at3 at ih ⊢
    rw [List.find?_cons, List.find?_cons, h.1]
    by_cases e : q.1 = k
    · rw [decide_eq_true e]
      exact ⟨fun d z => ⟨q.2.2, rfl, by rw [← Option.some.inj z]; exact h.2.2.2⟩, rfl⟩
    · rw [decide_eq_false e]
      exact ih
theorem r3_put {F : Hp} {ps : List (NestedKey × D × D)} {qs : List (NestedKey × V × V)} (h : Paired (R3 F) ps qs) {kd d : D} {u v : V} (rk : Rep F kd u) (rd : Rep F d v) : Paired (R3 F) (put3 ps (nkD kd) kd d) (put3 qs (nkD kd) u v) := by
  unfold put3
  rw [(r3_at h (nkD kd)).2]
  split
  · rename_i hs
    clear hs
    induction h with
    | nil => exact .nil
    | @cons p q ps qs h t ih =>
      refine .cons ?_ ih
      show R3 F (if p.1 = nkD kd then (p.1, p.2.1, d) else p) (if q.1 = nkD kd then (q.1, q.2.1, v) else q)
      by_cases e : p.1 = nkD kd
      · rw [if_pos e, if_pos (h.1.symm.trans e)]
        exact ⟨h.1, h.2.1, h.2.2.1, rd⟩
      · rw [if_neg e, if_neg (fun z => e (h.1.trans z))]
        exact h
  · exact paired_app h (.cons ⟨rfl, rfl, rk, rd⟩ .nil)
theorem zip3_key {F H : Hp} (e : Ex F H) : ∀ {ks : List D} {us vs : List V}, RepL F ks us → (ks.all kTup = true → KeysT H (zip3 (nkDs ks) us vs)) ∧ (ks.all kLeaf = true → KeysL (zip3 (nkDs ks) us vs))
  | [], us, vs, r => ⟨(fun _ x h => nomatch h), (fun _ x h => nomatch h)⟩
  | k :: ks, us, vs, r => by
    obtain ⟨u, us', e1, a, b⟩ := r.uncons
    subst e1
    cases vs with
    | nil => exact ⟨(fun _ x h => nomatch h), (fun _ x h => nomatch h)⟩
    | cons v vs =>
      obtain ⟨h1, h2⟩ := zip3_key e (vs := vs) b
      constructor
      · intro h x hx
        rw [List.all_cons, Bool.and_eq_true_iff] at h
        rcases List.mem_cons.mp hx with z | z
        · subst z
          exact ⟨F, k, e, h.1, a, rfl⟩
        · exact h1 h.2 x z
      · intro h x hx
        rw [List.all_cons, Bool.and_eq_true_iff] at h
        rcases List.mem_cons.mp hx with z | z
        · subst z
          exact ⟨F, k, h.1, a, rfl⟩
        · exact h2 h.2 x z
theorem fit_of {F H : Hp} (e : Ex F H) {ks : List D} {d : D} {us vs : List V} {y : V} (r : RepL F ks us) (rd : Rep F d y) (h : keyFitD ks d = true) : KeyFit H (zip3 (nkDs ks) us vs) (nkD d) y := by
  unfold keyFitD at h
  rcases Bool.or_eq_true_iff.mp h with h | h
  · rw [Bool.and_eq_true_iff] at h
    exact .inl ⟨(zip3_key e r).1 h.2, F, d, e, h.1, rd, rfl⟩
  · rw [Bool.and_eq_true_iff] at h
    exact .inr ⟨(zip3_key e r).2 h.2, F, d, h.1, rd, rfl⟩

/-! #### by values -/
@[irreducible] def nGet (w : World) (x y : DV) (mu : Mu) (Q : DQ) : Prop := onD y fun d => onSome (ndic mu x) fun p => p.1 = w ∧ keyFitD p.2.1 d = true ∧ onSome (at3 (ents p.2.1 p.2.2) (nkD d)) fun r => Q (.dat r) mu
@[irreducible] def nIn (w : World) (neg : Bool) (y x : DV) (mu : Mu) (Q : DQ) : Prop := onD y fun d => onSome (ndic mu x) fun p => p.1 = w ∧ keyFitD p.2.1 d = true ∧ Q (.dat (.bl (if neg then !(at3 (ents p.2.1 p.2.2) (nkD d)).isSome else (at3 (ents p.2.1 p.2.2) (nkD d)).isSome))) mu
def dtPut (w : World) (ks ds : List D) (kd d : D) : MC := .dt w ((put3 (ents ks ds) (nkD kd) kd d).map (·.2.1)) ((put3 (ents ks ds) (nkD kd) kd d).map (·.2.2))
@[irreducible] def nPut (w : World) (z x y : DV) (mu : Mu) (K : Mu → Prop) : Prop := onD z fun d => onD y fun kd => match x with
  | .cel j => match mu[j]? with
    | some (.dt w' ks ds) => w' = w ∧ keyFitD ks kd = true ∧ ks.length < 100000 ∧ K (mu.set j (dtPut w ks ds kd d))
    | _ => False
  | _ => False
@[irreducible] def nSetd (w : World) (x y z : DV) (mu : Mu) (Q : DQ) : Prop := onD z fun d => onD y fun kd => match x with
  | .cel j => match mu[j]? with
    | some (.dt w' ks ds) => w' = w ∧ keyFitD ks kd = true ∧ ks.length < 100000 ∧ (∀ r, at3 (ents ks ds) (nkD kd) = some r → Q (.dat r) mu) ∧ (at3 (ents ks ds) (nkD kd) = none → Q (.dat d) (mu.set j (dtPut w ks ds kd d)))
    | _ => False
  | _ => False
def dNget (w : World) (to ti : DE) : DE := fun rho mu Q => to rho mu fun x mu1 => ti rho mu1 fun y mu2 => nGet w x y mu2 Q
def dNin (w : World) (neg : Bool) (ti to : DE) : DE := fun rho mu Q => ti rho mu fun y mu1 => to rho mu1 fun x mu2 => nIn w neg y x mu2 Q
def dNput (w : World) (to ti te : DE) : DS := fun D rho mu => te rho mu fun z mu1 => to rho mu1 fun x mu2 => ti rho mu2 fun y mu3 => nPut w z x y mu3 fun mu4 => D.nx rho mu4
def dNsetd (w : World) (to ti tz : DE) : DE := fun rho mu Q => to rho mu fun x mu1 => onSome (ndic mu1 x) fun p => p.1 = w ∧ ti rho mu1 fun y mu2 => tz rho mu2 fun z mu3 => nSetd w x y z mu3 Q
def fDN0 (w : World) : DF := fun rho mu Q => Q (.dt w [] []) mu
def fDN1 (w : World) (tk tv : DE) : DF := fun rho mu Q => tk rho mu fun x mu1 => tv rho mu1 fun y mu2 => onD x fun kd => onD y fun d => kTup kd = true ∧ Q (.dt w [kd] [d]) mu2
section
variable {X : Cx} {o i e f k v value : Expr} {to ti te tk tv tz : DE} {pos pos' apos : Pos}
theorem ce_nget (hu : X.A.units + 64 < cLine) (ho : CE X o to) (hi : CE X i ti) (hs : NoSl i := by intro _ _; rfl) : CE X (.Subscript o i pos) (dNget X.w to ti) := by
  obtain ⟨_, p1, g1⟩ := ho.ok
  obtain ⟨_, p2, g2⟩ := hi.ok
  refine ⟨_, pe_nget (by omega) p1 p2 hs, fun F al rho mu σ H Q R S q l => g1 F al rho mu σ H _ _ S q fun F1 al1 x mu1 v1 H1 E1 C1 r1 q1 => ?_⟩
  refine g2 F1 al1 rho mu1 σ H1 _ _ (S.of C1 E1.ex E1.pf) q1 fun F2 al2 y mu2 v2 H2 E2 C2 r2 q2 => ?_
  unfold nGet at q2
  obtain ⟨d, ed, q3⟩ := onD_out q2
  subst ed
  obtain ⟨p, hp, ew, kf, q3⟩ := onSome_out q3
  obtain ⟨r, hr, q3⟩ := onSome_out q3
  obtain ⟨a, us, vs, ev, hH, hl, rk, rl⟩ := ndic_out C2 (r1.mono E2.ex E2.pf) hp
  rw [ew] at hH
  have r3 := r3_of hl rk rl
  obtain ⟨v, hv, rv⟩ := (r3_at r3 (nkD d)).1 r hr
  exact ⟨a, v, ev, ⟨_, _, hH, fit_of C2.ex rk r2 kf, hv.symm⟩, l F2 al2 (.dat r) mu2 v H2 (E1.trans E2) C2 rv q3⟩
theorem g_nin {X : Cx} {t1 t2 : TE} (g2 : GE t1 ti) (g1 : GE t2 to) : GE (tNIn X.w t1 t2) (dNin X.w false ti to) := by
  refine fun F al rho mu σ H Q R S q l => g2 F al rho mu σ H _ _ S q fun F1 al1 y mu1 v1 H1 E1 C1 r1 q1 => ?_
  refine g1 F1 al1 rho mu1 σ H1 _ _ (S.of C1 E1.ex E1.pf) q1 fun F2 al2 x mu2 v2 H2 E2 C2 r2 q2 => ?_
  unfold nIn at q2
  obtain ⟨d, ed, q3⟩ := onD_out q2
  subst ed
  obtain ⟨p, hp, ew, kf, q3⟩ := onSome_out q3
  obtain ⟨a, us, vs, ev, hH, hl, rk, rl⟩ := ndic_out C2 r2 hp
  rw [ew] at hH
  have r3 := r3_of hl rk rl
  refine ⟨a, _, ev, ⟨_, _, hH, fit_of C2.ex rk (r1.mono E2.ex E2.pf) kf, rfl⟩, ?_⟩
  rw [← (r3_at r3 (nkD d)).2]
  exact l F2 al2 _ mu2 _ H2 (E1.trans E2) C2 rv_bl q3
theorem ce_nin (hu : X.A.units + 64 < cLine) (hi : CE X i ti) (ho : CE X o to) (h1 : behindInMarks .In o = false := by first | exact nobehind _ (by decide) (by decide) | rfl) : CE X (.Compare i [.In] [o] pos) (dNin X.w false ti to) :=
  let ⟨_, p1, g1⟩ := ho.ok; let ⟨_, p2, g2⟩ := hi.ok; ⟨_, pe_cmp (pc_nin (by omega) p2 p1) h1, g_nin g2 g1⟩
theorem ct_nin (hu : X.A.units + 64 < cLine) (hi : CE X i ti) (ho : CE X o to) (h1 : behindInMarks .In o = false := by first | exact nobehind _ (by decide) (by decide) | rfl) : CT X (.Compare i [.In] [o] pos) (dTest (dNin X.w false ti to)) :=
  let ⟨_, p1, g1⟩ := ho.ok; let ⟨_, p2, g2⟩ := hi.ok; ⟨_, pt_cmp (pc_nin (by omega) p2 p1) h1, gt_test (g_nin g2 g1)⟩
theorem g_nnin {X : Cx} {t1 t2 : TE} (g2 : GE t1 ti) (g1 : GE t2 to) : GE (tNNotIn X.w t1 t2) (dNin X.w true ti to) := by
  refine fun F al rho mu σ H Q R S q l => g2 F al rho mu σ H _ _ S q fun F1 al1 y mu1 v1 H1 E1 C1 r1 q1 => ?_
  refine g1 F1 al1 rho mu1 σ H1 _ _ (S.of C1 E1.ex E1.pf) q1 fun F2 al2 x mu2 v2 H2 E2 C2 r2 q2 => ?_
  unfold nIn at q2
  obtain ⟨d, ed, q3⟩ := onD_out q2
  subst ed
  obtain ⟨p, hp, ew, kf, q3⟩ := onSome_out q3
  obtain ⟨a, us, vs, ev, hH, hl, rk, rl⟩ := ndic_out C2 r2 hp
  rw [ew] at hH
  have r3 := r3_of hl rk rl
  refine ⟨a, _, ev, ⟨_, _, hH, fit_of C2.ex rk (r1.mono E2.ex E2.pf) kf, rfl⟩, ?_⟩
  rw [← (r3_at r3 (nkD d)).2]
  exact l F2 al2 _ mu2 _ H2 (E1.trans E2) C2 rv_bl q3
theorem ce_nnin (hu : X.A.units + 64 < cLine) (hi : CE X i ti) (ho : CE X o to) (h1 : behindInMarks .NotIn o = false := by first | exact nobehind _ (by decide) (by decide) | rfl) : CE X (.Compare i [.NotIn] [o] pos) (dNin X.w true ti to) :=
  let ⟨_, p1, g1⟩ := ho.ok; let ⟨_, p2, g2⟩ := hi.ok; ⟨_, pe_cmp (pc_nnotin (by omega) p2 p1) h1, g_nnin g2 g1⟩
theorem ct_nnin (hu : X.A.units + 64 < cLine) (hi : CE X i ti) (ho : CE X o to) (h1 : behindInMarks .NotIn o = false := by first | exact nobehind _ (by decide) (by decide) | rfl) : CT X (.Compare i [.NotIn] [o] pos) (dTest (dNin X.w true ti to)) :=
  let ⟨_, p1, g1⟩ := ho.ok; let ⟨_, p2, g2⟩ := hi.ok; ⟨_, pt_cmp (pc_nnotin (by omega) p2 p1) h1, gt_test (g_nnin g2 g1)⟩
theorem zip3_len {F : Hp} {ks ds : List D} {us vs : List V} (hl : ks.length = ds.length) (rk : RepL F ks us) (rl : RepL F ds vs) : (zip3 (nkDs ks) us vs).length = ks.length := by
  have e : ∀ {ks ds : List D}, ks.length = ds.length → (ents ks ds).length = ks.length := by
    intro ks
    induction ks with
    | nil => intro ds h; rfl
    | cons k ks ih =>
      intro ds h
      cases ds with
      | nil => simp at h
      | cons d ds => show (ents ks ds).length + 1 = ks.length + 1; rw [ih (by simpa using h)]
  rw [← Paired.length (r3_of hl rk rl), e hl]
/-- what is stored, told to the cells -/
theorem put_cel {F H : Hp} {al : List Addr} {mu : Mu} {j : Nat} {a : Addr} {w : World} {ks ds : List D} {kd d : D} {us vs : List V} {u v : V} (C : Cels F al mu H) (ha : al[j]? = some a) (hj : mu[j]? = some (.dt w ks ds)) (hn : F a = none) (hl : ks.length = ds.length) (rk : RepL F ks us) (rl : RepL F ds vs) (ru : Rep F kd u) (rv : Rep F d v) :
    Cels F al (mu.set j (dtPut w ks ds kd d)) (upd H a (DicN w a (put3 (zip3 (nkDs ks) us vs) (nkD kd) u v))) ∧ Ext F al H F al (upd H a (DicN w a (put3 (zip3 (nkDs ks) us vs) (nkD kd) u v))) := by
  obtain ⟨us', vs', e, a1, a2⟩ := r3_back (r3_put (r3_of hl rk rl) ru rv)
  refine C.put (m' := dtPut w ks ds kd d) ha hj rfl ⟨hn, us', vs', ?_, by rw [List.length_map, List.length_map], a1, a2⟩
  rw [upd_same, e]
theorem cs_nput (hu : X.A.units + 64 < cLine) (ho : CE X o to) (hi : CE X i ti) (hv : CE X value te) (hs : swapsWith value (some (.Subscript o i pos')) pos.line X.env = pure false := by rfl) : CS X (.Assign [.Subscript o i pos'] value pos) (dNput X.w to ti te) := by
  obtain ⟨_, p1, g1⟩ := ho.ok
  obtain ⟨_, p2, g2⟩ := hi.ok
  obtain ⟨_, p3, g3⟩ := hv.ok
  refine ⟨_, ps_nput (by omega) p1 p2 p3 hs, fun F al rho mu σ H D E S q l => g3 F al rho mu σ H _ _ S q fun F1 al1 z mu1 v1 H1 E1 C1 r1 q1 => ?_⟩
  refine g1 F1 al1 rho mu1 σ H1 _ _ (S.of C1 E1.ex E1.pf) q1 fun F2 al2 x mu2 v2 H2 E2 C2 r2 q2 => ?_
  have E12 := E1.trans E2
  refine g2 F2 al2 rho mu2 σ H2 _ _ (S.of C2 E12.ex E12.pf) q2 fun F3 al3 y mu3 v3 H3 E3 C3 r3 q3 => ?_
  have E13 := E12.trans E3
  unfold nPut at q3
  obtain ⟨d, ed, q4⟩ := onD_out q3
  obtain ⟨kd, ek, q6⟩ := onD_out q4
  clear q3 q4
  subst ed
  subst ek
  cases x with
  | dat _ => exact q6.elim
  | cel j =>
    have q3 : (match mu3[j]? with
      | some (.dt w' ks ds) => w' = X.w ∧ keyFitD ks kd = true ∧ ks.length < 100000 ∧ D.nx rho (mu3.set j (dtPut X.w ks ds kd d))
      | _ => False) := q6
    cases hj : mu3[j]? with
    | none => rw [hj] at q3; exact q3.elim
    | some mc =>
      rw [hj] at q3
      cases mc with
      | dt w' ks ds =>
        obtain ⟨ew, kf, hz, q4⟩ := q3
        subst ew
        obtain ⟨a, ha, ev⟩ := r2.mono E3.ex E3.pf
        subst ev
        obtain ⟨hn, us, vs, hH, hl, rk, rl⟩ := C3.cel j a _ ha hj
        have rd : Rep F3 d v1 := (r1.mono E2.ex E2.pf).mono E3.ex E3.pf
        obtain ⟨c2, e3⟩ := put_cel C3 ha hj hn hl rk rl r3 rd
        refine ⟨a, _, rfl, ⟨_, _, hH, fit_of C3.ex rk r3 kf, ?_, rfl⟩, ?_⟩
        · rw [zip3_len hl rk rl]
          exact Nat.lt_of_lt_of_le hz (Evl.sz_of (Nat.le_refl _))
        · exact l.nx F3 al3 rho _ σ _ (E13.trans e3) (S.of c2 (E13.trans e3).ex (E13.trans e3).pf) q4
      | _ => exact q3.elim
theorem ce_nsetd (hu : X.A.units + 64 < cLine) (ho : CE X o to) (he : CE X e ti) (hf : CE X f tz) (m : M2 X o "setdefault" apos e f pos := by exact ⟨rfl, rfl, rfl, rfl⟩) : CE X (.Call (.Attribute o "setdefault" apos) [e, f] [] pos) (dNsetd X.w to ti tz) := by
  obtain ⟨_, p1, g1⟩ := ho.ok
  obtain ⟨_, p2, g2⟩ := he.ok
  obtain ⟨_, p3, g3⟩ := hf.ok
  refine ⟨_, pe_nsetd (by omega) p1 p2 p3 m, fun F al rho mu σ H Q R S q l => g1 F al rho mu σ H _ _ S q fun F1 al1 x mu1 v1 H1 E1 C1 r1 q1 => ?_⟩
  obtain ⟨p, hp, ew, q1⟩ := onSome_out q1
  obtain ⟨a, us0, vs0, ev, hH0, _⟩ := ndic_out C1 r1 hp
  subst ev
  rw [ew] at hH0
  refine ⟨a, rfl, ⟨_, hH0⟩, ?_⟩
  refine g2 F1 al1 rho mu1 σ H1 _ _ (S.of C1 E1.ex E1.pf) q1 fun F2 al2 y mu2 v2 H2 E2 C2 r2 q2 => ?_
  have E12 := E1.trans E2
  refine g3 F2 al2 rho mu2 σ H2 _ _ (S.of C2 E12.ex E12.pf) q2 fun F3 al3 z mu3 v3 H3 E3 C3 r3 q3 => ?_
  have E13 := E12.trans E3
  unfold nSetd at q3
  obtain ⟨d, ed, q4⟩ := onD_out q3
  obtain ⟨kd, ek, q6⟩ := onD_out q4
  clear q3 q4
  subst ed
  subst ek
  cases x with
  | dat _ => exact q6.elim
  | cel j =>
    have q3 : (match mu3[j]? with
      | some (.dt w' ks ds) => w' = X.w ∧ keyFitD ks kd = true ∧ ks.length < 100000 ∧ (∀ r, at3 (ents ks ds) (nkD kd) = some r → Q (.dat r) mu3) ∧ (at3 (ents ks ds) (nkD kd) = none → Q (.dat d) (mu3.set j (dtPut X.w ks ds kd d)))
      | _ => False) := q6
    cases hj : mu3[j]? with
    | none => rw [hj] at q3; exact q3.elim
    | some mc =>
      rw [hj] at q3
      cases mc with
      | dt w' ks ds =>
        obtain ⟨ew', kf, hz, q4, q5⟩ := q3
        subst ew'
        obtain ⟨a', ha, ev⟩ := (r1.mono E2.ex E2.pf).mono E3.ex E3.pf
        have ev : a = a' := by injection ev
        subst ev
        obtain ⟨hn, us, vs, hH, hl, rk, rl⟩ := C3.cel j a _ ha hj
        have rk3 : Rep F3 kd v2 := r2.mono E3.ex E3.pf
        obtain ⟨c2, e3⟩ := put_cel C3 ha hj hn hl rk rl rk3 r3
        have r3' := r3_of hl rk rl
        refine ⟨_, _, hH, fit_of C3.ex rk rk3 kf, ?_, fun v hv => ?_, fun hv => ?_⟩
        · rw [zip3_len hl rk rl]
          exact Nat.lt_of_lt_of_le hz (Evl.sz_of (Nat.le_refl _))
        · have hs := (r3_at r3' (nkD kd)).2
          rw [hv] at hs
          obtain ⟨r, hr⟩ := Option.isSome_iff_exists.mp hs
          obtain ⟨v', hv', rv'⟩ := (r3_at r3' (nkD kd)).1 r hr
          rw [hv] at hv'
          cases hv'
          exact l F3 al3 (.dat r) mu3 v H3 E13 C3 rv' (q4 r hr)
        · have hs := (r3_at r3' (nkD kd)).2
          rw [hv] at hs
          have hn' : at3 (ents ks ds) (nkD kd) = none := by
            cases z : at3 (ents ks ds) (nkD kd) with
            | none => rfl
            | some _ => rw [z] at hs; cases hs
          exact l F3 al3 (.dat d) _ v3 _ (E13.trans e3) c2 r3 (q5 hn')
      | _ => exact q3.elim
theorem cf_dN0 : CF X (.Dict [] [] pos) (fDN0 X.w) := ⟨_, pe_nnew, fun F al rho mu σ H Q R S q l p hp =>
  l F al (.dt X.w [] []) mu p _ (Ext.loose hp) (S.toCels.loose hp) (S.toCels.not_al hp) hp rfl ⟨ex_none S.ex hp, [], [], upd_same, rfl, .nil, .nil⟩ q⟩
theorem cf_dN1 (hu : X.A.units + 64 < cLine) (hk : CE X k tk) (hv : CE X v tv) : CF X (.Dict [some k] [v] pos) (fDN1 X.w tk tv) := by
  obtain ⟨_, p1, g1⟩ := hk.ok
  obtain ⟨_, p2, g2⟩ := hv.ok
  refine ⟨_, pe_ndisp (by omega) p1 p2, fun F al rho mu σ H Q R S q l p hp => ?_⟩
  have E0 : Ext F al H F al (upd H p (DicN X.w p [])) := Ext.loose hp
  have C0 := S.toCels.loose (o := DicN X.w p []) hp
  have na := S.toCels.not_al hp
  have nF : F p = none := ex_none S.ex hp
  refine g1 F al rho mu σ _ _ _ (S.of C0 E0.ex E0.pf) q fun F1 al1 x mu1 v1 H1 E1 C1 r1 q1 => ?_
  refine g2 F1 al1 rho mu1 σ H1 _ _ (S.of C1 (E0.trans E1).ex (E0.trans E1).pf) q1 fun F2 al2 y mu2 v2 H2 E2 C2 r2 q2 => ?_
  have E02 := E1.trans E2
  obtain ⟨kd, ek, q3⟩ := onD_out q2
  obtain ⟨d, ed, kt, q5⟩ := onD_out q3
  clear q2 q3
  subst ek
  subst ed
  have hH2 : H2 p = some (DicN X.w p []) := E02.kp p _ na upd_same (plain_dicN (a := p)).1
  have n2 : p ∉ al2 := fun z => by
    rcases E02.nc p z with w | w
    · exact na w
    · rw [upd_same] at w
      cases w
  have nF2 : F2 p = none := by
    cases w : F2 p with
    | none => rfl
    | some o =>
      rcases E02.nf p (by rw [w]; exact fun z => nomatch z) with z | z | z
      · exact absurd nF z
      · rw [upd_same] at z
        cases z
      · exact absurd z na
  have rk2 : Rep F2 kd v1 := r1.mono E2.ex E2.pf
  refine ⟨hH2, nkD kd, ⟨F2, kd, C2.ex, kt, rk2, rfl⟩, ?_⟩
  have E := E0.trans E02
  have ex : Ext F al H F2 al2 (upd H2 p (DicN X.w p [(nkD kd, v1, v2)])) := ⟨E.ex, E.pf, E.nf, E.nc, fun a o ha h nt => by
    rw [upd_ne (fun z => by rw [z, hp] at h; cases h)]
    exact E.kp a o ha h nt, fun a h => by
    by_cases z : a = p
    · subst z
      rw [upd_same]
      exact fun z => nomatch z
    · rw [upd_ne z]
      exact E.dm a h⟩
  refine l F2 al2 (.dt X.w [kd] [d]) mu2 p _ ex (C2.other n2 nF2 hH2 plain_dicN) n2 hp rfl ⟨nF2, [v1], [v2], ?_, rfl, .cons rk2 .nil, .cons r2 .nil⟩ q5
  rw [upd_same]
  rfl
end
end Dx

namespace Dx
open PySem PySem.Spec PyProof.Rows L2
open Evl (Ex)
variable [Tb]

/-! ### dicts by keys and values of one's own types -/
section
variable {κ α : Type} [DecidableEq κ]
def alook (l : List (κ × α)) (k : κ) : Option α := (l.find? fun p => decide (p.1 = k)).map (·.2)
def aput (l : List (κ × α)) (k : κ) (v : α) : List (κ × α) := if (alook l k).isSome then l.map (fun p => if p.1 = k then (p.1, v) else p) else l ++ [(k, v)]
theorem alook_cons (p : κ × α) (l : List (κ × α)) (k : κ) : alook (p :: l) k = if p.1 = k then some p.2 else alook l k := by
  unfold alook
  rw [List.find?_cons]
  by_cases e : p.1 = k
  · rw [decide_eq_true e, if_pos e]; rfl
  · rw [decide_eq_false e, if_neg e]
theorem alook_app (l m : List (κ × α)) (k : κ) : alook (l ++ m) k = (alook l k).or (alook m k) := by
  induction l with
  | nil => rfl
  | cons p l ih =>
    rw [List.cons_append, alook_cons, alook_cons, ih]
    by_cases e : p.1 = k
    · rw [if_pos e, if_pos e]; rfl
    · rw [if_neg e, if_neg e]
theorem alook_some {l : List (κ × α)} {k : κ} : (alook l k).isSome = true ↔ k ∈ l.map (·.1) := by
  induction l with
  | nil => exact ⟨fun h => (nomatch h), fun h => (nomatch h)⟩
  | cons p l ih =>
    rw [alook_cons, List.map_cons, List.mem_cons]
    by_cases e : p.1 = k
    · rw [if_pos e]
      exact ⟨fun _ => .inl e.symm, fun _ => rfl⟩
    · rw [if_neg e, ih]
      exact ⟨.inr, fun h => h.elim (fun z => absurd z.symm e) id⟩
theorem alook_none {l : List (κ × α)} {k : κ} : alook l k = none ↔ k ∉ l.map (·.1) := by
  rw [← alook_some]
  cases alook l k with
  | none => exact ⟨(fun _ h => nomatch h), fun _ => rfl⟩
  | some x => exact ⟨(fun h => nomatch h), fun h => absurd rfl h⟩
theorem alook_mem {l : List (κ × α)} {k : κ} {v : α} (h : alook l k = some v) : (k, v) ∈ l := by
  induction l with
  | nil => cases h
  | cons p l ih =>
    rw [alook_cons] at h
    by_cases e : p.1 = k
    · rw [if_pos e] at h
      cases h
      subst e
      exact List.mem_cons_self ..
    · rw [if_neg e] at h
      exact List.mem_cons_of_mem _ (ih h)
theorem alook_of {l : List (κ × α)} (nd : (l.map (·.1)).Nodup) {k : κ} {v : α} (h : (k, v) ∈ l) : alook l k = some v := by
  induction l with
  | nil => cases h
  | cons p l ih =>
    rw [List.map_cons, List.nodup_cons] at nd
    rw [alook_cons]
    rcases List.mem_cons.mp h with e | h
    · subst e
      rw [if_pos rfl]
    · rw [if_neg (fun e => nd.1 (by rw [e]; exact List.mem_map.mpr ⟨_, h, rfl⟩)), ih nd.2 h]
theorem aput_new {l : List (κ × α)} {k : κ} (v : α) (h : k ∉ l.map (·.1)) : aput l k v = l ++ [(k, v)] := by
  unfold aput
  rw [alook_none.mpr h]
  rfl
theorem aput_old {l : List (κ × α)} {k : κ} (v : α) (h : k ∈ l.map (·.1)) : aput l k v = l.map (fun p => if p.1 = k then (p.1, v) else p) := by
  unfold aput
  rw [if_pos (alook_some.mpr h)]
theorem aput_keys (l : List (κ × α)) (k : κ) (v : α) : (aput l k v).map (·.1) = if k ∈ l.map (·.1) then l.map (·.1) else l.map (·.1) ++ [k] := by
  by_cases h : k ∈ l.map (·.1)
  · rw [aput_old v h, if_pos h, List.map_map]
    apply List.map_congr_left
    intro p _
    show (if p.1 = k then (p.1, v) else p).1 = p.1
    split <;> rfl
  · rw [aput_new v h, if_neg h, List.map_append]
    rfl
theorem alook_map {f : κ × α → κ × α} (hf : ∀ p, (f p).1 = p.1) (l : List (κ × α)) (k : κ) : alook (l.map f) k = (l.find? fun p => decide (p.1 = k)).map fun p => (f p).2 := by
  induction l with
  | nil => rfl
  | cons p l ih =>
    rw [List.map_cons, alook_cons, hf, List.find?_cons]
    by_cases e : p.1 = k
    · rw [if_pos e, decide_eq_true e]; rfl
    · rw [if_neg e, decide_eq_false e, ih]
theorem alook_put (l : List (κ × α)) (k k' : κ) (v : α) : alook (aput l k v) k' = if k' = k then some v else alook l k' := by
  by_cases h : k ∈ l.map (·.1)
  · rw [aput_old v h, alook_map (fun p => by split <;> rfl)]
    by_cases e : k' = k
    · subst e
      rw [if_pos rfl]
      have := alook_some.mpr h
      unfold alook at this
      cases q : l.find? (fun p => decide (p.1 = k')) with
      | none => rw [q] at this; cases this
      | some p =>
        have e1 : p.1 = k' := of_decide_eq_true (List.find?_some (p := fun p : κ × α => decide (p.1 = k')) q)
        show some ((if p.1 = k' then (p.1, v) else p).2) = some v
        rw [if_pos e1]
    · rw [if_neg e]
      unfold alook
      cases q : l.find? (fun p => decide (p.1 = k')) with
      | none => rfl
      | some p =>
        have e1 : p.1 = k' := of_decide_eq_true (List.find?_some (p := fun p : κ × α => decide (p.1 = k')) q)
        show some ((if p.1 = k then (p.1, v) else p).2) = some p.2
        rw [if_neg (fun z => e (e1.symm.trans z))]
  · rw [aput_new v h, alook_app]
    by_cases e : k' = k
    · subst e
      rw [if_pos rfl, alook_none.mpr h, alook_cons, if_pos rfl]
      rfl
    · rw [if_neg e, alook_cons, if_neg (fun z => e z.symm)]
      cases alook l k' <;> rfl
theorem aput_len (l : List (κ × α)) (k : κ) (v : α) : (aput l k v).length ≤ l.length + 1 := by
  unfold aput
  split
  · rw [List.length_map]; omega
  · rw [List.length_append]; exact Nat.le_refl _
end
/-- keys and values as data -/
structure KM (κ α : Type) where
  kd : κ → D
  vd : α → D
  fit : (∀ k, kTup (kd k) = true) ∨ (∀ k, kLeaf (kd k) = true)
  inj : ∀ a b, nkD (kd a) = nkD (kd b) → a = b
section
variable {κ α : Type} [DecidableEq κ] {w : World} {mu : Mu} {j : Nat} {l : List (κ × α)}
def dtM (m : KM κ α) (w : World) (l : List (κ × α)) : MC := .dt w (l.map fun p => m.kd p.1) (l.map fun p => m.vd p.2)
def kmE (m : KM κ α) (l : List (κ × α)) : List (NestedKey × D × D) := l.map fun p => (nkD (m.kd p.1), m.kd p.1, m.vd p.2)
theorem ents_km (m : KM κ α) : ∀ l : List (κ × α), ents (l.map fun p => m.kd p.1) (l.map fun p => m.vd p.2) = kmE m l
  | [] => rfl
  | p :: l => by
    show (nkD (m.kd p.1), m.kd p.1, m.vd p.2) :: ents (l.map fun p => m.kd p.1) (l.map fun p => m.vd p.2) = _
    rw [ents_km m l]
    rfl
theorem at3_km (m : KM κ α) (k : κ) : ∀ l : List (κ × α), at3 (kmE m l) (nkD (m.kd k)) = (alook l k).map m.vd
  | [] => rfl
  | p :: l => by
    have ih := at3_km m k l
    unfold at3 kmE at ih ⊢
    rw [List.map_cons, List.find?_cons, alook_cons]
    by_cases e : p.1 = k
    · rw [if_pos e, e, decide_eq_true rfl]; rfl
    · rw [if_neg e, decide_eq_false (fun z => e (m.inj _ _ z))]
      exact ih
theorem put3_km (m : KM κ α) (l : List (κ × α)) (k : κ) (v : α) : put3 (kmE m l) (nkD (m.kd k)) (m.kd k) (m.vd v) = kmE m (aput l k v) := by
  unfold put3 aput
  rw [at3_km, Option.isSome_map]
  split
  · unfold kmE
    rw [List.map_map, List.map_map]
    apply List.map_congr_left
    intro p _
    show (if nkD (m.kd p.1) = nkD (m.kd k) then (nkD (m.kd p.1), m.kd p.1, m.vd v) else _) = _
    by_cases e : p.1 = k
    · rw [if_pos (by rw [e])]
      show _ = (nkD (m.kd (if p.1 = k then (p.1, v) else p).1), m.kd (if p.1 = k then (p.1, v) else p).1, m.vd (if p.1 = k then (p.1, v) else p).2)
      rw [if_pos e]
    · rw [if_neg (fun z => e (m.inj _ _ z))]
      show _ = (nkD (m.kd (if p.1 = k then (p.1, v) else p).1), m.kd (if p.1 = k then (p.1, v) else p).1, m.vd (if p.1 = k then (p.1, v) else p).2)
      rw [if_neg e]
  · unfold kmE
    rw [List.map_append]
    rfl
theorem dtPut_km (m : KM κ α) (k : κ) (v : α) : dtPut w (l.map fun p => m.kd p.1) (l.map fun p => m.vd p.2) (m.kd k) (m.vd v) = dtM m w (aput l k v) := by
  unfold dtPut dtM
  rw [ents_km, put3_km]
  unfold kmE
  rw [List.map_map, List.map_map]
  rfl
theorem fit_km (m : KM κ α) (k : κ) : keyFitD (l.map fun p => m.kd p.1) (m.kd k) = true := by
  unfold keyFitD
  rcases m.fit with h | h
  · rw [h k, List.all_map]
    have : (l.all (kTup ∘ fun p => m.kd p.1)) = true := List.all_eq_true.mpr fun p _ => h p.1
    rw [this]
    rfl
  · have : ((l.map fun p => m.kd p.1).all kLeaf) = true := by
      rw [List.all_map]
      exact List.all_eq_true.mpr fun p _ => h p.1
    rw [h k, this, Bool.and_true, Bool.or_true]
theorem ndic_cel {m : KM κ α} (h : mu[j]? = some (dtM m w l)) : ndic mu (.cel j) = some (w, (l.map fun p => m.kd p.1), l.map fun p => m.vd p.2) := by
  show (match mu[j]? with
    | some (.dt w ks ds) => some (w, ks, ds)
    | _ => none) = _
  rw [h]
  rfl
theorem nget_run (m : KM κ α) {x : DV} {k : κ} {v : α} {Q : DQ} (hx : ndic mu x = some (w, (l.map fun p => m.kd p.1), l.map fun p => m.vd p.2)) (h : alook l k = some v) (q : Q (.dat (m.vd v)) mu) : nGet w x (.dat (m.kd k)) mu Q := by
  unfold nGet
  refine on_some hx ⟨rfl, fit_km m k, ?_⟩
  refine on_some (a := m.vd v) ?_ q
  rw [ents_km, at3_km, h]
  rfl
theorem nin_run (m : KM κ α) {x : DV} {k : κ} {neg : Bool} {Q : DQ} (hx : ndic mu x = some (w, (l.map fun p => m.kd p.1), l.map fun p => m.vd p.2)) (q : Q (.dat (.bl (if neg then !(alook l k).isSome else (alook l k).isSome))) mu) : nIn w neg (.dat (m.kd k)) x mu Q := by
  unfold nIn
  refine on_some hx ⟨rfl, fit_km m k, ?_⟩
  rw [ents_km, at3_km, Option.isSome_map]
  exact q
theorem nput_run (m : KM κ α) {k : κ} {v : α} {K : Mu → Prop} (h : mu[j]? = some (dtM m w l)) (hl : l.length < 100000) (q : K (mu.set j (dtM m w (aput l k v)))) : nPut w (.dat (m.vd v)) (.cel j) (.dat (m.kd k)) mu K := by
  unfold nPut
  show (match mu[j]? with
    | some (.dt w' ks ds) => w' = w ∧ keyFitD ks (m.kd k) = true ∧ ks.length < 100000 ∧ K (mu.set j (dtPut w ks ds (m.kd k) (m.vd v)))
    | _ => False)
  rw [h]
  refine ⟨rfl, fit_km m k, by rw [List.length_map]; exact hl, ?_⟩
  rw [dtPut_km]
  exact q
theorem nsetd_run (m : KM κ α) {k : κ} {v : α} {Q : DQ} (h : mu[j]? = some (dtM m w l)) (hl : l.length < 100000) (q1 : ∀ u, alook l k = some u → Q (.dat (m.vd u)) mu) (q2 : alook l k = none → Q (.dat (m.vd v)) (mu.set j (dtM m w (l ++ [(k, v)])))) : nSetd w (.cel j) (.dat (m.kd k)) (.dat (m.vd v)) mu Q := by
  unfold nSetd
  show (match mu[j]? with
    | some (.dt w' ks ds) => w' = w ∧ keyFitD ks (m.kd k) = true ∧ ks.length < 100000 ∧ (∀ r, at3 (ents ks ds) (nkD (m.kd k)) = some r → Q (.dat r) mu) ∧ (at3 (ents ks ds) (nkD (m.kd k)) = none → Q (.dat (m.vd v)) (mu.set j (dtPut w ks ds (m.kd k) (m.vd v))))
    | _ => False)
  rw [h]
  refine ⟨rfl, fit_km m k, by rw [List.length_map]; exact hl, fun r hr => ?_, fun hn => ?_⟩
  · rw [ents_km, at3_km] at hr
    obtain ⟨u, hu, e⟩ := Option.map_eq_some_iff.mp hr
    rw [← e]
    exact q1 u hu
  · rw [ents_km, at3_km] at hn
    have hn2 : alook l k = none := Option.map_eq_none_iff.mp hn
    rw [dtPut_km, aput_new v (alook_none.mp hn2)]
    exact q2 hn2
end
/-- keys (int, int) -/
def pairK (p : Nat × Nat) : D := .tup [natD p.1, natD p.2]
theorem pairK_fit (p : Nat × Nat) : kTup (pairK p) = true := rfl
theorem pairK_inj (a b : Nat × Nat) (h : nkD (pairK a) = nkD (pairK b)) : a = b := by
  have h1 : [NestedKey.num (a.1 : Int), .num (a.2 : Int)] = [NestedKey.num (b.1 : Int), .num (b.2 : Int)] := by injection h
  injection h1 with h1 h2
  injection h2 with h2 _
  injection h1 with h1
  injection h2 with h2
  obtain ⟨a1, a2⟩ := a
  obtain ⟨b1, b2⟩ := b
  have e1 : a1 = b1 := by exact Int.ofNat.inj h1
  have e2 : a2 = b2 := by exact Int.ofNat.inj h2
  rw [e1, e2]
def kmPair {α : Type} (vd : α → D) : KM (Nat × Nat) α := ⟨pairK, vd, .inl pairK_fit, pairK_inj⟩
/-- len(d) -/
def dLenN : DCall := fun xs mu Q => on1 xs fun x => onSome (ndic mu x) fun p => Q (.dat (.int p.2.1.length)) mu
section
variable {X : Cx}
theorem call_lenN : CallR X (.builtin "len") (fun xs H Q => ∃ w a xs', xs = [.ref a] ∧ H a = some (DicN w a xs') ∧ Q (.int xs'.length) H) := by
  intro pins s σ H xs us Q I r h
  obtain ⟨w, a, xs', rfl, ha, q⟩ := h
  have eu := Vals.ref1 r
  obtain ⟨⟨hz, hd, nd, ys, pr, o, es, ep, h1, h2, h3, h4⟩, _⟩ := (show ObjOk X.prog X.w H s.heap a (DicN w a xs') from I.hok a _ ha)
  subst eu
  have hsz : es.size = xs'.length := by
    rw [← Array.length_toList, h4, List.length_map, ← Paired.length pr]
  have hm : s.heap.DictRaw a es ep := ⟨o, h1, h2, h3⟩
  refine PyProof.Rows.call_len_slot (n := (xs'.length : Nat)) (show s.TypeIs (.ref a) "dict" from ⟨o, h1, h2.1⟩) PySem.F.slot_dict_len (fun Q' hq => call_len_raw hd hm (by rw [hsz]; exact hq)) (by omega) (by rw [sizeLine_eq] at hz; omega) ?_
  exact ⟨.int xs'.length, H, (I.tok _), ⟨_, rfl⟩, q⟩
theorem cLenN : CallD X (.builtin "len") dLenN := ⟨_, call_lenN, fun F al mu H xs vs Q R c r q l => by
  obtain ⟨x, v, ev, rx, q⟩ := on1_out q r
  obtain ⟨p, hp, q⟩ := onSome_out q
  obtain ⟨a, us, vs, e2, hH, hl, rk, rl⟩ := ndic_out c rx hp
  subst e2
  refine ⟨_, a, _, ev, hH, ?_⟩
  rw [zip3_len hl rk rl]
  exact l F al _ mu _ H Ext.refl c rv_int q⟩
end
end Dx

namespace Dx
open PySem PySem.Spec PyProof.Rows L2
open Evl (Ex)
variable [Tb]

/-! ### breadth first: the first word that leads to each state -/
theorem ltW_nil {w : List Nat} (h : w ≠ []) : ltW [] w = true := by
  refine ltW_iff.mpr (.inl ?_)
  cases w with
  | nil => exact absurd rfl h
  | cons a w => simp
theorem ltW_not_nil (w : List Nat) : ltW w [] = false := by
  cases h : ltW w [] with
  | false => rfl
  | true =>
    rcases ltW_iff.mp h with h | h
    · simp at h
    · exact absurd h.2 (List.not_lt_nil w)
theorem lex_snoc : ∀ {x q : List Nat} {e c : Nat}, x.length = q.length → (x ++ [e] < q ++ [c] ↔ x < q ∨ (x = q ∧ e < c))
  | [], [], e, c, _ => by
    rw [List.nil_append, List.nil_append, List.cons_lt_cons_iff]
    constructor
    · rintro (h | ⟨_, h⟩)
      · exact .inr ⟨rfl, h⟩
      · exact absurd h (List.not_lt_nil [])
    · rintro (h | ⟨_, h⟩)
      · exact absurd h (List.not_lt_nil [])
      · exact .inl h
  | [], _ :: _, _, _, h => by simp at h
  | _ :: _, [], _, _, h => by simp at h
  | a :: x, b :: q, e, c, h => by
    have ih := lex_snoc (x := x) (q := q) (e := e) (c := c) (by simpa using h)
    rw [List.cons_append, List.cons_append, List.cons_lt_cons_iff, List.cons_lt_cons_iff, ih]
    constructor
    · rintro (h | ⟨h1, h2 | ⟨h2, h3⟩⟩)
      · exact .inl (.inl h)
      · exact .inl (.inr ⟨h1, h2⟩)
      · exact .inr ⟨by rw [h1, h2], h3⟩
    · rintro ((h | ⟨h1, h2⟩) | ⟨h1, h2⟩)
      · exact .inl h
      · exact .inr ⟨h1, .inl h2⟩
      · injection h1 with h1 h3
        exact .inr ⟨h1, .inr ⟨h3, h2⟩⟩
theorem ltW_snoc {x q : List Nat} {e c : Nat} : ltW (x ++ [e]) (q ++ [c]) = true ↔ ltW x q = true ∨ (x = q ∧ e < c) := by
  rw [ltW_iff, ltW_iff, List.length_append, List.length_append, List.length_singleton, List.length_singleton]
  constructor
  · rintro (h | ⟨h1, h2⟩)
    · exact .inl (.inl (by omega))
    · have hl : x.length = q.length := by omega
      rcases (lex_snoc hl).mp h2 with h | h
      · exact .inl (.inr ⟨hl, h⟩)
      · exact .inr h
  · rintro ((h | ⟨h1, h2⟩) | ⟨h1, h2⟩)
    · exact .inl (by omega)
    · exact .inr ⟨by omega, (lex_snoc h1).mpr (.inl h2)⟩
    · subst h1
      exact .inr ⟨rfl, (lex_snoc rfl).mpr (.inr ⟨rfl, h2⟩)⟩
theorem ltW_app1 (x : List Nat) (e : Nat) : ltW x (x ++ [e]) = true := ltW_iff.mpr (.inl (by simp))
theorem ltW_le_trans {a b c : List Nat} (h1 : ltW b a = false) (h2 : ltW b c = true) : ltW a c = true := by
  cases h : ltW a b with
  | true => exact ltW_trans h h2
  | false => rw [ltW_tri h h1]; exact h2
theorem ltW_asymm {a b : List Nat} (h : ltW a b = true) : ltW b a = false := by
  cases h2 : ltW b a with
  | false => rfl
  | true => have := ltW_trans h h2; rw [ltW_irr] at this; cases this
theorem snoc_ind {P : List Nat → Prop} (h0 : P []) (h1 : ∀ x e, P x → P (x ++ [e])) (v : List Nat) : P v := by
  have key : ∀ u : List Nat, P u.reverse := fun u => by
    induction u with
    | nil => exact h0
    | cons a u ih =>
      rw [List.reverse_cons]
      exact h1 _ _ ih
  have := key v.reverse
  rwa [List.reverse_reverse] at this
/-- states, where one begins, what a letter does -/
structure Aut (S : Type) where
  init : S
  step : S → Nat → Option S
section
variable {S : Type} (A : Aut S)
def Aut.run (w : List Nat) : Option S := w.foldl (fun s c => s.bind fun s => A.step s c) (some A.init)
theorem Aut.run_snoc (w : List Nat) (c : Nat) : A.run (w ++ [c]) = (A.run w).bind fun s => A.step s c := by
  unfold Aut.run
  rw [List.foldl_append]
  rfl
theorem Aut.run_nil : A.run [] = some A.init := rfl
structure Bfs (L : List Nat) (line : List (List Nat × S)) (at' j : Nat) : Prop where
  head : line[0]? = some ([], A.init)
  run : ∀ p ∈ line, A.run p.1 = some p.2 ∧ ∀ c ∈ p.1, c ∈ L
  sorted : line.Pairwise fun a b => ltW a.1 b.1 = true
  nd : (line.map (·.2)).Nodup
  par : ∀ (i : Nat) (p : List Nat × S), line[i]? = some p → i = 0 ∨ ∃ (k : Nat) (q : List Nat × S) (c m : Nat), line[k]? = some q ∧ p.1 = q.1 ++ [c] ∧ L[m]? = some c ∧ (k < at' ∨ (k = at' ∧ m < j))
  done : ∀ (k : Nat) (q : List Nat × S) (m c : Nat), line[k]? = some q → L[m]? = some c → (k < at' ∨ (k = at' ∧ m < j)) → ∀ t, A.step q.2 c = some t → t ∈ line.map (·.2)
  least : ∀ p ∈ line, ∀ v, A.run v = some p.2 → (∀ c ∈ v, c ∈ L) → ltW v p.1 = false
variable {A} {L : List Nat} {line : List (List Nat × S)} {at' j : Nat}
theorem Bfs.start : Bfs A L [([], A.init)] 0 0 where
  head := rfl
  run := fun p hp => by
    rw [List.mem_singleton] at hp
    subst hp
    exact ⟨rfl, fun c hc => nomatch hc⟩
  sorted := List.pairwise_singleton ..
  nd := by simp
  par := fun i p h => by
    cases i with
    | zero => exact .inl rfl
    | succ i => simp at h
  done := fun k q m c _ _ h => by omega
  least := fun p hp v _ _ => by
    rw [List.mem_singleton] at hp
    subst hp
    exact ltW_not_nil v
theorem Bfs.lt_idx (B : Bfs A L line at' j) {i k : Nat} {p q : List Nat × S} (hi : line[i]? = some p) (hk : line[k]? = some q) (h : ltW p.1 q.1 = true) : i < k := by
  have hs := B.sorted
  by_cases c : i < k
  · exact c
  · rcases Nat.lt_or_eq_of_le (Nat.le_of_not_lt c) with c | c
    · have h1 : ltW q.1 p.1 = true := by
        obtain ⟨hk', ek⟩ := List.getElem?_eq_some_iff.mp hk
        obtain ⟨hi', ei⟩ := List.getElem?_eq_some_iff.mp hi
        have := List.pairwise_iff_getElem.mp hs k i hk' hi' c
        rw [ek, ei] at this
        exact this
      rw [ltW_asymm h] at h1
      cases h1
    · subst c
      rw [hi] at hk
      cases hk
      rw [ltW_irr] at h
      cases h
theorem Bfs.idx_lt (B : Bfs A L line at' j) {i k : Nat} {p q : List Nat × S} (hi : line[i]? = some p) (hk : line[k]? = some q) (h : i < k) : ltW p.1 q.1 = true := by
  obtain ⟨hk', ek⟩ := List.getElem?_eq_some_iff.mp hk
  obtain ⟨hi', ei⟩ := List.getElem?_eq_some_iff.mp hi
  have := List.pairwise_iff_getElem.mp B.sorted i k hi' hk' h
  rw [ek, ei] at this
  exact this
/-- what lies ahead of all that isn't done yet is met -/
theorem Bfs.reach (B : Bfs A L line at' j) : ∀ {v : List Nat} {s : S}, (∀ k p, line[k]? = some p → ltW p.1 v = true → k < at') → A.run v = some s → (∀ c ∈ v, c ∈ L) → ∃ p ∈ line, p.2 = s ∧ ltW v p.1 = false := by
  intro v
  refine snoc_ind (P := fun v => ∀ {s : S}, (∀ k p, line[k]? = some p → ltW p.1 v = true → k < at') → A.run v = some s → (∀ c ∈ v, c ∈ L) → ∃ p ∈ line, p.2 = s ∧ ltW v p.1 = false) ?_ ?_ v
  · intro s _ h _
    refine ⟨_, List.mem_of_getElem? B.head, ?_, ltW_irr _⟩
    exact Option.some.inj h
  · intro x e ih s hv h ho
    rw [Aut.run_snoc] at h
    cases hx : A.run x with
    | none => rw [hx] at h; cases h
    | some s' =>
      rw [hx] at h
      have h : A.step s' e = some s := h
      obtain ⟨p, hp, e1, e2⟩ := ih (s := s') (fun k p hk hl => hv k p hk (ltW_trans hl (ltW_app1 x e))) hx (fun c hc => ho c (List.mem_append_left _ hc))
      obtain ⟨k, hk⟩ := List.mem_iff_getElem?.mp hp
      have hkat := hv k p hk (ltW_le_trans e2 (ltW_app1 x e))
      obtain ⟨m, hm⟩ := List.mem_iff_getElem?.mp (ho e (by simp))
      have hs := B.done k p m e hk hm (.inl hkat) s (by rw [e1]; exact h)
      obtain ⟨p', hp', e3⟩ := List.mem_map.mp hs
      refine ⟨p', hp', e3, B.least p' hp' _ ?_ ho⟩
      rw [e3, Aut.run_snoc, hx]
      exact h
/-- all is done -/
theorem Bfs.all (B : Bfs A L line at' j) (h : line.length ≤ at') {v : List Nat} {s : S} (hr : A.run v = some s) (ho : ∀ c ∈ v, c ∈ L) : ∃ p ∈ line, p.2 = s ∧ ltW v p.1 = false :=
  B.reach (fun k p hk _ => by have := (List.getElem?_eq_some_iff.mp hk).1; omega) hr ho
/-- what comes no later than the entry that is at work -/
theorem Bfs.upto (B : Bfs A L line at' j) {q : List Nat × S} (hq : line[at']? = some q) {v : List Nat} {s : S} (hl : ltW q.1 v = false) (hr : A.run v = some s) (ho : ∀ c ∈ v, c ∈ L) : ∃ p ∈ line, p.2 = s ∧ ltW v p.1 = false :=
  B.reach (fun k p hk h => B.lt_idx hk hq (by
    cases h2 : ltW v q.1 with
    | true => exact ltW_trans h h2
    | false => rw [← ltW_tri h2 hl]; exact h)) hr ho
theorem Bfs.old (B : Bfs A L line at' j) {q : List Nat × S} {c : Nat} (hq : line[at']? = some q) (hc : L[j]? = some c) (h : ∀ t, A.step q.2 c = some t → t ∈ line.map (·.2)) : Bfs A L line at' (j + 1) where
  head := B.head
  run := B.run
  sorted := B.sorted
  nd := B.nd
  par := fun i p hi => by
    rcases B.par i p hi with h | ⟨k, q', c', m, h1, h2, h3, h4⟩
    · exact .inl h
    · exact .inr ⟨k, q', c', m, h1, h2, h3, by omega⟩
  done := fun k q' m c' h1 h2 h3 t ht => by
    by_cases hk : k < at' ∨ (k = at' ∧ m < j)
    · exact B.done k q' m c' h1 h2 hk t ht
    · have e1 : k = at' := by omega
      have e2 : m = j := by omega
      subst e1
      subst e2
      rw [hq] at h1
      cases h1
      rw [hc] at h2
      cases h2
      exact h t ht
  least := B.least
theorem Bfs.new (B : Bfs A L line at' j) (hL : L.Pairwise (· < ·)) {q : List Nat × S} {c : Nat} {t : S} (hq : line[at']? = some q) (hc : L[j]? = some c) (ht : A.step q.2 c = some t) (hn : t ∉ line.map (·.2)) : Bfs A L (line ++ [(q.1 ++ [c], t)]) at' (j + 1) := by
  have hqm := List.mem_of_getElem? hq
  have atl := (List.getElem?_eq_some_iff.mp hq).1
  have old : ∀ {k : Nat} {p : List Nat × S}, line[k]? = some p → (line ++ [(q.1 ++ [c], t)])[k]? = some p := fun {k p} h => by
    rw [List.getElem?_append_left (List.getElem?_eq_some_iff.mp h).1]
    exact h
  have below : ∀ p ∈ line, ltW p.1 (q.1 ++ [c]) = true := fun p hp => by
    obtain ⟨i, hi⟩ := List.mem_iff_getElem?.mp hp
    rcases B.par i p hi with h | ⟨k, q', c', m, h1, h2, h3, h4⟩
    · subst h
      rw [B.head] at hi
      cases hi
      exact ltW_nil (by simp)
    · rw [h2]
      refine ltW_snoc.mpr ?_
      rcases h4 with h4 | ⟨h4, h5⟩
      · exact .inl (B.idx_lt h1 hq h4)
      · subst h4
        rw [hq] at h1
        cases h1
        refine .inr ⟨rfl, ?_⟩
        obtain ⟨hm, em⟩ := List.getElem?_eq_some_iff.mp h3
        obtain ⟨hj, ej⟩ := List.getElem?_eq_some_iff.mp hc
        have := List.pairwise_iff_getElem.mp hL m j hm hj h5
        omega
  refine ⟨?_, fun p hp => ?_, ?_, ?_, fun i p hi => ?_, fun k q' m c' h1 h2 h3 t' ht' => ?_, fun p hp v hr ho => ?_⟩
  · exact old B.head
  · rcases List.mem_append.mp hp with hp | hp
    · exact B.run p hp
    · rw [List.mem_singleton] at hp
      subst hp
      refine ⟨?_, fun d hd => ?_⟩
      · show A.run (q.1 ++ [c]) = some t
        rw [Aut.run_snoc, (B.run q hqm).1]
        exact ht
      · rcases List.mem_append.mp hd with hd | hd
        · exact (B.run q hqm).2 d hd
        · rw [List.mem_singleton] at hd
          subst hd
          exact List.mem_of_getElem? hc
  · rw [List.pairwise_append]
    refine ⟨B.sorted, List.pairwise_singleton .., fun a ha b hb => ?_⟩
    rw [List.mem_singleton] at hb
    subst hb
    exact below a ha
  · rw [List.map_append, List.nodup_append]
    refine ⟨B.nd, by simp, fun a ha b hb => ?_⟩
    have hb : b = t := by simpa using hb
    subst hb
    intro e
    exact hn (e ▸ ha)
  · by_cases hi' : i < line.length
    · rw [List.getElem?_append_left hi'] at hi
      rcases B.par i p hi with h | ⟨k, q', c', m, h1, h2, h3, h4⟩
      · exact .inl h
      · exact .inr ⟨k, q', c', m, old h1, h2, h3, by omega⟩
    · rw [List.getElem?_append_right (by omega)] at hi
      have e0 : i - line.length = 0 := by
        by_cases z : i - line.length = 0
        · exact z
        · rw [List.getElem?_eq_none (by rw [List.length_singleton]; omega)] at hi
          cases hi
      rw [e0] at hi
      cases hi
      exact .inr ⟨at', q, c, j, old hq, rfl, hc, .inr ⟨rfl, by omega⟩⟩
  · have hk : k < line.length := by omega
    rw [List.getElem?_append_left hk] at h1
    rw [List.map_append]
    by_cases hkj : k < at' ∨ (k = at' ∧ m < j)
    · exact List.mem_append_left _ (B.done k q' m c' h1 h2 hkj t' ht')
    · have e1 : k = at' := by omega
      have e2 : m = j := by omega
      subst e1
      subst e2
      rw [hq] at h1
      cases h1
      rw [hc] at h2
      cases h2
      rw [ht] at ht'
      cases ht'
      exact List.mem_append_right _ (by simp)
  · rcases List.mem_append.mp hp with hp | hp
    · exact B.least p hp v hr ho
    · rw [List.mem_singleton] at hp
      subst hp
      cases hlt : ltW v (q.1 ++ [c]) with
      | false => rfl
      | true =>
        exfalso
        apply hn
        have hr : A.run v = some t := hr
        rcases List.eq_nil_or_concat v with e | ⟨x, e', e⟩
        · subst e
          rw [Aut.run_nil] at hr
          rw [← Option.some.inj hr]
          exact List.mem_map.mpr ⟨_, List.mem_of_getElem? B.head, rfl⟩
        · rw [List.concat_eq_append] at e
          subst e
          rw [Aut.run_snoc] at hr
          cases hx : A.run x with
          | none => rw [hx] at hr; cases hr
          | some s' =>
            rw [hx] at hr
            have hr : A.step s' e' = some t := hr
            have ho1 : ∀ d ∈ x, d ∈ L := fun d hd => ho d (List.mem_append_left _ hd)
            obtain ⟨m, hm⟩ := List.mem_iff_getElem?.mp (ho e' (by simp))
            rcases ltW_snoc.mp hlt with h | ⟨h1, h2⟩
            · obtain ⟨p, hp, e1, e2⟩ := B.upto hq (ltW_asymm h) hx ho1
              obtain ⟨k, hk⟩ := List.mem_iff_getElem?.mp hp
              exact B.done k p m e' hk hm (.inl (B.lt_idx hk hq (ltW_le_trans e2 h))) t (by rw [e1]; exact hr)
            · subst h1
              rw [(B.run q hqm).1] at hx
              cases hx
              refine B.done at' q m e' hq hm (.inr ⟨rfl, ?_⟩) t hr
              obtain ⟨hm', em⟩ := List.getElem?_eq_some_iff.mp hm
              obtain ⟨hj, ej⟩ := List.getElem?_eq_some_iff.mp hc
              by_cases z : m < j
              · exact z
              · rcases Nat.lt_or_eq_of_le (Nat.le_of_not_lt z) with z | z
                · have := List.pairwise_iff_getElem.mp hL j m hj hm' z
                  omega
                · subst z
                  rw [hc] at hm
                  cases hm
                  omega
theorem Bfs.row (B : Bfs A L line at' j) (hj : L.length ≤ j) : Bfs A L line (at' + 1) 0 where
  head := B.head
  run := B.run
  sorted := B.sorted
  nd := B.nd
  par := fun i p hi => by
    rcases B.par i p hi with h | ⟨k, q', c', m, h1, h2, h3, h4⟩
    · exact .inl h
    · exact .inr ⟨k, q', c', m, h1, h2, h3, by omega⟩
  done := fun k q' m c' h1 h2 h3 t ht => by
    have := (List.getElem?_eq_some_iff.mp h2).1
    exact B.done k q' m c' h1 h2 (by omega) t ht
  least := B.least
end
end Dx

namespace Dx
open PySem PySem.Spec PyProof.Rows L2
open Evl (Ex)
variable [Tb]
/-! ### parting -/
def nextP (t : List Nat) (k c : Nat) : Option Nat := (findFrom t c k).map (· + 1)
def optN : Option Nat → D
  | none => .non
  | some i => natD i
theorem find_of {t : List Nat} {c k j : Nat} (h1 : k ≤ j) (h2 : t[j]? = some c) (h3 : ∀ i, k ≤ i → i < j → t[i]? ≠ some c) : findFrom t c k = some j := by
  cases h : findFrom t c k with
  | none => exact absurd h2 (find_none h j h1)
  | some i =>
    obtain ⟨a, b, d, e⟩ := find_some h
    have h4 := h3 i a
    have h5 := e j h1
    by_cases z : i < j
    · exact absurd d (h4 z)
    · by_cases z2 : j < i
      · exact absurd h2 (h5 z2)
      · rw [show i = j by omega]
theorem find_no {t : List Nat} {c k : Nat} (h : ∀ j, k ≤ j → j < t.length → t[j]? ≠ some c) : findFrom t c k = none := by
  cases h1 : findFrom t c k with
  | none => rfl
  | some i =>
    obtain ⟨a, b, d, e⟩ := find_some h1
    exact absurd d (h i a b)
/-- where a word ends, greedily, from a place on -/
def posFrom (t : List Nat) (o : Option Nat) (w : List Nat) : Option Nat := w.foldl (fun o c => o.bind fun k => nextP t k c) o
theorem posFrom_none (t : List Nat) : ∀ w, posFrom t none w = none
  | [] => rfl
  | c :: w => posFrom_none t w
theorem posFrom_sub (t : List Nat) : ∀ (w : List Nat) (k : Nat), (posFrom t (some k) w).isSome = sub w (t.drop k)
  | [], k => by rw [sub_nil]; rfl
  | c :: w, k => by
    rw [← places_sub, placesF_cons]
    show (posFrom t (nextP t k c) w).isSome = _
    unfold nextP
    cases findFrom t c k with
    | none => rw [Option.map_none, posFrom_none]; rfl
    | some i =>
      rw [Option.map_some, posFrom_sub t w (i + 1), ← places_sub]
      show _ = (Option.map (fun x => i :: x) (placesF w t (i + 1))).isSome
      rw [Option.isSome_map]
def pos (t w : List Nat) : Option Nat := posFrom t (some 0) w
theorem pos_sub (t w : List Nat) : (pos t w).isSome = sub w t := posFrom_sub t w 0
theorem pos_snoc (t w : List Nat) (c : Nat) : pos t (w ++ [c]) = (pos t w).bind fun k => nextP t k c := by
  unfold pos posFrom
  rw [List.foldl_append]
  rfl
theorem nextP_bound {t : List Nat} {k c i : Nat} (h : nextP t k c = some i) : k < i ∧ i ≤ t.length := by
  unfold nextP at h
  cases h1 : findFrom t c k with
  | none => rw [h1] at h; cases h
  | some j =>
    rw [h1] at h
    have := find_some h1
    have h : j + 1 = i := Option.some.inj h
    omega
theorem pos_bound (t : List Nat) (w : List Nat) : ∀ {p : Nat}, pos t w = some p → w.length ≤ p ∧ p ≤ t.length := by
  refine snoc_ind (P := fun w => ∀ {p : Nat}, pos t w = some p → w.length ≤ p ∧ p ≤ t.length) ?_ ?_ w
  · intro p h
    have h : 0 = p := Option.some.inj h
    simp only [List.length_nil]
    omega
  · intro x e ih p h
    rw [pos_snoc] at h
    cases hx : pos t x with
    | none => rw [hx] at h; cases h
    | some k =>
      rw [hx] at h
      have := ih hx
      have h := nextP_bound (show nextP t k e = some p from h)
      rw [List.length_append, List.length_singleton]
      omega
/-- both texts at once -/
def both2 : Option Nat → Option Nat → Option (Nat × Nat)
  | some a, some b => some (a, b)
  | _, _ => none
def twoA (one other : List Nat) : Aut (Nat × Nat) := ⟨(0, 0), fun s c => both2 (nextP one s.1 c) (nextP other s.2 c)⟩
theorem two_run (one other w : List Nat) : (twoA one other).run w = both2 (pos one w) (pos other w) := by
  refine snoc_ind (P := fun w => (twoA one other).run w = both2 (pos one w) (pos other w)) rfl ?_ w
  intro x e ih
  rw [Aut.run_snoc, ih, pos_snoc, pos_snoc]
  cases pos one x with
  | none => rfl
  | some a =>
    cases pos other x with
    | none => show (none : Option (Nat × Nat)) = both2 (nextP one a e) none; cases nextP one a e <;> rfl
    | some b => rfl
theorem two_some {one other w : List Nat} {s : Nat × Nat} (h : (twoA one other).run w = some s) : pos one w = some s.1 ∧ pos other w = some s.2 := by
  rw [two_run] at h
  cases h1 : pos one w with
  | none => rw [h1] at h; cases h
  | some a =>
    cases h2 : pos other w with
    | none => rw [h1, h2] at h; cases h
    | some b =>
      rw [h1, h2] at h
      have h : (a, b) = s := Option.some.inj h
      subst h
      exact ⟨rfl, rfl⟩
def PartW (one other w : List Nat) : Prop := sub w one ≠ sub w other ∧ ∀ v, ltW v w = true → sub v one = sub v other
theorem partW_uniq {one other w w' : List Nat} (h : PartW one other w) (h' : PartW one other w') : w = w' := by
  cases h1 : ltW w w' with
  | true => exact absurd (h'.2 w h1) h.1
  | false =>
    cases h2 : ltW w' w with
    | true => exact absurd (h.2 w' h2) h'.1
    | false => exact ltW_tri h1 h2
def Told (one other : List Nat) (d : D) : Prop := (∃ w, PartW one other w ∧ d = .tup [.int ((w.length : Int) - 1), .str w]) ∨ ((∀ w, sub w one = sub w other) ∧ d = .non)
theorem told_uniq {one other : List Nat} {d d' : D} (h : Told one other d) (h' : Told one other d') : d = d' := by
  rcases h with ⟨w, h1, rfl⟩ | ⟨h1, rfl⟩
  · rcases h' with ⟨w', h2, rfl⟩ | ⟨h2, rfl⟩
    · rw [partW_uniq h1 h2]
    · exact absurd (h2 w) h1.1
  · rcases h' with ⟨w', h2, rfl⟩ | ⟨h2, rfl⟩
    · exact absurd (h1 w') h2.1
    · rfl
theorem told_symm {one other : List Nat} {d : D} (h : Told one other d) : Told other one d := by
  rcases h with ⟨w, h1, rfl⟩ | ⟨h1, rfl⟩
  · exact .inl ⟨w, ⟨fun e => h1.1 e.symm, fun v hv => (h1.2 v hv).symm⟩, rfl⟩
  · exact .inr ⟨fun w => (h1 w).symm, rfl⟩
theorem sub_self (t : List Nat) : sub t t = true := (sub_iff t t).mpr (List.Sublist.refl t)
theorem same_texts {one other : List Nat} (h : ∀ w, sub w one = sub w other) : one = other := by
  have h1 : one.Sublist other := (sub_iff _ _).mp (by rw [← h one]; exact sub_self one)
  have h2 : other.Sublist one := (sub_iff _ _).mp (by rw [h other]; exact sub_self other)
  exact h1.eq_of_length (Nat.le_antisymm h1.length_le h2.length_le)
theorem told_none {one other : List Nat} {d : D} (h : Told one other d) : (d = .non ↔ one = other) := by
  rcases h with ⟨w, h1, rfl⟩ | ⟨h1, rfl⟩
  · exact ⟨fun z => (nomatch z), fun e => absurd (by rw [e]) h1.1⟩
  · exact ⟨fun _ => same_texts h1, fun _ => rfl⟩
/-! #### the search -/
abbrev Line := List (List Nat × (Nat × Nat))
def NoPart (one other : List Nat) (l : List Nat) (line : Line) (at' j : Nat) : Prop :=
  ∀ (k : Nat) (q : List Nat × (Nat × Nat)) (m c : Nat), line[k]? = some q → l[m]? = some c → (k < at' ∨ (k = at' ∧ m < j)) → (nextP one q.2.1 c).isSome = (nextP other q.2.2 c).isSome
section
variable {one other l : List Nat} {line : Line} {at' j : Nat}
theorem sub_pre {x t : List Nat} {e : Nat} (h : sub (x ++ [e]) t = true) : sub x t = true := (sub_iff _ _).mpr ((List.sublist_append_left x [e]).trans ((sub_iff _ _).mp h))
theorem same_step {x : List Nat} {e : Nat} (ihx : sub x one = sub x other) (h : ∀ a b, (twoA one other).run x = some (a, b) → (nextP one a e).isSome = (nextP other b e).isSome) : sub (x ++ [e]) one = sub (x ++ [e]) other := by
  cases h1 : sub x one with
  | false =>
    have h2 : sub x other = false := by rw [← ihx, h1]
    have e1 : sub (x ++ [e]) one = false := by
      cases z : sub (x ++ [e]) one with
      | false => rfl
      | true => rw [sub_pre z] at h1; cases h1
    have e2 : sub (x ++ [e]) other = false := by
      cases z : sub (x ++ [e]) other with
      | false => rfl
      | true => rw [sub_pre z] at h2; cases h2
    rw [e1, e2]
  | true =>
    have h2 : sub x other = true := by rw [← ihx, h1]
    rw [← pos_sub] at h1 h2
    obtain ⟨a, ha⟩ := Option.isSome_iff_exists.mp h1
    obtain ⟨b, hb⟩ := Option.isSome_iff_exists.mp h2
    have hrun : (twoA one other).run x = some (a, b) := by rw [two_run, ha, hb]; rfl
    rw [← pos_sub, ← pos_sub, pos_snoc, pos_snoc, ha, hb]
    exact h a b hrun
theorem same_out (hin : ∀ c, c ∈ one ∨ c ∈ other → c ∈ l) {v : List Nat} (hvl : ¬ ∀ d ∈ v, d ∈ l) : sub v one = sub v other := by
  have hno : ∃ d ∈ v, d ∉ l := by
    apply Classical.byContradiction
    intro hcon
    apply hvl
    intro d hd
    apply Classical.byContradiction
    intro hdl
    exact hcon ⟨d, hd, hdl⟩
  obtain ⟨d, hd, hdl⟩ := hno
  have e1 : sub v one = false := by
    cases z : sub v one with
    | false => rfl
    | true => exact absurd (hin d (.inl (((sub_iff _ _).mp z).subset hd))) hdl
  have e2 : sub v other = false := by
    cases z : sub v other with
    | false => rfl
    | true => exact absurd (hin d (.inr (((sub_iff _ _).mp z).subset hd))) hdl
  rw [e1, e2]
theorem part_found (hl : l.Pairwise (· < ·)) (B : Bfs (twoA one other) l line at' j) (N : NoPart one other l line at' j) (hin : ∀ c, c ∈ one ∨ c ∈ other → c ∈ l) {q : List Nat × (Nat × Nat)} {c : Nat} (hq : line[at']? = some q) (hc : l[j]? = some c)
    (hne : (nextP one q.2.1 c).isSome ≠ (nextP other q.2.2 c).isSome) : PartW one other (q.1 ++ [c]) := by
  have hqr := (B.run q (List.mem_of_getElem? hq)).1
  obtain ⟨h1, h2⟩ := two_some hqr
  refine ⟨?_, fun v hv => ?_⟩
  · rw [← pos_sub, ← pos_sub, pos_snoc, pos_snoc, h1, h2]
    exact hne
  · by_cases hvl : ∀ d ∈ v, d ∈ l
    · revert hvl hv
      refine snoc_ind (P := fun v => ltW v (q.1 ++ [c]) = true → (∀ d ∈ v, d ∈ l) → sub v one = sub v other) ?_ ?_ v
      · intro _ _
        rw [sub_nil, sub_nil]
      · intro x e ih hv ho
        have ox : ∀ c ∈ x, c ∈ l := fun c hc => ho c (List.mem_append_left _ hc)
        refine same_step (ih (ltW_trans (ltW_app1 x e) hv) ox) fun a b hrun => ?_
        obtain ⟨m, hm⟩ := List.mem_iff_getElem?.mp (ho e (by simp))
        rcases ltW_snoc.mp hv with h | ⟨h, h3⟩
        · obtain ⟨p, hp, e1, e2⟩ := B.upto hq (ltW_asymm h) hrun ox
          obtain ⟨k, hk⟩ := List.mem_iff_getElem?.mp hp
          have := N k p m e hk hm (.inl (B.lt_idx hk hq (ltW_le_trans e2 h)))
          rw [e1] at this
          exact this
        · subst h
          rw [hqr] at hrun
          have e1 : q.2 = (a, b) := Option.some.inj hrun
          have := N at' q m e hq hm (.inr ⟨rfl, ?_⟩)
          · rw [e1] at this
            exact this
          · obtain ⟨hm', em⟩ := List.getElem?_eq_some_iff.mp hm
            obtain ⟨hj, ej⟩ := List.getElem?_eq_some_iff.mp hc
            by_cases z : m < j
            · exact z
            · rcases Nat.lt_or_eq_of_le (Nat.le_of_not_lt z) with z | z
              · have := List.pairwise_iff_getElem.mp hl j m hj hm' z
                omega
              · subst z
                rw [hc] at hm
                cases hm
                omega
    · exact same_out hin hvl
theorem part_none (B : Bfs (twoA one other) l line at' j) (N : NoPart one other l line at' j) (hin : ∀ c, c ∈ one ∨ c ∈ other → c ∈ l) (h : line.length ≤ at') (v : List Nat) : sub v one = sub v other := by
  by_cases hvl : ∀ d ∈ v, d ∈ l
  · revert hvl
    refine snoc_ind (P := fun v => (∀ d ∈ v, d ∈ l) → sub v one = sub v other) ?_ ?_ v
    · intro _
      rw [sub_nil, sub_nil]
    · intro x e ih ho
      have ox : ∀ c ∈ x, c ∈ l := fun c hc => ho c (List.mem_append_left _ hc)
      refine same_step (ih ox) fun a b hrun => ?_
      obtain ⟨m, hm⟩ := List.mem_iff_getElem?.mp (ho e (by simp))
      obtain ⟨p, hp, e1, e2⟩ := B.all h hrun ox
      obtain ⟨k, hk⟩ := List.mem_iff_getElem?.mp hp
      have := N k p m e hk hm (.inl (by have := (List.getElem?_eq_some_iff.mp hk).1; omega))
      rw [e1] at this
      exact this
  · exact same_out hin hvl
/-- how many pairs of places there are -/
theorem line_few (B : Bfs (twoA one other) l line at' j) : line.length ≤ (one.length + 1) * (other.length + 1) := by
  have h := nodup_le (m := (List.range (one.length + 1)).flatMap fun i => (List.range (other.length + 1)).map fun k => (i, k)) B.nd (fun s hs => by
    obtain ⟨p, hp, e⟩ := List.mem_map.mp hs
    obtain ⟨h1, h2⟩ := two_some (B.run p hp).1
    have b1 := pos_bound _ _ h1
    have b2 := pos_bound _ _ h2
    rw [List.mem_flatMap]
    refine ⟨s.1, List.mem_range.mpr (by rw [← e]; omega), List.mem_map.mpr ⟨s.2, List.mem_range.mpr (by rw [← e]; omega), rfl⟩⟩)
  rw [List.length_map] at h
  have e : ((List.range (one.length + 1)).flatMap fun i => (List.range (other.length + 1)).map fun k => (i, k)).length = (one.length + 1) * (other.length + 1) := by
    rw [List.length_flatMap]
    have : (List.map (fun i => (List.map (fun k => (i, k)) (List.range (other.length + 1))).length) (List.range (one.length + 1))) = List.replicate (one.length + 1) (other.length + 1) := by
      apply List.eq_replicate_iff.mpr
      refine ⟨by rw [List.length_map, List.length_range], fun b hb => ?_⟩
      obtain ⟨i, _, rfl⟩ := List.mem_map.mp hb
      rw [List.length_map, List.length_range]
    rw [this, List.sum_replicate_nat]
  rw [e] at h
  exact h
end
theorem NoPart.row {one other l : List Nat} {line : Line} {at' j : Nat} (N : NoPart one other l line at' j) (h : l.length ≤ j) : NoPart one other l line (at' + 1) 0 := fun k q m c h1 h2 h3 => by
  have := (List.getElem?_eq_some_iff.mp h2).1
  exact N k q m c h1 h2 (by omega)
theorem NoPart.more {one other l : List Nat} {line : Line} {at' j : Nat} {q : List Nat × (Nat × Nat)} {c : Nat} (N : NoPart one other l line at' j) (hq : line[at']? = some q) (hc : l[j]? = some c) (e : (nextP one q.2.1 c).isSome = (nextP other q.2.2 c).isSome) (fresh : Line) : NoPart one other l (line ++ fresh) at' (j + 1) := fun k q' m c' h1 h2 h3 => by
  have hk : k < line.length := by have := (List.getElem?_eq_some_iff.mp hq).1; omega
  rw [List.getElem?_append_left hk] at h1
  by_cases z : k < at' ∨ (k = at' ∧ m < j)
  · exact N k q' m c' h1 h2 z
  · have e1 : k = at' := by omega
    have e2 : m = j := by omega
    subst e1
    subst e2
    rw [hq] at h1
    cases h1
    rw [hc] at h2
    cases h2
    exact e
/-! #### the program's search, the law's search -/
def entD (p : List Nat × (Nat × Nat)) : D := .tup [.str p.1, natD p.2.1, natD p.2.2]
def kmB : KM (Nat × Nat) Unit := kmPair fun _ => .bl true
def metM (E : World) (line : Line) : MC := dtM kmB E (line.map fun p => (p.2, ()))
theorem met_has (line : Line) (s : Nat × Nat) : (alook (line.map fun p => (p.2, ())) s).isSome = decide (s ∈ line.map (·.2)) := by
  have e : (line.map fun p => (p.2, ())).map (·.1) = line.map (·.2) := by
    rw [List.map_map]
    rfl
  by_cases h : s ∈ line.map (·.2)
  · rw [decide_eq_true h]
    exact alook_some.mpr (by rw [e]; exact h)
  · rw [decide_eq_false h]
    rw [alook_none.mpr (by rw [e]; exact h)]
    rfl
theorem met_put (E : World) (line : Line) (w : List Nat) (s : Nat × Nat) (h : s ∉ line.map (·.2)) : dtM kmB E (aput (line.map fun p => (p.2, ())) s ()) = metM E (line ++ [(w, s)]) := by
  rw [aput_new _ (by rw [List.map_map]; exact h)]
  unfold metM
  rw [List.map_append]
  rfl
def t_gone_on : DS :=
  (dSeq (dIf (dTest (dOp dIsN (dVar 1) (dC .non)))
  (dRet (dC .non))
  dNext)
  (dSeq (dSet 3 (dBM "str" dFind3 (dVar 0) (aCons (dVar 2) (aCons (dVar 1) aNil))))
  (dSeq (dIf (dTest (dOp dLt (dVar 3) (dC (.int 0))))
  (dRet (dC .non))
  dNext)
  (dRet (dOp dAdd (dVar 3) (dC (.int 1)))))))
def S_gone_on : FS := fun xs mu Q => ∃ (t : List Nat) (k c : Nat), xs = [.dat (.str t), .dat (natD k), .dat (.str [c])] ∧ mu = [] ∧ Q (.dv (.dat (optN (nextP t k c)))) []
theorem len_gone_on : ∀ xs mu Q, S_gone_on xs mu Q → xs.length = 3 := fun xs mu Q h => by
  obtain ⟨_, _, _, rfl, _⟩ := h
  rfl
theorem rd_gone_on : Body t_gone_on ["text", "at", "letter", "there"] S_gone_on := fun xs mu Q h => by
  obtain ⟨t, k, c, rfl, rfl, q⟩ := h
  refine ⟨rfl, ?_⟩
  refine ⟨rfl, ?_⟩
  refine dFind_run (t := t) (c := c) (k := (k : Int)) (by omega) ?_
  unfold nextP at q
  rw [Int.toNat_natCast]
  cases h : findFrom t c k with
  | none =>
    rw [h] at q
    exact q
  | some i =>
    rw [h] at q
    refine itD (p := (i : Int) < 0) (fun z => by omega) (fun z => ?_)
    exact q
def t_w_step : DS :=
  (dSeq (dFor (iRg2 (aCons (dVar 1) (aCons (dCB dLen (aCons (dVar 0) aNil)) aNil))) (dgN 3)
  (dIf (dTest (dOp dEq (dOp dIx (dVar 0) (dVar 3)) (dVar 2)))
  (dRet (dOp dAdd (dVar 3) (dC (.int 1))))
  dNext))
  (dRet (dC .non)))
def S_w_step : FS := fun xs mu Q => ∃ (t : List Nat) (k c : Nat), xs = [.dat (.str t), .dat (natD k), .dat (.str [c])] ∧ mu = [] ∧ k ≤ t.length ∧ t.length ≤ 1000 ∧ (∀ d ∈ t, d < 1114112) ∧ c < 1114112 ∧ Q (.dv (.dat (optN (nextP t k c)))) []
theorem len_w_step : ∀ xs mu Q, S_w_step xs mu Q → xs.length = 3 := fun xs mu Q h => by
  obtain ⟨_, _, _, rfl, _⟩ := h
  rfl
theorem rd_w_step : Body t_w_step ["_law_text", "_law_at", "_law_letter", "_law_there"] S_w_step := fun xs mu Q h => by
  obtain ⟨t, k, c, rfl, rfl, hk, ht, tc, hc, q⟩ := h
  refine ⟨by omega, ?_⟩
  refine ⟨by omega, ?_⟩
  refine for_inv (fun i rho mu => mu = [] ∧ (∃ x, rho = [some (.dat (.str t)), some (.dat (natD k)), some (.dat (.str [c])), x]) ∧ ∀ j, k ≤ j → j < k + i → t[j]? ≠ some c) ⟨rfl, ⟨none, rfl⟩, fun j h1 h2 => by omega⟩ (fun i d rho mu K hd hp ke => ?_) (fun rho mu hp => ?_)
  · obtain ⟨rfl, ⟨x, rfl⟩, hno⟩ := hp
    obtain ⟨rfl, hi⟩ := rng_at hd
    have hki : k + i < t.length := by omega
    obtain ⟨a, h1, ha⟩ := some_atI (xs := t) (i := (k : Int) + (i : Int)) (by omega) (by omega)
    have e1 : ((k : Int) + (i : Int)).toNat = k + i := by omega
    rw [e1] at ha
    refine ⟨by omega, on_some h1 ?_⟩
    refine ⟨okD_sign _ (tc a (List.mem_of_getElem? ha)), okD_sign _ hc, ?_⟩
    rw [eqD_str]
    refine itD (p := [a] = [c]) (fun z => ?_) (fun z => ?_)
    · have z : a = c := by simpa using z
      subst z
      have hf := find_of (t := t) (c := a) (k := k) (j := k + i) (by omega) ha (fun j h1 h2 => hno j h1 (by omega))
      unfold nextP at q
      rw [hf] at q
      exact q
    · refine ke _ _ ⟨rfl, ⟨_, rfl⟩, fun j h1 h2 => ?_⟩
      by_cases hj : j = k + i
      · subst hj
        rw [ha]
        intro e
        exact z (by rw [Option.some.inj e])
      · exact hno j h1 (by omega)
  · obtain ⟨rfl, ⟨x, rfl⟩, hno⟩ := hp
    rw [rng_len] at hno
    have hf := find_no (t := t) (c := c) (k := k) (fun j h1 h2 => hno j h1 (by omega))
    unfold nextP at q
    rw [hf] at q
    exact q
def t_parting (E : World) : DS :=
  (dSeq (dSet 2 (dFrz (fSortSet (dOp dAdd (dVar 0) (dVar 1)))))
  (dSeq (dSet 3 (dNew (fDN1 E (dTup (aCons (dC (.int 0)) (aCons (dC (.int 0)) aNil))) (dC (.bl true)))))
  (dSeq (dSet 4 (dNew (fLst (aCons (dTup (aCons (dC (.str (lit ""))) (aCons (dC (.int 0)) (aCons (dC (.int 0)) aNil)))) aNil))))
  (dSeq (dSet 5 (dC (.int 0)))
  (dSeq (dWhile (dTest (dOp dLt (dVar 5) (dCB dLen (aCons (dVar 4) aNil))))
  (dSeq (dAsg (dOp dIx (dVar 4) (dVar 5)) (dgTup 3 (dgCons (dgN 6) (dgCons (dgN 7) (dgCons (dgN 8) dgNil)))))
  (dSeq (dSet 5 (dOp dAdd (dVar 5) (dC (.int 1))))
  (dFor (iDat (dVar 2)) (dgN 9)
  (dSeq (dSet 10 (dTup (aCons (dCall S_gone_on (aCons (dVar 0) (aCons (dVar 7) (aCons (dVar 9) aNil)))) (aCons (dCall S_gone_on (aCons (dVar 1) (aCons (dVar 8) (aCons (dVar 9) aNil)))) aNil))))
  (dSeq (dIf (dTest (dOp dNe (dOp dIsN (dOp dIx (dVar 10) (dC (.int 0))) (dC .non)) (dOp dIsN (dOp dIx (dVar 10) (dC (.int 1))) (dC .non))))
  (dRet (dTup (aCons (dCB dLen (aCons (dVar 6) aNil)) (aCons (dOp dAdd (dVar 6) (dVar 9)) aNil))))
  dNext)
  (dIf (dAnd (dTest (dOp dNotN (dOp dIx (dVar 10) (dC (.int 0))) (dC .non))) (dTest (dNin E true (dVar 10) (dVar 3))))
  (dSeq (dNput E (dVar 3) (dVar 10) (dC (.bl true)))
  (dDrop (dBM "list" dAppend (dVar 4) (aCons (dTup (aCons (dOp dAdd (dVar 6) (dVar 9)) (aCons (dOp dIx (dVar 10) (dC (.int 0))) (aCons (dOp dIx (dVar 10) (dC (.int 1))) aNil)))) aNil))))
  dNext)))))))
  (dRet (dC .non)))))))
def S_parting : FS := fun xs mu Q => ∃ one other : List Nat, xs = [.dat (.str one), .dat (.str other)] ∧ mu = [] ∧ one.length ≤ 200 ∧ other.length ≤ 200 ∧ (∀ c ∈ one, c < 1114112) ∧ (∀ c ∈ other, c < 1114112) ∧ ∀ d, Told one other d → Q (.dv (.dat d)) []
theorem len_parting : ∀ xs mu Q, S_parting xs mu Q → xs.length = 2 := fun xs mu Q h => by
  obtain ⟨_, _, rfl, _⟩ := h
  rfl
theorem told_at {one other w : List Nat} {c : Nat} (h : PartW one other (w ++ [c])) : Told one other (.tup [.int (w.length : Int), .str (w ++ [c])]) := by
  refine .inl ⟨_, h, ?_⟩
  have e : (((w ++ [c]).length : Nat) : Int) - 1 = (w.length : Int) := by
    rw [List.length_append, List.length_singleton]
    omega
  rw [e]
theorem sq_bound {m n : Nat} (h1 : m ≤ 200) (h2 : n ≤ 200) : (m + 1) * (n + 1) ≤ 40401 := Nat.mul_le_mul (show m + 1 ≤ 201 by omega) (show n + 1 ≤ 201 by omega)
theorem rd_parting {E : World} : Body (t_parting E) ["one", "other", "letters", "met", "line", "at", "word", "here", "there", "letter", "pair"] S_parting := fun xs mu Q h => by
  obtain ⟨one, other, rfl, rfl, h1, h2, o1, o2, q⟩ := h
  refine ⟨by omega, ?_⟩
  refine ⟨by rw [List.length_append]; omega, fun l hl => ?_⟩
  have hin : ∀ c, c ∈ one ∨ c ∈ other → c ∈ l := fun c hc => (hl.2 c).mpr (List.mem_append.mpr hc)
  have lc : ∀ c ∈ l, c < 1114112 := fun c hc => by
    rcases List.mem_append.mp ((hl.2 c).mp hc) with z | z
    · exact o1 c z
    · exact o2 c z
  have hB := sq_bound h1 h2
  refine ⟨by show 2 ≤ 1000; omega, ?_⟩
  refine ⟨rfl, ?_⟩
  refine ⟨by show 3 ≤ 1000; omega, ?_⟩
  refine ⟨by show 1 ≤ 1000; omega, ?_⟩
  refine ⟨fun m rho mu => ∃ (line : Line) (at' : Nat) (x6 x7 x8 x9 x10 : Option DV), Bfs (twoA one other) l line at' 0 ∧ NoPart one other l line at' 0 ∧ m = (one.length + 1) * (other.length + 1) - at' ∧ mu = [metM E line, .lst (line.map entD)] ∧
    rho = [some (.dat (.str one)), some (.dat (.str other)), some (.dat (.lst (l.map fun c => .str [c]))), some (.cel 0), some (.cel 1), some (.dat (natD at')), x6, x7, x8, x9, x10],
    ⟨_, [([], (0, 0))], 0, none, none, none, none, none, Bfs.start, fun k q m c _ _ h => by omega, rfl, rfl, rfl⟩, fun m rho mu hw => ?_⟩
  obtain ⟨line, at', x6, x7, x8, x9, x10, B, N, rfl, rfl, rfl⟩ := hw
  have few := line_few B
  refine itD (p := ((at' : Nat) : Int) < (((line.map entD).length : Nat) : Int)) (fun hat => ?_) (fun hat => ?_)
  · rw [List.length_map] at hat
    have hat' : at' < line.length := by omega
    have hq : line[at']? = some line[at'] := List.getElem?_eq_getElem hat'
    generalize line[at'] = e at hq
    refine on_some (a := entD e) (L2.atI_nat (by rw [List.getElem?_map, hq]; rfl)) ?_
    refine ⟨rfl, ?_⟩
    refine for_inv (fun j rho mu => ∃ (line' : Line) (x9 x10 : Option DV), Bfs (twoA one other) l line' at' j ∧ NoPart one other l line' at' j ∧ line'[at']? = some e ∧ mu = [metM E line', .lst (line'.map entD)] ∧
      rho = [some (.dat (.str one)), some (.dat (.str other)), some (.dat (.lst (l.map fun c => .str [c]))), some (.cel 0), some (.cel 1), some (.dat (natD (at' + 1))), some (.dat (.str e.1)), some (.dat (natD e.2.1)), some (.dat (natD e.2.2)), x9, x10])
      ⟨line, _, _, B, N, hq, rfl, rfl⟩ (fun j d rho mu K hd hp ke => ?_) (fun rho mu hp => ?_)
    · obtain ⟨line', x9, x10, B', N', hq', rfl, rfl⟩ := hp
      have few' := line_few B'
      obtain ⟨c, hc, rfl⟩ := str_at hd
      obtain ⟨r1, r2⟩ := two_some (B'.run e (List.mem_of_getElem? hq')).1
      have b1 := pos_bound _ _ r1
      have b2 := pos_bound _ _ r2
      refine ⟨rfl, one, e.2.1, c, rfl, rfl, ?_⟩
      refine ⟨rfl, other, e.2.2, c, rfl, rfl, ?_⟩
      refine ⟨by show 2 ≤ 1000; omega, ?_⟩
      refine ⟨rfl, ?_⟩
      refine ⟨rfl, ?_⟩
      refine ⟨okD_bl _ _, okD_bl _ _, ?_⟩
      rw [eqD_bl]
      have pf : (nextP one e.2.1 c).isSome ≠ (nextP other e.2.2 c).isSome → Q (.dv (.dat (.tup [.int (e.1.length : Int), .str (e.1 ++ [c])]))) [] := fun z => q _ (told_at (part_found hl.1 B' N' hin hq' hc z))
      have stp : (twoA one other).step e.2 c = both2 (nextP one e.2.1 c) (nextP other e.2.2 c) := rfl
      have more : (nextP one e.2.1 c).isSome = (nextP other e.2.2 c).isSome → ∀ fresh, NoPart one other l (line' ++ fresh) at' (j + 1) := fun z fresh => N'.more hq' hc z fresh
      cases ha : nextP one e.2.1 c with
      | none =>
        rw [ha] at pf stp more
        cases hb : nextP other e.2.2 c with
        | none =>
          rw [hb] at pf stp more
          refine ⟨rfl, ?_⟩
          have B2 := B'.old hq' hc (fun t ht => by rw [stp] at ht; cases ht)
          have N2 := more rfl []
          rw [List.append_nil] at N2
          exact ke _ _ ⟨line', _, _, B2, N2, hq', rfl, rfl⟩
        | some b =>
          rw [hb] at pf
          refine ⟨by omega, ?_⟩
          refine ⟨by show e.1.length + 1 ≤ 100000; omega, ?_⟩
          refine ⟨by show 2 ≤ 1000; omega, ?_⟩
          exact pf (by simp)
      | some a =>
        rw [ha] at pf stp more
        cases hb : nextP other e.2.2 c with
        | none =>
          rw [hb] at pf
          refine ⟨by omega, ?_⟩
          refine ⟨by show e.1.length + 1 ≤ 100000; omega, ?_⟩
          refine ⟨by show 2 ≤ 1000; omega, ?_⟩
          exact pf (by simp)
        | some b =>
          rw [hb] at pf stp more
          refine ⟨rfl, ?_⟩
          refine nin_run kmB (k := (a, b)) (l := line'.map fun p => (p.2, ())) (ndic_cel (m := kmB) rfl) ?_
          rw [met_has]
          by_cases hm : (a, b) ∈ line'.map (·.2)
          · rw [decide_eq_true hm]
            have B2 := B'.old hq' hc (fun t ht => by rw [stp] at ht; cases ht; exact hm)
            have N2 := more rfl []
            rw [List.append_nil] at N2
            exact ke _ _ ⟨line', _, _, B2, N2, hq', rfl, rfl⟩
          · rw [decide_eq_false hm]
            refine nput_run kmB (k := (a, b)) (v := ()) (l := line'.map fun p => (p.2, ())) rfl (by rw [List.length_map]; omega) ?_
            rw [met_put E line' (e.1 ++ [c]) (a, b) hm]
            refine ⟨rfl, ?_⟩
            refine ⟨by show e.1.length + 1 ≤ 100000; omega, ?_⟩
            refine ⟨by show 3 ≤ 1000; omega, ?_⟩
            refine ⟨by rw [List.length_map]; omega, ?_⟩
            have B2 := B'.new hl.1 hq' hc stp hm
            refine ke _ _ ⟨line' ++ [(e.1 ++ [c], (a, b))], _, _, B2, more rfl _, ?_, ?_, rfl⟩
            · rw [List.getElem?_append_left (List.getElem?_eq_some_iff.mp hq').1]
              exact hq'
            · rw [List.map_append]
              rfl
    · obtain ⟨line', x9, x10, B', N', hq', rfl, rfl⟩ := hp
      rw [List.length_map] at B' N'
      have few' := line_few B'
      have hat2 := (List.getElem?_eq_some_iff.mp hq').1
      exact ⟨_, by omega, line', at' + 1, _, _, _, _, _, B'.row (Nat.le_refl _), N'.row (Nat.le_refl _), rfl, rfl, rfl⟩
  · rw [List.length_map] at hat
    exact q _ (.inr ⟨part_none B N hin (by omega), rfl⟩)
/-! #### the law's search, layer by layer -/
def insU (c : Nat) : List Nat → List Nat
  | [] => [c]
  | d :: r => if c < d then c :: d :: r else if c = d then d :: r else d :: insU c r
theorem mem_insU {c x : Nat} : ∀ {l : List Nat}, x ∈ insU c l ↔ x = c ∨ x ∈ l
  | [] => by simp [insU]
  | d :: r => by
    unfold insU
    split
    · simp
    · split
      · rename_i h
        subst h
        simp
      · rw [List.mem_cons, mem_insU, List.mem_cons]
        constructor
        · rintro (h | h | h)
          · exact .inr (.inl h)
          · exact .inl h
          · exact .inr (.inr h)
        · rintro (h | h | h)
          · exact .inr (.inl h)
          · exact .inl h
          · exact .inr (.inr h)
theorem rise_insU {c : Nat} : ∀ {l : List Nat}, l.Pairwise (· < ·) → (insU c l).Pairwise (· < ·)
  | [], _ => List.pairwise_singleton ..
  | d :: r, h => by
    unfold insU
    obtain ⟨h1, h2⟩ := List.pairwise_cons.mp h
    split
    · rename_i hc
      refine List.pairwise_cons.mpr ⟨fun x hx => ?_, h⟩
      rcases List.mem_cons.mp hx with e | hx
      · omega
      · have := h1 x hx
        omega
    · split
      · exact h
      · rename_i h3 h4
        refine List.pairwise_cons.mpr ⟨fun x hx => ?_, rise_insU h2⟩
        rcases mem_insU.mp hx with e | hx
        · omega
        · exact h1 x hx
def sortU (s : List Nat) : List Nat := s.foldr insU []
theorem signs_sortU : ∀ s : List Nat, SignsIn s (sortU s)
  | [] => ⟨List.Pairwise.nil, fun c => Iff.rfl⟩
  | a :: s => by
    obtain ⟨h1, h2⟩ := signs_sortU s
    refine ⟨rise_insU h1, fun c => ?_⟩
    show c ∈ insU a (sortU s) ↔ _
    rw [mem_insU, h2, List.mem_cons]
theorem signs_uniq {s l l' : List Nat} (h : SignsIn s l) (h' : SignsIn s l') : l = l' := rise_uniq h.1 h'.1 fun c => by rw [h.2, h'.2]
def t_w_parting (E : World) : DS :=
  (dSeq (dSet 2 (dFrz (fLst (aCons (dTup (aCons (dC (.str (lit ""))) (aCons (dC (.int 0)) (aCons (dC (.int 0)) aNil)))) aNil))))
  (dSeq (dSet 3 (dNew (fDN1 E (dTup (aCons (dC (.int 0)) (aCons (dC (.int 0)) aNil))) (dC (.bl true)))))
  (dSeq (dWhile (dTest (dOp dGt (dCB dLen (aCons (dVar 2) aNil)) (dC (.int 0))))
  (dScope (dSeq (dSet 4 (dNew (fLst aNil)))
  (dSeq (dFor (iDat (dVar 2)) (dgTup 3 (dgCons (dgN 5) (dgCons (dgN 6) (dgCons (dgN 7) dgNil))))
  (dFor (iDat (dFrz (fSortSet (dOp dAdd (dVar 0) (dVar 1))))) (dgN 8)
  (dSeq (dPar 9 10 (aCons (dCall S_w_step (aCons (dVar 0) (aCons (dVar 6) (aCons (dVar 8) aNil)))) (aCons (dCall S_w_step (aCons (dVar 1) (aCons (dVar 7) (aCons (dVar 8) aNil)))) aNil)))
  (dSeq (dIf (dTest (dOp dNe (dOp dIsN (dVar 9) (dC .non)) (dOp dIsN (dVar 10) (dC .non))))
  (dRet (dTup (aCons (dCB dLen (aCons (dVar 5) aNil)) (aCons (dOp dAdd (dVar 5) (dVar 8)) aNil))))
  dNext)
  (dIf (dAnd (dTest (dOp dNotN (dVar 9) (dC .non))) (dTest (dNin E true (dTup (aCons (dVar 9) (aCons (dVar 10) aNil))) (dVar 3))))
  (dSeq (dNput E (dVar 3) (dTup (aCons (dVar 9) (aCons (dVar 10) aNil))) (dC (.bl true)))
  (dDrop (dBM "list" dAppend (dVar 4) (aCons (dTup (aCons (dOp dAdd (dVar 5) (dVar 8)) (aCons (dVar 9) (aCons (dVar 10) aNil)))) aNil))))
  dNext)))))
  (dFz 4 (dSet 2 (dVar 4)))))))
  (dRet (dC .non)))))
def S_w_parting : FS := S_parting
theorem len_w_parting : ∀ xs mu Q, S_w_parting xs mu Q → xs.length = 2 := len_parting
theorem rd_w_parting {E : World} : Body (t_w_parting E) ["_law_one", "_law_other", "_law_layer", "_law_met", "_law_fresh", "_law_word_here", "_law_here", "_law_there", "_law_letter", "_law_first", "_law_second"] S_w_parting := fun xs mu Q h => by
  obtain ⟨one, other, rfl, rfl, h1, h2, o1, o2, q⟩ := h
  obtain ⟨l, hl⟩ : ∃ l, SignsIn (one ++ other) l := ⟨_, signs_sortU _⟩
  have hin : ∀ c, c ∈ one ∨ c ∈ other → c ∈ l := fun c hc => (hl.2 c).mpr (List.mem_append.mpr hc)
  have lc : ∀ c ∈ l, c < 1114112 := fun c hc => by
    rcases List.mem_append.mp ((hl.2 c).mp hc) with z | z
    · exact o1 c z
    · exact o2 c z
  have hB := sq_bound h1 h2
  refine ⟨by show 3 ≤ 1000; omega, ?_⟩
  refine ⟨by show 1 ≤ 1000; omega, ?_⟩
  refine ⟨by show 2 ≤ 1000; omega, ?_⟩
  refine ⟨rfl, ?_⟩
  refine ⟨fun m rho mu => ∃ (pre layer : Line) (x4 x5 x6 x7 x8 x9 x10 : Option DV), Bfs (twoA one other) l (pre ++ layer) pre.length 0 ∧ NoPart one other l (pre ++ layer) pre.length 0 ∧ m = (one.length + 1) * (other.length + 1) - pre.length ∧ mu = [metM E (pre ++ layer)] ∧
    rho = [some (.dat (.str one)), some (.dat (.str other)), some (.dat (.lst (layer.map entD))), some (.cel 0), x4, x5, x6, x7, x8, x9, x10],
    ⟨_, [], [([], (0, 0))], none, none, none, none, none, none, none, Bfs.start, fun k q m c _ _ h => by simp at h, rfl, rfl, rfl⟩, fun m rho mu hw => ?_⟩
  obtain ⟨pre, layer, x4, x5, x6, x7, x8, x9, x10, B, N, rfl, rfl, rfl⟩ := hw
  have few := line_few B
  rw [List.length_append] at few
  refine itD (p := (0 : Int) < (((layer.map entD).length : Nat) : Int)) (fun hat => ?_) (fun hat => ?_)
  · rw [List.length_map] at hat
    refine ⟨by show 0 ≤ 1000; omega, ?_⟩
    refine for_inv (fun i rho mu => ∃ (fresh : Line) (x5 x6 x7 x8 x9 x10 : Option DV), Bfs (twoA one other) l (pre ++ layer ++ fresh) (pre.length + i) 0 ∧ NoPart one other l (pre ++ layer ++ fresh) (pre.length + i) 0 ∧ mu = [metM E (pre ++ layer ++ fresh), .lst (fresh.map entD)] ∧
      rho = [some (.dat (.str one)), some (.dat (.str other)), some (.dat (.lst (layer.map entD))), some (.cel 0), some (.cel 1), x5, x6, x7, x8, x9, x10])
      ⟨[], _, _, _, _, _, _, by rw [List.append_nil]; exact B, by rw [List.append_nil]; exact N, by rw [List.append_nil]; rfl, rfl⟩ (fun i d rho mu K hd hp ke => ?_) (fun rho mu hp => ?_)
    · obtain ⟨fresh, x5, x6, x7, x8, x9, x10, B', N', rfl, rfl⟩ := hp
      obtain ⟨e, he, rfl⟩ : ∃ e, layer[i]? = some e ∧ d = entD e := by
        rw [List.getElem?_map] at hd
        cases h : layer[i]? with
        | none => rw [h] at hd; cases hd
        | some e => rw [h] at hd; exact ⟨e, rfl, (Option.some.inj hd).symm⟩
      have hi := (List.getElem?_eq_some_iff.mp he).1
      have hq0 : ∀ f : Line, (pre ++ layer ++ f)[pre.length + i]? = some e := fun f => by
        rw [List.append_assoc, List.getElem?_append_right (by omega), Nat.add_sub_cancel_left, List.getElem?_append_left hi]
        exact he
      refine ⟨rfl, ?_⟩
      refine ⟨by omega, ?_⟩
      refine ⟨by rw [List.length_append]; omega, fun l' hl' => ?_⟩
      have el : l' = l := signs_uniq hl' hl
      subst el
      refine for_inv (fun j rho mu => ∃ (fresh : Line) (x8 x9 x10 : Option DV), Bfs (twoA one other) l' (pre ++ layer ++ fresh) (pre.length + i) j ∧ NoPart one other l' (pre ++ layer ++ fresh) (pre.length + i) j ∧ mu = [metM E (pre ++ layer ++ fresh), .lst (fresh.map entD)] ∧
        rho = [some (.dat (.str one)), some (.dat (.str other)), some (.dat (.lst (layer.map entD))), some (.cel 0), some (.cel 1), some (.dat (.str e.1)), some (.dat (natD e.2.1)), some (.dat (natD e.2.2)), x8, x9, x10])
        ⟨fresh, _, _, _, B', N', rfl, rfl⟩ (fun j d rho mu K2 hd hp ke2 => ?_) (fun rho mu hp => ?_)
      · obtain ⟨fresh, x8, x9, x10, B', N', rfl, rfl⟩ := hp
        have few' := line_few B'
        obtain ⟨c, hc, rfl⟩ := str_at hd
        have hq' := hq0 fresh
        obtain ⟨r1, r2⟩ := two_some (B'.run e (List.mem_of_getElem? hq')).1
        have b1 := pos_bound _ _ r1
        have b2 := pos_bound _ _ r2
        have cb := lc c (List.mem_of_getElem? hc)
        refine ⟨rfl, one, e.2.1, c, rfl, rfl, b1.2, by omega, o1, cb, ?_⟩
        refine ⟨rfl, other, e.2.2, c, rfl, rfl, b2.2, by omega, o2, cb, ?_⟩
        refine ⟨rfl, ?_⟩
        refine ⟨rfl, ?_⟩
        refine ⟨okD_bl _ _, okD_bl _ _, ?_⟩
        rw [eqD_bl]
        have pf : (nextP one e.2.1 c).isSome ≠ (nextP other e.2.2 c).isSome → Q (.dv (.dat (.tup [.int (e.1.length : Int), .str (e.1 ++ [c])]))) [] := fun z => q _ (told_at (part_found hl.1 B' N' hin hq' hc z))
        have stp : (twoA one other).step e.2 c = both2 (nextP one e.2.1 c) (nextP other e.2.2 c) := rfl
        have more : (nextP one e.2.1 c).isSome = (nextP other e.2.2 c).isSome → ∀ f, NoPart one other l' (pre ++ layer ++ fresh ++ f) (pre.length + i) (j + 1) := fun z f => N'.more hq' hc z f
        cases ha : nextP one e.2.1 c with
        | none =>
          rw [ha] at pf stp more
          cases hb : nextP other e.2.2 c with
          | none =>
            rw [hb] at pf stp more
            refine ⟨rfl, ?_⟩
            have B2 := B'.old hq' hc (fun t ht => by rw [stp] at ht; cases ht)
            have N2 := more rfl []
            rw [List.append_nil] at N2
            exact ke2 _ _ ⟨fresh, _, _, _, B2, N2, rfl, rfl⟩
          | some b =>
            rw [hb] at pf
            refine ⟨by omega, ?_⟩
            refine ⟨by show e.1.length + 1 ≤ 100000; omega, ?_⟩
            refine ⟨by show 2 ≤ 1000; omega, ?_⟩
            exact pf (by simp)
        | some a =>
          rw [ha] at pf stp more
          cases hb : nextP other e.2.2 c with
          | none =>
            rw [hb] at pf
            refine ⟨by omega, ?_⟩
            refine ⟨by show e.1.length + 1 ≤ 100000; omega, ?_⟩
            refine ⟨by show 2 ≤ 1000; omega, ?_⟩
            exact pf (by simp)
          | some b =>
            rw [hb] at pf stp more
            refine ⟨rfl, ?_⟩
            refine ⟨by show 2 ≤ 1000; omega, ?_⟩
            refine nin_run kmB (k := (a, b)) (l := (pre ++ layer ++ fresh).map fun p => (p.2, ())) (ndic_cel (m := kmB) rfl) ?_
            rw [met_has]
            by_cases hm : (a, b) ∈ (pre ++ layer ++ fresh).map (·.2)
            · rw [decide_eq_true hm]
              have B2 := B'.old hq' hc (fun t ht => by rw [stp] at ht; cases ht; exact hm)
              have N2 := more rfl []
              rw [List.append_nil] at N2
              exact ke2 _ _ ⟨fresh, _, _, _, B2, N2, rfl, rfl⟩
            · rw [decide_eq_false hm]
              refine ⟨by show 2 ≤ 1000; omega, ?_⟩
              refine nput_run kmB (k := (a, b)) (v := ()) (l := (pre ++ layer ++ fresh).map fun p => (p.2, ())) rfl (by rw [List.length_map]; omega) ?_
              rw [met_put E (pre ++ layer ++ fresh) (e.1 ++ [c]) (a, b) hm]
              refine ⟨rfl, ?_⟩
              refine ⟨by show e.1.length + 1 ≤ 100000; omega, ?_⟩
              refine ⟨by show 3 ≤ 1000; omega, ?_⟩
              have fl : fresh.length ≤ (pre ++ layer ++ fresh).length := by rw [List.length_append]; omega
              refine ⟨by rw [List.length_map]; omega, ?_⟩
              have B2 := B'.new hl.1 hq' hc stp hm
              have N2 := more rfl [(e.1 ++ [c], (a, b))]
              rw [List.append_assoc (pre ++ layer)] at B2 N2
              refine ke2 _ _ ⟨fresh ++ [(e.1 ++ [c], (a, b))], _, _, _, B2, N2, ?_, rfl⟩
              rw [List.map_append, ← List.append_assoc (pre ++ layer) fresh]
              rfl
      · obtain ⟨fresh, x8, x9, x10, B', N', rfl, rfl⟩ := hp
        rw [List.length_map] at B' N'
        exact ke _ _ ⟨fresh, _, _, _, _, _, _, B'.row (Nat.le_refl _), N'.row (Nat.le_refl _), rfl, rfl⟩
    · obtain ⟨fresh, x5, x6, x7, x8, x9, x10, B', N', rfl, rfl⟩ := hp
      rw [List.length_map, ← List.length_append] at B' N'
      refine ⟨rfl, ?_⟩
      have hl2 : (pre ++ layer).length = pre.length + layer.length := List.length_append
      exact ⟨_, by omega, pre ++ layer, fresh, _, _, _, _, _, _, _, B', N', rfl, rfl, rfl⟩
  · rw [List.length_map] at hat
    have e0 : layer = [] := List.eq_nil_of_length_eq_zero (by omega)
    subst e0
    exact q _ (.inr ⟨part_none B N hin (by rw [List.append_nil]; exact Nat.le_refl _), rfl⟩)

end Dx

namespace Dx
open PySem PySem.Spec PyProof.Rows L2
open Evl (Ex)
variable [Tb]
/-! ### two texts drawn; alike to a length -/
def t_w_two : DS :=
  (dSeq (dSet 2 (dCallR S_w_pick (aCons (dVar 0) (aCons (dC (.int 5)) aNil))))
  (dSeq (dSet 3 (dCallR S_w_word (aCons (dVar 0) (aCons (dVar 1) (aCons (dC (.int 30)) aNil)))))
  (dSeq (dIf (dTest (dOp dEq (dVar 2) (dC (.int 0))))
  (dRet (dTup (aCons (dVar 3) (aCons (dCallR S_w_word (aCons (dVar 0) (aCons (dVar 1) (aCons (dC (.int 30)) aNil)))) aNil))))
  dNext)
  (dJn (dIf (dTest (dOp dEq (dVar 2) (dC (.int 1))))
  (dSeq (dSet 4 (dOp dAdd (dCallR S_w_word (aCons (dVar 0) (aCons (dVar 1) (aCons (dC (.int 4)) aNil)))) (dOp dIx (dVar 1) (dCallR S_w_pick (aCons (dVar 0) (aCons (dCB dLen (aCons (dVar 1) aNil)) aNil))))))
  (dSet 3 (dSl dCut (dOp dMul (dVar 4) (dC (.int 30))) oNone (oSome (dOp dAdd (dC (.int 5)) (dCallR S_w_pick (aCons (dVar 0) (aCons (dC (.int 20)) aNil))))))))
  dNext)
  (dSeq (dSet 5 (dVar 3))
  (dJn (dIf (dTest (dOp dEq (dVar 2) (dC (.int 2))))
  (dSet 5 (dOp dAdd (dVar 3) (dCallR S_w_word (aCons (dVar 0) (aCons (dVar 1) (aCons (dOp dSub (dC (.int 30)) (dCB dLen (aCons (dVar 3) aNil))) aNil))))))
  dNext)
  (dSeq (dFor (iRg1 (aCons (dCallR S_w_pick (aCons (dVar 0) (aCons (dC (.int 4)) aNil))) aNil)) (dgN 6)
  (dSet 5 (dSl dCut (dCallR S_w_otherwise (aCons (dVar 0) (aCons (dVar 1) (aCons (dVar 5) aNil)))) oNone (oSome (dC (.int 30))))))
  (dRet (dTup (aCons (dVar 3) (aCons (dVar 5) aNil)))))))))))
def S_w_two : FS := fun xs mu Q => ∃ m l, mu = [m] ∧ FlowOk m ∧ xs = [.cel 0, .dat (.str l)] ∧ 0 < l.length ∧ l.length ≤ 26 ∧ ∀ one other m', FlowOk m' → one.length ≤ 30 → other.length ≤ 30 → (∀ c ∈ one, c ∈ l) → (∀ c ∈ other, c ∈ l) → Q (.dv (.dat (.tup [.str one, .str other]))) [m']
theorem len_w_two : ∀ xs mu Q, S_w_two xs mu Q → xs.length = 2 := fun xs mu Q h => by
  obtain ⟨m, l, _, _, rfl, _⟩ := h
  rfl
theorem rd_w_two : Body t_w_two ["_law_flow_here", "_law_letters_here", "_law_way", "_law_one", "_law_piece", "_law_other", "_law_turn"] S_w_two := fun xs mu Q h => by
  obtain ⟨m, l, rfl, fo, rfl, l0, l1, q⟩ := h
  refine ⟨fo.live, rfl, m, 5, rfl, fo, rfl, by omega, by omega, fun w m1 f1 w0 w1 => ?_⟩
  refine ⟨f1.live, rfl, m1, l, 30, rfl, f1, rfl, l0, by omega, by omega, by omega, fun t m2 f2 tl tc => ?_⟩
  refine ⟨okD_int _ _, okD_int _ _, ?_⟩
  refine itI (fun e => ?_) (fun e => ?_)
  · refine ⟨f2.live, rfl, m2, l, 30, rfl, f2, rfl, l0, by omega, by omega, by omega, fun u m3 f3 ul uc => ?_⟩
    refine ⟨by show 2 ≤ 1000; omega, ?_⟩
    exact q t u m3 f3 (by omega) (by omega) tc uc
  · refine jn_k (fun r u => ∃ (t : List Nat) (m' : MC) (x4 : Option DV), u = [m'] ∧ FlowOk m' ∧ t.length ≤ 30 ∧ (∀ c ∈ t, c ∈ l) ∧ r = [some (.cel 0), some (.dat (.str l)), some (.dat (.int w)), some (.dat (.str t)), x4, none, none]) (fun K k => ?_) (fun r u hp => ?_)
    · refine ⟨okD_int _ _, okD_int _ _, ?_⟩
      refine itI (fun e => ?_) (fun e => ?_)
      · refine ⟨f2.live, rfl, m2, l, 4, rfl, f2, rfl, l0, by omega, by omega, by omega, fun p m3 f3 pl pc => ?_⟩
        refine ⟨by omega, ?_⟩
        refine ⟨f3.live, rfl, m3, _, rfl, f3, rfl, by omega, by omega, fun r m4 f4 r0 r1 => ?_⟩
        obtain ⟨c, h2, hc⟩ := some_atI r0 r1
        refine ⟨by omega, on_some h2 ?_⟩
        refine ⟨by show p.length + 1 ≤ 100000; omega, ?_⟩
        have pl2 : (p ++ [c]).length ≤ 5 := by rw [List.length_append, List.length_singleton]; omega
        refine ⟨by omega, by omega, by omega, ?_⟩
        refine ⟨f4.live, rfl, m4, 20, rfl, f4, rfl, by omega, by omega, fun z m5 f5 z0 z1 => ?_⟩
        refine ⟨by rw [repS_len]; have : (30 : Int).toNat * (p ++ [c]).length ≤ 30 * 5 := Nat.mul_le_mul (by decide) pl2; omega, ?_⟩
        have ez : 5 + z = (((5 + z).toNat : Nat) : Int) := by omega
        refine k _ _ ⟨_, m5, _, rfl, f5, ?_, fun d hd => ?_, rfl⟩
        · rw [ez, cut_to, List.length_take]
          omega
        · rw [ez, cut_to] at hd
          have hd := rep_mem (List.mem_of_mem_take hd)
          rcases List.mem_append.mp hd with hd | hd
          · exact pc d hd
          · rw [List.mem_singleton] at hd
            subst hd
            exact List.mem_of_getElem? hc
      · exact k _ _ ⟨t, m2, _, rfl, f2, by omega, tc, rfl⟩
    · obtain ⟨t, m3, x4, rfl, f3, tl, tc, rfl⟩ := hp
      refine jn_k (fun r u => ∃ (o : List Nat) (m' : MC), u = [m'] ∧ FlowOk m' ∧ o.length ≤ 30 ∧ (∀ c ∈ o, c ∈ l) ∧ r = [some (.cel 0), some (.dat (.str l)), some (.dat (.int w)), some (.dat (.str t)), x4, some (.dat (.str o)), none]) (fun K k => ?_) (fun r u hp => ?_)
      · refine ⟨okD_int _ _, okD_int _ _, ?_⟩
        refine itI (fun e => ?_) (fun e => ?_)
        · refine ⟨by omega, ?_⟩
          refine ⟨f3.live, rfl, m3, l, _, rfl, f3, rfl, l0, by omega, by omega, by omega, fun u m4 f4 ul uc => ?_⟩
          refine ⟨by omega, ?_⟩
          refine k _ _ ⟨t ++ u, m4, rfl, f4, by rw [List.length_append]; omega, fun c hc => ?_, rfl⟩
          rcases List.mem_append.mp hc with hc | hc
          · exact tc c hc
          · exact uc c hc
        · exact k _ _ ⟨t, m3, rfl, f3, tl, tc, rfl⟩
      · obtain ⟨o, m4, rfl, f4, ol, oc, rfl⟩ := hp
        refine ⟨f4.live, rfl, m4, 4, rfl, f4, rfl, by omega, by omega, fun z m5 f5 z0 z1 => ?_⟩
        refine ⟨by omega, by omega, ?_⟩
        refine for_inv (fun i r u => ∃ (o : List Nat) (m' : MC) (x6 : Option DV), u = [m'] ∧ FlowOk m' ∧ o.length ≤ 30 ∧ (∀ c ∈ o, c ∈ l) ∧ r = [some (.cel 0), some (.dat (.str l)), some (.dat (.int w)), some (.dat (.str t)), x4, some (.dat (.str o)), x6]) ⟨o, m5, _, rfl, f5, ol, oc, rfl⟩ (fun i d rho mu K hd hp ke => ?_) (fun rho mu hp => ?_)
        · obtain ⟨o, m', x6, rfl, fo', ol, oc, rfl⟩ := hp
          refine ⟨fo'.live, rfl, m', l, o, rfl, fo', rfl, l0, by omega, by omega, fun u m6 f6 ul uc => ?_⟩
          refine ⟨by omega, ?_⟩
          have e30 : cut u none (some (30 : Int)) = u.take 30 := cut_to u 30
          refine ke _ _ ⟨_, m6, _, rfl, f6, ?_, fun c hc => ?_, rfl⟩
          · rw [e30, List.length_take]
            omega
          · rw [e30] at hc
            rcases uc c (List.mem_of_mem_take hc) with h | h
            · exact h
            · exact oc c h
        · obtain ⟨o, m', x6, rfl, fo', ol, oc, rfl⟩ := hp
          refine ⟨by show 2 ≤ 1000; omega, ?_⟩
          exact q t o m' fo' tl ol tc oc
theorem part_small {one other w : List Nat} (h : PartW one other w) : w.Sublist one ∨ w.Sublist other := by
  cases h1 : sub w one with
  | true => exact .inl ((sub_iff _ _).mp h1)
  | false =>
    cases h2 : sub w other with
    | true => exact .inr ((sub_iff _ _).mp h2)
    | false => exact absurd (by rw [h1, h2]) h.1
theorem plain_told {n : Nat} {i : Int} {w : List Nat} (h : ∀ c ∈ w, c < 1114112) : plainD (n + 1) (.tup [.int i, .str w]) = true := by
  rw [plainD, plainDs, plainDs, plainDs]
  have : plainD n (.str w) = true := by
    cases n <;> (rw [plainD]; exact List.all_eq_true.mpr fun c hc => decide_eq_true (h c hc))
  rw [this]
  cases n <;> rfl

def AlikeTo (one other : List Nat) (k : Nat) : Prop := ∀ w, w.length ≤ k → sub w one = sub w other
theorem alike_symm {one other : List Nat} {k : Nat} (h : AlikeTo one other k) : AlikeTo other one k := fun w hw => (h w hw).symm
theorem alike_part {one other w : List Nat} {k : Nat} (h : PartW one other w) : (k : Int) ≤ (w.length : Int) - 1 ↔ AlikeTo one other k := by
  constructor
  · intro hk v hv
    exact h.2 v (ltW_iff.mpr (.inl (by omega)))
  · intro ha
    by_cases c : (k : Int) ≤ (w.length : Int) - 1
    · exact c
    · exact absurd (ha w (by omega)) h.1
def t_alike : DS :=
  (dSeq (dSet 3 (dCall S_parting (aCons (dVar 0) (aCons (dVar 1) aNil))))
  (dRet (dOrV (dOp dIsN (dVar 3) (dC .non)) (dOp dLe (dVar 2) (dOp dIx (dVar 3) (dC (.int 0)))))))
def S_alike : FS := fun xs mu Q => ∃ (one other : List Nat) (k : Nat), xs = [.dat (.str one), .dat (.str other), .dat (.int (k : Int))] ∧ mu = [] ∧ one.length ≤ 200 ∧ other.length ≤ 200 ∧ (∀ c ∈ one, c < 1114112) ∧ (∀ c ∈ other, c < 1114112) ∧ ∀ b : Bool, (b = true ↔ AlikeTo one other k) → Q (.dv (.dat (.bl b))) []
theorem len_alike : ∀ xs mu Q, S_alike xs mu Q → xs.length = 3 := fun xs mu Q h => by
  obtain ⟨_, _, _, rfl, _⟩ := h
  rfl
theorem rd_alike : Body t_alike ["one", "other", "k", "told"] S_alike := fun xs mu Q h => by
  obtain ⟨one, other, k, rfl, rfl, h1, h2, o1, o2, q⟩ := h
  refine ⟨rfl, one, other, rfl, rfl, h1, h2, o1, o2, fun d hd => ?_⟩
  rcases hd with ⟨w, hw, rfl⟩ | ⟨hw, rfl⟩
  · refine ⟨rfl, ?_⟩
    exact q (decide ((k : Int) ≤ (w.length : Int) - 1)) (by rw [decide_eq_true_iff]; exact alike_part hw)
  · refine ⟨rfl, ?_⟩
    exact q true ⟨fun _ v _ => hw v, fun _ => rfl⟩
def t_w_spread_words : DS :=
  (dSeq (dSet 2 (dNew (fDK1 (dC (.str (lit ""))) (dC (.bl true)))))
  (dSeq (dFor (iStrD (dVar 0)) (dgN 3)
  (dFor (iDat (dFrz (fCB fListD (aCons (dVar 2) aNil)))) (dgN 4)
  (dIf (dTest (dOp dLt (dCB dLen (aCons (dVar 4) aNil)) (dVar 1)))
  (dDput (dVar 2) (dOp dAdd (dVar 4) (dVar 3)) (dC (.bl true)))
  dNext)))
  (dRetF (fSortKey (dVar 2)))))
def S_w_spread_words : FS := S_spread_words
theorem len_w_spread_words : ∀ xs mu Q, S_w_spread_words xs mu Q → xs.length = 2 := len_spread_words
theorem rd_w_spread_words : Body t_w_spread_words ["_law_text", "_law_k", "_law_found", "_law_letter", "_law_word_here"] S_w_spread_words := Body.ren (N := ["text", "k", "found", "letter", "word"]) rfl rd_spread_words
theorem words_same {t u : List Nat} {k : Nat} {ys zs : List (List Nat)} (hy : WordsOf t k ys) (hz : WordsOf u k zs) : ys = zs ↔ AlikeTo t u k := by
  constructor
  · intro e w hw
    subst e
    cases h1 : sub w t with
    | true =>
      have := ((hz.2.2 w).mp ((hy.2.2 w).mpr ⟨(sub_iff _ _).mp h1, hw⟩)).1
      rw [(sub_iff _ _).mpr this]
    | false =>
      cases h2 : sub w u with
      | false => rfl
      | true =>
        have := ((hy.2.2 w).mp ((hz.2.2 w).mpr ⟨(sub_iff _ _).mp h2, hw⟩)).1
        rw [(sub_iff _ _).mpr this] at h1
        cases h1
  · intro h
    refine wordsOf_uniq hy ⟨hz.1, hz.2.1, fun w => ?_⟩
    rw [hz.2.2 w]
    constructor
    · rintro ⟨a, b⟩
      exact ⟨(sub_iff _ _).mp (by rw [h w b]; exact (sub_iff _ _).mpr a), b⟩
    · rintro ⟨a, b⟩
      exact ⟨(sub_iff _ _).mp (by rw [← h w b]; exact (sub_iff _ _).mpr a), b⟩
theorem bool_iff {a b : Bool} {P : Prop} (h : a = true ↔ P) (h' : b = true ↔ P) : a = b := by
  cases a with
  | true => exact (h'.mpr (h.mp rfl)).symm
  | false =>
    cases b with
    | false => rfl
    | true => exact absurd (h.mpr (h'.mp rfl)) (by decide)

end Dx

namespace Dx
open PySem PySem.Spec PyProof.Rows L2
open Evl (Ex)
variable [Tb]
/-! ### letters that may be left out, put in -/
/-- [v(x) for x in xs if p(x)] that changes nothing -/
theorem comp_filt {α : Type} {xs : List α} {gd v : α → D} {p : α → Bool} {t : DG} {tt : DT} {te : DE} {rho : Rho} {mu : Mu} {Q : List D → Mu → Prop} (hs : xs.length ≤ 100000)
    (step : ∀ x ∈ xs, ∀ (G : DQ) (N : Mu → Prop), (p x = true → G (.dat (v x)) mu) → (p x = false → N mu) → t (gd x) rho fun rho' => tt rho' mu fun b mu1 => if b = true then te rho' mu1 G else N mu1)
    (q : Q ((xs.filter p).map v) mu) : dCompL t tt te rho Q (xs.map gd) [] mu := by
  refine comp_inv (fun j acc mu' => mu' = mu ∧ acc = ((xs.take j).filter p).map v) ⟨rfl, rfl⟩ (fun j d acc mu' K hd hp ke => ?_) (fun acc mu' hp => ?_)
  · obtain ⟨rfl, rfl⟩ := hp
    rw [List.getElem?_map] at hd
    cases hx : xs[j]? with
    | none => rw [hx] at hd; cases hd
    | some x =>
      rw [hx] at hd
      have hd := (Option.some.inj hd).symm
      subst hd
      have e1 : xs.take (j + 1) = xs.take j ++ [x] := by rw [List.take_add_one, hx]; rfl
      have hl : (((xs.take j).filter p).map v).length ≤ j := by
        rw [List.length_map]
        exact Nat.le_trans (List.length_filter_le _ _) (by rw [List.length_take]; omega)
      have hj := (List.getElem?_eq_some_iff.mp hx).1
      refine step x (List.mem_of_getElem? hx) _ _ (fun hp => ?_) (fun hp => ?_)
      · refine ⟨by omega, ke _ _ ⟨rfl, ?_⟩⟩
        rw [e1, List.filter_append, List.map_append, List.filter_cons, hp]
        rfl
      · refine ke _ _ ⟨rfl, ?_⟩
        rw [e1, List.filter_append, List.map_append, List.filter_cons, hp]
        show _ = _ ++ []
        rw [List.append_nil]
  · obtain ⟨rfl, rfl⟩ := hp
    rw [List.length_map, List.take_length]
    exact q
noncomputable def alikeB (one other : List Nat) (k : Nat) : Bool := @decide (AlikeTo one other k) (Classical.propDecidable _)
theorem alikeB_iff {one other : List Nat} {k : Nat} : alikeB one other k = true ↔ AlikeTo one other k := by
  unfold alikeB
  exact @decide_eq_true_iff _ (Classical.propDecidable _)
def leftOut (t : List Nat) (i : Nat) : List Nat := t.take i ++ t.drop (i + 1)
def putIn (t : List Nat) (i c : Nat) : List Nat := t.take i ++ [c] ++ t.drop i
theorem leftOut_len (t : List Nat) (i : Nat) : (leftOut t i).length ≤ t.length := by
  unfold leftOut
  rw [List.length_append, List.length_take, List.length_drop]
  omega
theorem leftOut_mem {t : List Nat} {i c : Nat} (h : c ∈ leftOut t i) : c ∈ t := by
  rcases List.mem_append.mp h with h | h
  · exact List.mem_of_mem_take h
  · exact List.mem_of_mem_drop h
theorem putIn_len (t : List Nat) (i c : Nat) : (putIn t i c).length ≤ t.length + 1 := by
  unfold putIn
  rw [List.length_append, List.length_append, List.length_take, List.length_drop, List.length_singleton]
  omega
theorem putIn_mem {t : List Nat} {i c d : Nat} (h : d ∈ putIn t i c) : d ∈ t ∨ d = c := by
  rcases List.mem_append.mp h with h | h
  · rcases List.mem_append.mp h with h | h
    · exact .inl (List.mem_of_mem_take h)
    · exact .inr (by simpa using h)
  · exact .inl (List.mem_of_mem_drop h)
theorem cut_out (t : List Nat) (i : Nat) : cut t none (some ((0 : Int) + (i : Int))) ++ cut t (some ((0 : Int) + (i : Int) + 1)) none = leftOut t i := by
  rw [show (0 : Int) + (i : Int) = ((i : Nat) : Int) by omega, show ((i : Nat) : Int) + 1 = ((i + 1 : Nat) : Int) by omega, cut_to, cut_from]
  rfl
theorem cut_in (t : List Nat) (i c : Nat) : cut t none (some ((0 : Int) + (i : Int))) ++ [c] ++ cut t (some ((0 : Int) + (i : Int))) none = putIn t i c := by
  rw [show (0 : Int) + (i : Int) = ((i : Nat) : Int) by omega, cut_to, cut_from]
  rfl
noncomputable def looseL (t : List Nat) (k : Nat) : List Nat := (List.range t.length).filter fun i => alikeB (leftOut t i) t k
noncomputable def fillL (l t : List Nat) (k : Nat) : List (Nat × Nat) := (List.range (t.length + 1)).flatMap fun i => (l.filter fun c => alikeB (putIn t i c) t k).map fun c => (i, c)
def placeD (p : Nat × Nat) : D := .tup [natD p.1, .str [p.2]]
def S_loose : FS := fun xs mu Q => ∃ (t : List Nat) (k : Nat), xs = [.dat (.str t), .dat (.int (k : Int))] ∧ mu = [] ∧ t.length ≤ 100 ∧ (∀ c ∈ t, c < 1114112) ∧ Q (.new (.lst ((looseL t k).map natD))) []
theorem len_loose : ∀ xs mu Q, S_loose xs mu Q → xs.length = 2 := fun xs mu Q h => by
  obtain ⟨_, _, rfl, _⟩ := h
  rfl
def S_fillings : FS := fun xs mu Q => ∃ (l t : List Nat) (k : Nat), xs = [.dat (.str l), .dat (.str t), .dat (.int (k : Int))] ∧ mu = [] ∧ l.length ≤ 26 ∧ t.length ≤ 100 ∧ (∀ c ∈ l, c < 1114112) ∧ (∀ c ∈ t, c < 1114112) ∧ Q (.new (.lst ((fillL l t k).map placeD))) []
theorem len_fillings : ∀ xs mu Q, S_fillings xs mu Q → xs.length = 3 := fun xs mu Q h => by
  obtain ⟨_, _, _, rfl, _⟩ := h
  rfl
theorem fillL_len (l t : List Nat) (k i : Nat) (hi : i ≤ t.length + 1) : ((List.range i).flatMap fun i => (l.filter fun c => alikeB (putIn t i c) t k).map fun c => (i, c)).length ≤ i * l.length := by
  induction i with
  | zero => exact Nat.zero_le _
  | succ i ih =>
    rw [List.range_succ, List.flatMap_append, List.length_append, Nat.succ_mul]
    have h1 := ih (by omega)
    have h2 : ([i].flatMap fun i => (l.filter fun c => alikeB (putIn t i c) t k).map fun c => (i, c)).length ≤ l.length := by
      rw [List.flatMap_singleton, List.length_map]
      exact List.length_filter_le _ _
    omega
def t_loose : DS :=
  (dRetF (fLc (iRg1 (aCons (dCB dLen (aCons (dVar 0) aNil)) aNil)) (dgN 2) (dTest (dCall S_alike (aCons (dOp dAdd (dSl dCut (dVar 0) oNone (oSome (dVar 2))) (dSl dCut (dVar 0) (oSome (dOp dAdd (dVar 2) (dC (.int 1)))) oNone)) (aCons (dVar 0) (aCons (dVar 1) aNil))))) (dVar 2) [2]))
theorem rd_loose : Body t_loose ["text", "k", "at"] S_loose := fun xs mu Q h => by
  obtain ⟨t, k, rfl, rfl, ht, tc, q⟩ := h
  refine ⟨by omega, ?_⟩
  refine ⟨by omega, by omega, ?_⟩
  rw [Int.toNat_natCast]
  refine comp_filt (xs := List.range t.length) (gd := fun i => D.int (0 + (i : Int))) (v := natD) (p := fun i => alikeB (leftOut t i) t k) (by rw [List.length_range]; omega) (fun i hi G N g1 g2 => ?_) q
  have c1 := cut_len t none (some ((0 : Int) + (i : Int)))
  have c2 := cut_len t (some ((0 : Int) + (i : Int) + 1)) none
  refine ⟨by omega, ?_⟩
  refine ⟨by omega, ?_⟩
  refine ⟨by omega, ?_⟩
  refine ⟨rfl, _, t, k, rfl, rfl, by rw [cut_out]; have := leftOut_len t i; omega, by omega, by rw [cut_out]; exact fun c hc => tc c (leftOut_mem hc), tc, fun b hb => ?_⟩
  rw [cut_out, ← alikeB_iff] at hb
  have eb : b = alikeB (leftOut t i) t k := by
    cases b with
    | true => exact (hb.mp rfl).symm
    | false => cases h : alikeB (leftOut t i) t k with
      | false => rfl
      | true => exact absurd (hb.mpr h) (by decide)
  subst eb
  refine it2 (fun h => ?_) (fun h => ?_)
  · have := g1 h
    show G (.dat (.int (0 + (i : Int)))) []
    rw [Int.zero_add]
    exact this
  · exact g2 h
theorem eqB_of {b c : Bool} (h : b = true ↔ c = true) : b = c := bool_iff h Iff.rfl
def t_fillings : DS :=
  (dSeq (dSet 3 (dNew (fLst aNil)))
  (dSeq (dFor (iRg1 (aCons (dOp dAdd (dCB dLen (aCons (dVar 1) aNil)) (dC (.int 1))) aNil)) (dgN 4)
  (dFor (iStrD (dVar 0)) (dgN 5)
  (dIf (dTest (dCall S_alike (aCons (dOp dAdd (dOp dAdd (dSl dCut (dVar 1) oNone (oSome (dVar 4))) (dVar 5)) (dSl dCut (dVar 1) (oSome (dVar 4)) oNone)) (aCons (dVar 1) (aCons (dVar 2) aNil)))))
  (dDrop (dBM "list" dAppend (dVar 3) (aCons (dTup (aCons (dVar 4) (aCons (dVar 5) aNil))) aNil)))
  dNext)))
  (dRet (dVar 3))))
theorem rd_fillings : Body t_fillings ["letters", "text", "k", "found", "at", "letter"] S_fillings := fun xs mu Q h => by
  obtain ⟨l, t, k, rfl, rfl, hl, ht, lc, tc, q⟩ := h
  refine ⟨by show 0 ≤ 1000; omega, ?_⟩
  refine ⟨by omega, ?_⟩
  refine ⟨by omega, by omega, ?_⟩
  rw [show (((t.length : Nat) : Int) + 1).toNat = t.length + 1 by omega]
  refine for_inv (fun i rho mu => ∃ x4 x5, mu = [.lst ((((List.range i).flatMap fun i => (l.filter fun c => alikeB (putIn t i c) t k).map fun c => (i, c))).map placeD)] ∧ rho = [some (.dat (.str l)), some (.dat (.str t)), some (.dat (.int (k : Int))), some (.cel 0), x4, x5]) ⟨none, none, rfl, rfl⟩ (fun i d rho mu K hd hp ke => ?_) (fun rho mu hp => ?_)
  · obtain ⟨x4, x5, rfl, rfl⟩ := hp
    obtain ⟨rfl, hi⟩ := rng_at hd
    have fl := fillL_len l t k i (by omega)
    have fl2 : i * l.length ≤ 101 * 26 := Nat.mul_le_mul (by omega) hl
    refine for_inv (fun j rho mu => ∃ x5, mu = [.lst ((((List.range i).flatMap fun i => (l.filter fun c => alikeB (putIn t i c) t k).map fun c => (i, c)) ++ ((l.take j).filter fun c => alikeB (putIn t i c) t k).map fun c => (i, c)).map placeD)] ∧ rho = [some (.dat (.str l)), some (.dat (.str t)), some (.dat (.int (k : Int))), some (.cel 0), some (.dat (.int (0 + (i : Int)))), x5]) ⟨_, by rw [List.take_zero, List.filter_nil, List.map_nil, List.append_nil], rfl⟩ (fun j d rho mu K2 hd hp ke2 => ?_) (fun rho mu hp => ?_)
    · obtain ⟨x5, rfl, rfl⟩ := hp
      obtain ⟨c, hc, rfl⟩ := str_at hd
      have c1 := cut_len t none (some ((0 : Int) + (i : Int)))
      have c2 := cut_len t (some ((0 : Int) + (i : Int))) none
      have e1 : l.take (j + 1) = l.take j ++ [c] := by rw [List.take_add_one, hc]; rfl
      refine ⟨by omega, ?_⟩
      refine ⟨by show _ + 1 ≤ 100000; omega, ?_⟩
      refine ⟨by omega, ?_⟩
      refine ⟨by rw [List.length_append]; show (_ + 1) + _ ≤ 100000; omega, ?_⟩
      refine ⟨rfl, _, t, k, rfl, rfl, by rw [cut_in]; have := putIn_len t i c; omega, by omega, by
        rw [cut_in]
        intro d hd
        rcases putIn_mem hd with z | z
        · exact tc d z
        · rw [z]; exact lc c (List.mem_of_getElem? hc), tc, fun b hb => ?_⟩
      rw [cut_in, ← alikeB_iff] at hb
      have eb := eqB_of hb
      subst eb
      refine it2 (fun h => ?_) (fun h => ?_)
      · refine ⟨rfl, ?_⟩
        refine ⟨by show 2 ≤ 1000; omega, ?_⟩
        refine ⟨?_, ?_⟩
        · rw [List.length_map, List.length_append, List.length_map]
          have h1 := List.length_filter_le (fun c => alikeB (putIn t i c) t k) (l.take j)
          rw [List.length_take] at h1
          omega
        · refine ke2 _ _ ⟨_, ?_, rfl⟩
          show [MC.lst (_ ++ [D.tup [.int (0 + (i : Int)), .str [c]]])] = _
          rw [e1, List.filter_append, List.map_append (f := fun c => (i, c)), List.filter_cons, h, ← List.append_assoc, List.map_append (l₁ := _ ++ _), Int.zero_add]
          rfl
      · refine ke2 _ _ ⟨_, ?_, rfl⟩
        have e2 : (l.take (j + 1)).filter (fun c => alikeB (putIn t i c) t k) = (l.take j).filter fun c => alikeB (putIn t i c) t k := by
          rw [e1, List.filter_append, List.filter_cons, h]
          exact List.append_nil _
        rw [e2]
    · obtain ⟨x5, rfl, rfl⟩ := hp
      refine ke _ _ ⟨_, _, ?_, rfl⟩
      rw [List.length_map, List.take_length, List.range_succ, List.flatMap_append, List.flatMap_singleton]
  · obtain ⟨x4, x5, rfl, rfl⟩ := hp
    rw [rng_len]
    refine ⟨Nat.zero_le _, rfl, ?_⟩
    exact q
def t_w_is_alike : DS :=
  (dSeq (dSet 3 (dCall S_w_parting (aCons (dVar 0) (aCons (dVar 1) aNil))))
  (dRet (dOrV (dOp dIsN (dVar 3) (dC .non)) (dOp dLe (dVar 2) (dOp dIx (dVar 3) (dC (.int 0)))))))
def S_w_is_alike : FS := S_alike
theorem len_w_is_alike : ∀ xs mu Q, S_w_is_alike xs mu Q → xs.length = 3 := len_alike
theorem rd_w_is_alike : Body t_w_is_alike ["_law_one", "_law_other", "_law_k", "_law_told"] S_w_is_alike := Body.ren (N := ["one", "other", "k", "told"]) rfl rd_alike
def t_w_put : DS :=
  (dSeq (dSet 3 (dNew (fLst aNil)))
  (dSeq (dFor (iRg1 (aCons (dOp dAdd (dCB dLen (aCons (dVar 1) aNil)) (dC (.int 1))) aNil)) (dgN 4)
  (dDrop (dBM "list" dExtend (dVar 3) (aCons (dFrz (fLc (iStrD (dVar 0)) (dgN 5) (dTest (dCall S_w_is_alike (aCons (dOp dAdd (dOp dAdd (dSl dCut (dVar 1) oNone (oSome (dVar 4))) (dVar 5)) (dSl dCut (dVar 1) (oSome (dVar 4)) oNone)) (aCons (dVar 1) (aCons (dVar 2) aNil))))) (dTup (aCons (dVar 4) (aCons (dVar 5) aNil))) [5])) aNil))))
  (dRet (dVar 3))))
def S_w_put : FS := S_fillings
theorem len_w_put : ∀ xs mu Q, S_w_put xs mu Q → xs.length = 3 := len_fillings
theorem rd_w_put : Body t_w_put ["_law_letters_here", "_law_text", "_law_k", "_law_found", "_law_at", "_law_one"] S_w_put := fun xs mu Q h => by
  obtain ⟨l, t, k, rfl, rfl, hl, ht, lc, tc, q⟩ := h
  refine ⟨by show 0 ≤ 1000; omega, ?_⟩
  refine ⟨by omega, ?_⟩
  refine ⟨by omega, by omega, ?_⟩
  rw [show (((t.length : Nat) : Int) + 1).toNat = t.length + 1 by omega]
  refine for_inv (fun i rho mu => ∃ x4 x5, mu = [.lst ((((List.range i).flatMap fun i => (l.filter fun c => alikeB (putIn t i c) t k).map fun c => (i, c))).map placeD)] ∧ rho = [some (.dat (.str l)), some (.dat (.str t)), some (.dat (.int (k : Int))), some (.cel 0), x4, x5]) ⟨none, none, rfl, rfl⟩ (fun i d rho mu K hd hp ke => ?_) (fun rho mu hp => ?_)
  · obtain ⟨x4, x5, rfl, rfl⟩ := hp
    obtain ⟨rfl, hi⟩ := rng_at hd
    have fl := fillL_len l t k i (by omega)
    have fl2 : i * l.length ≤ 101 * 26 := Nat.mul_le_mul (by omega) hl
    refine ⟨rfl, ?_⟩
    refine comp_filt (xs := l) (gd := fun c => D.str [c]) (v := fun c => placeD (i, c)) (p := fun c => alikeB (putIn t i c) t k) (by omega) (fun c hc G N g1 g2 => ?_) ?_
    · have c1 := cut_len t none (some ((0 : Int) + (i : Int)))
      have c2 := cut_len t (some ((0 : Int) + (i : Int))) none
      refine ⟨by omega, ?_⟩
      refine ⟨by show _ + 1 ≤ 100000; omega, ?_⟩
      refine ⟨by omega, ?_⟩
      refine ⟨by rw [List.length_append]; show (_ + 1) + _ ≤ 100000; omega, ?_⟩
      refine ⟨rfl, _, t, k, rfl, rfl, by rw [cut_in]; have := putIn_len t i c; omega, by omega, by
        rw [cut_in]
        intro d hd
        rcases putIn_mem hd with z | z
        · exact tc d z
        · rw [z]; exact lc c hc, tc, fun b hb => ?_⟩
      rw [cut_in, ← alikeB_iff] at hb
      have eb := eqB_of hb
      subst eb
      refine it2 (fun h => ?_) (fun h => ?_)
      · refine ⟨by show 2 ≤ 1000; omega, ?_⟩
        have := g1 h
        show G (.dat (.tup [.int (0 + (i : Int)), .str [c]])) _
        rw [Int.zero_add]
        exact this
      · exact g2 h
    · refine ⟨?_, ?_⟩
      · rw [List.length_map, List.length_map]
        have h1 := List.length_filter_le (fun c => alikeB (putIn t i c) t k) l
        omega
      · refine ke _ _ ⟨_, _, ?_, rfl⟩
        rw [List.range_succ, List.flatMap_append, List.flatMap_singleton, List.map_append, List.map_map]
        rfl
  · obtain ⟨x4, x5, rfl, rfl⟩ := hp
    rw [rng_len]
    refine ⟨Nat.zero_le _, rfl, ?_⟩
    exact q

end Dx

namespace Dx
open PySem PySem.Spec PyProof.Rows L2
open Evl (Ex)
variable [Tb]

/-! ### max(list of ints), len(set(list of ints)) -/
@[irreducible] def dMax : DCall := fun xs mu Q => on1 xs fun x => onSome ((seqL mu x).bind toIs) fun ns => 0 < ns.length ∧ ∀ m, m ∈ ns → (∀ y ∈ ns, y ≤ m) → Q (.dat (.int m)) mu
section
variable {X : Cx}
theorem cMax (hc : X.calm = true) : CallD X (.builtin "max") dMax := ⟨_, cr_max hc, fun F al mu H xs vs Q R c r q l => by
  unfold dMax at q
  obtain ⟨x, v, ev, rx, q⟩ := on1_out q r
  obtain ⟨ns, hn, h0, q⟩ := onSome_out q
  obtain ⟨ds, hd, hs⟩ := bind_out hn
  obtain ⟨p, us, e2, hH, rl⟩ := seqL_out c rx hd
  have e3 := toIs_map hs
  subst e3
  subst e2
  have e4 := rl.ints
  subst e4
  refine ⟨p, ns, ev, .inl (.inl hH), h0, fun m h1 h2 => ?_⟩
  exact l F al (.dat (.int m)) mu _ H Ext.refl c rv_int (q m h1 h2)⟩
def tLenSetA (K : PySem.W.Frag) (ta : TE) : TE := fun σ H Q => ta σ H fun x H1 => ∃ (l : Addr) (ns : List Int), x = V.ref l ∧ SqL K H1 l (ns.map V.int) ∧ ns.length ≤ 4000 ∧ ∀ ks : List Int, ks.Nodup → (∀ x, x ∈ ks ↔ x ∈ ns) → Q (.int ks.length) H1
theorem firstMet_nd (f : Nat → Int) : ∀ i, (PyProof.Rows.firstMet f i).Nodup
  | 0 => by rw [PyProof.Rows.firstMet_zero]; exact List.nodup_nil
  | i + 1 => by
    rw [PyProof.Rows.firstMet_succ]
    unfold PyProof.Rows.step_dedup
    have ih := firstMet_nd f i
    split
    · exact ih
    · rename_i h
      rw [List.nodup_append]
      refine ⟨ih, by simp, fun a ha b hb e => ?_⟩
      have hb : b = f i := by simpa using hb
      subst hb
      subst e
      exact h (List.any_eq_true.mpr ⟨_, ha, by simp⟩)
theorem pe_lenSetA {a : Expr} {ta : TE} {p p2 q pos : Pos} (hc : X.calm = true) (hm : X.mg "len" = none) (hm2 : X.mg "set" = none) (ha : PE X a ta) (hg : Gl X "len" := by rfl) (hg2 : Gl X "set" := by rfl)
    (na : starEach [a] X.env = (false, eval a X.env) :: starEach [] X.env := by rfl) : PE X (.Call (.Name "len" p) [.Call (.Name "set" p2) [a] [] q] [] pos) (tLenSetA X.K ta) := by
  refine ⟨fun pins s σ H Q I h => Call_ (ld_blt I hg hm boot_len ?_)⟩
  refine PyProof.Rows.callWith_builtin1 (PyProof.Rows.args_cons ?_ rfl) rfl rfl
  refine Call_ (ld_blt I hg2 hm2 boot_set (PyProof.Rows.callWith_type1 (PyProof.Rows.args_cons (thn (ha.run pins s σ H _ I h) fun v s1 ⟨x, H1, I1, r1, q1⟩ => PyProof.Rows.args_nil ?_) na) na rfl))
  obtain ⟨l, ns, rfl, hq, hl, q1⟩ := q1
  cases r1
  obtain ⟨its, r, pl, hz⟩ := I1.list hq
  have hlen : its.toArray.size = ns.length := by rw [List.size_toArray, ← r.length, List.length_map]
  refine call_set_list (I1.ok.hd hc) pl.isList (by simpa using r.ints) (by rw [hlen]; unfold scanBound; omega) fun h' tk hS hk => PyProof.Rows.args_nil ?_
  rw [hlen] at hS
  obtain ⟨o, es, ep, t, ho, hex, hd, _, _, _, hf, hn⟩ := hS
  have hle := PyProof.Rows.firstMet_length_le (fun i => ns.getD i 0) ns.length
  have I2 : Inv X pins σ H1 { s1 with heap := h', toks := tk } := I1.kept fun b o e => hk b o (Heap.lt_size e) e
  refine call_len_set ho hex hd hf (by rw [hn]; omega) ⟨.int (PyProof.Rows.firstMet (fun i => ns.getD i 0) ns.length).length, H1, I2.tok _, ⟨_, by rw [hn]⟩, q1 _ (firstMet_nd _ _) fun k => ?_⟩
  have e1 := PyProof.Rows.firstMet_any (fun i => ns.getD i 0) ns.length k
  have e2 : (List.range ns.length).map (fun i => ns.getD i 0) = ns := by
    apply List.ext_getElem
    · rw [List.length_map, List.length_range]
    · intro i h1 h2
      rw [List.getElem_map, List.getElem_range, List.getD_eq_getElem?_getD, List.getElem?_eq_getElem h2]
      rfl
  rw [e2] at e1
  have e3 : ∀ m : List Int, (m.any (· == k) = true ↔ k ∈ m) := fun m => by
    rw [List.any_eq_true]
    constructor
    · rintro ⟨y, hy, e⟩
      have : y = k := by simpa using e
      rw [← this]
      exact hy
    · intro hy
      exact ⟨k, hy, by simp⟩
  rw [← e3, e1, e3]
@[irreducible] def nLenSet (x : DV) (mu : Mu) (Q : DQ) : Prop := onSome ((seqL mu x).bind toIs) fun ns => ns.length ≤ 4000 ∧ ∀ ks : List Int, ks.Nodup → (∀ x, x ∈ ks ↔ x ∈ ns) → Q (.dat (.int ks.length)) mu
def dLenSetA (te : DE) : DE := fun rho mu Q => te rho mu fun x mu1 => nLenSet x mu1 Q
theorem ce_lenSetA {a : Expr} {ta : DE} {p p2 q pos : Pos} (hc : X.calm = true) (hm : X.mg "len" = none) (hm2 : X.mg "set" = none) (ha : CE X a ta) (hg : Gl X "len" := by rfl) (hg2 : Gl X "set" := by rfl)
    (na : starEach [a] X.env = (false, eval a X.env) :: starEach [] X.env := by rfl) : CE X (.Call (.Name "len" p) [.Call (.Name "set" p2) [a] [] q] [] pos) (dLenSetA ta) := by
  obtain ⟨_, p1, g1⟩ := ha.ok
  refine ⟨_, pe_lenSetA hc hm hm2 p1 hg hg2 na, fun F al rho mu σ H Q R S q l => g1 F al rho mu σ H _ _ S q fun F1 al1 x mu1 v H1 E1 C1 r1 q1 => ?_⟩
  unfold nLenSet at q1
  obtain ⟨ns, hn, h0, q2⟩ := onSome_out q1
  obtain ⟨ds, hd, hs⟩ := bind_out hn
  obtain ⟨p, us, e2, hH, rl⟩ := seqL_out C1 r1 hd
  have e3 := toIs_map hs
  subst e3
  subst e2
  have e4 := rl.ints
  subst e4
  exact ⟨p, ns, rfl, .inl (.inl hH), h0, fun ks h1 h2 => l F1 al1 (.dat (.int ks.length)) mu1 _ H1 E1 C1 rv_int (q2 ks h1 h2)⟩
end

/-! ### keys: truths; rows of numbers -/
def boolKM {α : Type} (vd : α → D) : KM Bool α := ⟨fun b => .bl b, vd, .inr fun _ => rfl, fun a b h => by
  have h : (NestedKey.num (if a = true then 1 else 0)) = .num (if b = true then 1 else 0) := h
  injection h with h
  cases a <;> cases b <;> first | rfl | (exfalso; revert h; decide)⟩
def rowK (l : List Nat) : D := .tup (l.map natD)
def numN (n : Nat) : NestedKey := .num (n : Int)
theorem nkDs_nat : ∀ l : List Nat, nkDs (l.map natD) = l.map numN
  | [] => rfl
  | n :: l => by
    show nkD (natD n) :: nkDs (l.map natD) = _
    rw [nkDs_nat l]
    rfl
theorem depth_nums : ∀ l : List Nat, NestedKey.depthAll (l.map numN) = 0
  | [] => rfl
  | n :: l => by
    show max 0 (NestedKey.depthAll (l.map numN)) = 0
    rw [depth_nums l]
    rfl
theorem keyOks_nat : ∀ l : List Nat, keyOks (l.map natD) = true
  | [] => rfl
  | n :: l => by
    show (keyOk (natD n) && keyOks (l.map natD)) = true
    rw [keyOks_nat l]
    rfl
theorem rowK_fit (l : List Nat) : kTup (rowK l) = true := by
  unfold kTup rowK
  have e : (nkD (.tup (l.map natD))).depth = 1 := by
    show NestedKey.depthAll (nkDs (l.map natD)) + 1 = 1
    rw [nkDs_nat, depth_nums]
  rw [e]
  show (true && (keyOks (l.map natD) && decide (1 ≤ 8))) = true
  rw [keyOks_nat]
  rfl
theorem num_inj : ∀ {a b : List Nat}, (a.map numN) = b.map (numN) → a = b
  | [], [], _ => rfl
  | [], _ :: _, h => by cases h
  | _ :: _, [], h => by cases h
  | x :: a, y :: b, h => by
    rw [List.map_cons, List.map_cons] at h
    injection h with h1 h2
    have h1 : NestedKey.num (x : Int) = .num (y : Int) := h1
    injection h1 with h1
    rw [num_inj h2, show x = y from Int.ofNat.inj h1]
theorem rowK_inj (a b : List Nat) (h : nkD (rowK a) = nkD (rowK b)) : a = b := by
  have h : NestedKey.tup (nkDs (a.map natD)) = .tup (nkDs (b.map natD)) := h
  injection h with h
  rw [nkDs_nat, nkDs_nat] at h
  exact num_inj h
def rowKM {α : Type} (vd : α → D) : KM (List Nat) α := ⟨rowK, vd, .inl rowK_fit, rowK_inj⟩

/-! ### rows numbered as they come first -/
section
variable {κ : Type} [DecidableEq κ]
def firsts : List κ → List κ := fun rows => rows.foldl (fun acc r => if r ∈ acc then acc else acc ++ [r]) []
theorem firsts_snoc (rows : List κ) (r : κ) : firsts (rows ++ [r]) = if r ∈ firsts rows then firsts rows else firsts rows ++ [r] := by
  unfold firsts
  rw [List.foldl_append]
  rfl
theorem firsts_nil : firsts ([] : List κ) = [] := rfl
theorem snoc_indA {α : Type} {P : List α → Prop} (h0 : P []) (h1 : ∀ x e, P x → P (x ++ [e])) (v : List α) : P v := by
  have key : ∀ u : List α, P u.reverse := fun u => by
    induction u with
    | nil => exact h0
    | cons a u ih =>
      rw [List.reverse_cons]
      exact h1 _ _ ih
  have := key v.reverse
  rwa [List.reverse_reverse] at this
theorem mem_firsts {r : κ} (rows : List κ) : r ∈ firsts rows ↔ r ∈ rows := by
  refine snoc_indA (P := fun rows => r ∈ firsts rows ↔ r ∈ rows) Iff.rfl (fun x e ih => ?_) rows
  rw [firsts_snoc, List.mem_append, List.mem_singleton]
  split
  · rename_i h
    constructor
    · exact fun z => .inl (ih.mp z)
    · rintro (z | z)
      · exact ih.mpr z
      · rw [z]; exact h
  · rw [List.mem_append, List.mem_singleton, ih]
theorem nodup_firsts (rows : List κ) : (firsts rows).Nodup := by
  refine snoc_indA (P := fun rows => (firsts rows).Nodup) List.nodup_nil (fun x e ih => ?_) rows
  rw [firsts_snoc]
  split
  · exact ih
  · rename_i h
    rw [List.nodup_append]
    refine ⟨ih, by simp, fun a ha b hb z => ?_⟩
    have hb : b = e := by simpa using hb
    exact h (by rw [← hb, ← z]; exact ha)
theorem firsts_len_le (rows : List κ) : (firsts rows).length ≤ rows.length := by
  refine snoc_indA (P := fun rows => (firsts rows).length ≤ rows.length) (Nat.le_refl _) (fun x e ih => ?_) rows
  rw [firsts_snoc, List.length_append, List.length_singleton]
  split
  · omega
  · rw [List.length_append, List.length_singleton]; omega
def posIn (l : List κ) (r : κ) : Nat := l.findIdx fun x => decide (x = r)
theorem posIn_lt {l : List κ} {r : κ} (h : r ∈ l) : posIn l r < l.length := List.findIdx_lt_length_of_exists ⟨r, h, decide_eq_true rfl⟩
theorem posIn_at {l : List κ} {r : κ} (h : r ∈ l) : l[posIn l r]? = some r := by
  have hl := posIn_lt h
  rw [List.getElem?_eq_getElem hl]
  have := List.findIdx_getElem (xs := l) (p := fun x => decide (x = r)) (w := hl)
  exact congrArg some (of_decide_eq_true this)
theorem posIn_inj {l : List κ} {r s : κ} (h : r ∈ l) (h' : s ∈ l) (e : posIn l r = posIn l s) : r = s := by
  have a := posIn_at h
  have b := posIn_at h'
  rw [e] at a
  rw [a] at b
  exact Option.some.inj b
theorem posIn_app {l : List κ} {r : κ} (h : r ∈ l) (m : List κ) : posIn (l ++ m) r = posIn l r := by
  have hl := posIn_lt h
  unfold posIn at hl ⊢
  rw [List.findIdx_append, if_pos hl]
theorem posIn_new {l : List κ} {r : κ} (h : r ∉ l) : posIn (l ++ [r]) r = l.length := by
  unfold posIn
  have e : l.findIdx (fun x => decide (x = r)) = l.length := List.findIdx_eq_length.mpr fun x hx => decide_eq_false (fun z => h (z ▸ hx))
  rw [List.findIdx_append, e, if_neg (Nat.lt_irrefl _)]
  simp
def nums (rows : List κ) : List Nat := rows.map (posIn (firsts rows))
theorem nums_len (rows : List κ) : (nums rows).length = rows.length := List.length_map _
/-- the dict of the rows met so far -/
def numE (l : List κ) : List (κ × Nat) := l.zip (List.range l.length)
theorem numE_keys (l : List κ) : (numE l).map (·.1) = l := by
  unfold numE
  rw [List.map_fst_zip]
  rw [List.length_range]
  exact Nat.le_refl _
theorem numE_len (l : List κ) : (numE l).length = l.length := by
  unfold numE
  rw [List.length_zip, List.length_range, Nat.min_self]
theorem numE_snoc (l : List κ) (r : κ) : numE (l ++ [r]) = numE l ++ [(r, l.length)] := by
  unfold numE
  rw [List.length_append, List.length_singleton, List.range_succ, List.zip_append (by rw [List.length_range])]
  rfl
theorem numE_look {l : List κ} (nd : l.Nodup) {r : κ} (h : r ∈ l) : alook (numE l) r = some (posIn l r) := by
  refine alook_of (by rw [numE_keys]; exact nd) ?_
  have h1 := posIn_at h
  have h2 := posIn_lt h
  unfold numE
  refine List.mem_iff_getElem?.mpr ⟨posIn l r, ?_⟩
  rw [List.getElem?_zip_eq_some]
  exact ⟨h1, by rw [List.getElem?_range h2]⟩
end
end Dx

namespace Dx
open PySem PySem.Spec PyProof.Rows L2
open Evl (Ex)
variable [Tb]

/-! ### {k: v}, k an int, a truth, a text -/
def tNDispL (w : World) (tk tv : TE) : TE := fun σ H Q => ∀ p, H p = none → tk σ (upd H p (DicN w p [])) fun x H1 => tv σ H1 fun y H2 => H2 p = some (DicN w p []) ∧ ∃ k, KeyL k x ∧ Q (.ref p) (upd H2 p (DicN w p [(k, x, y)]))
section
variable {X : Cx} {pos : Pos} {ek ev k v : Expr} {tk tv : TE} {dk dv : DE}
theorem pe_ndispL (hk : PE X ek tk) (hv : PE X ev tv) : PE X (.Dict [some ek] [ev] pos) (tNDispL X.w tk tv) := by
  refine ⟨fun pins s σ H Q I q => ?_⟩
  have hn := I.hok.fresh (Nat.le_refl s.heap.objs.size)
  have I1 : Inv X pins σ (upd H s.heap.objs.size (DicN X.w s.heap.objs.size [])) { s with heap := s.heap.push { cls := .type "dict", data := .dict #[] } } :=
    I.laid (t' := s.toks) (fun _ _ e => Heap.get?_push_of_some _ e) (Nat.le_refl s.heap.objs.size) (dicN_empty s.heap I.big)
  refine wpAny_Dict_walk (knd := leafKind X.prog X.w) rfl rfl (by simp) (by simp) ?_
  refine pairTrees_cons_walk (thn (hk.run pins _ σ _ _ I1 (q _ hn)) fun u s1 ⟨x, H1, J1, rx, q1⟩ => thn (hv.run pins s1 σ H1 _ J1 q1) fun w2 s2 ⟨y, H2, J2, ry, e2, k, ky, q2⟩ => pairTrees_nil_walk ?_)
  obtain ⟨F, d, kd, rd, rfl⟩ := ky
  obtain ⟨l1, l2, _⟩ := leaf_of kd rd rx
  obtain ⟨hz, hd, zs, rel, dd⟩ := dicN_l J2.hok e2 (fun _ z => nomatch z)
  cases rel
  refine ⟨[(leafOf d, w2)], ?_, dd, fun h' dd' hs => ⟨.ref s.heap.objs.size, _, ?_, rfl, q2⟩⟩
  · exact ⟨l2, rfl, trivial⟩
  have he : ∃ o, h'.get? s.heap.objs.size = some o := let ⟨o, _, _, ho, _⟩ := dd'; ⟨o, ho⟩
  have rel : Paired RLf [(nkD d, x, y)] [(leafOf d, w2)] := .cons ⟨l1.symm, ry⟩ .nil
  exact d_write J2 (by rw [e2]; exact True.intro) hs he (dicN_of_l (by rw [sizeLine_eq]; show 1 ≤ _; omega) hd (fun z hz => by
    rw [List.mem_singleton] at hz
    subst hz
    exact ⟨F, d, kd, rd, rfl⟩) rel dd')
def fDL1 (w : World) (tk tv : DE) : DF := fun rho mu Q => tk rho mu fun x mu1 => tv rho mu1 fun y mu2 => onD x fun kd => onD y fun d => kLeaf kd = true ∧ Q (.dt w [kd] [d]) mu2
theorem cf_dL1 (hk : CE X k dk) (hv : CE X v dv) : CF X (.Dict [some k] [v] pos) (fDL1 X.w dk dv) := by
  obtain ⟨_, p1, g1⟩ := hk.ok
  obtain ⟨_, p2, g2⟩ := hv.ok
  refine ⟨_, pe_ndispL p1 p2, fun F al rho mu σ H Q R S q l p hp => ?_⟩
  have E0 : Ext F al H F al (upd H p (DicN X.w p [])) := Ext.loose hp
  have C0 := S.toCels.loose (o := DicN X.w p []) hp
  have na := S.toCels.not_al hp
  have nF : F p = none := ex_none S.ex hp
  refine g1 F al rho mu σ _ _ _ (S.of C0 E0.ex E0.pf) q fun F1 al1 x mu1 v1 H1 E1 C1 r1 q1 => ?_
  refine g2 F1 al1 rho mu1 σ H1 _ _ (S.of C1 (E0.trans E1).ex (E0.trans E1).pf) q1 fun F2 al2 y mu2 v2 H2 E2 C2 r2 q2 => ?_
  have E02 := E1.trans E2
  obtain ⟨kd, ek, q3⟩ := onD_out q2
  obtain ⟨d, ed, kt, q5⟩ := onD_out q3
  clear q2 q3
  subst ek
  subst ed
  have hH2 : H2 p = some (DicN X.w p []) := E02.kp p _ na upd_same (plain_dicN (a := p)).1
  have n2 : p ∉ al2 := fun z => by
    rcases E02.nc p z with w | w
    · exact na w
    · rw [upd_same] at w
      cases w
  have nF2 : F2 p = none := by
    cases w : F2 p with
    | none => rfl
    | some o =>
      rcases E02.nf p (by rw [w]; exact fun z => nomatch z) with z | z | z
      · exact absurd nF z
      · rw [upd_same] at z
        cases z
      · exact absurd z na
  have rk2 : Rep F2 kd v1 := r1.mono E2.ex E2.pf
  refine ⟨hH2, nkD kd, ⟨F2, kd, kt, rk2, rfl⟩, ?_⟩
  have E := E0.trans E02
  have ex : Ext F al H F2 al2 (upd H2 p (DicN X.w p [(nkD kd, v1, v2)])) := ⟨E.ex, E.pf, E.nf, E.nc, fun a o ha h nt => by
    rw [upd_ne (fun z => by rw [z, hp] at h; cases h)]
    exact E.kp a o ha h nt, fun a h => by
    by_cases z : a = p
    · subst z
      rw [upd_same]
      exact fun z => nomatch z
    · rw [upd_ne z]
      exact E.dm a h⟩
  refine l F2 al2 (.dt X.w [kd] [d]) mu2 p _ ex (C2.other n2 nF2 hH2 plain_dicN) n2 hp rfl ⟨nF2, [v1], [v2], ?_, rfl, .cons rk2 .nil, .cons r2 .nil⟩ q5
  rw [upd_same]
  rfl
end
/-- keys: ints; texts -/
def intKM {α : Type} (vd : α → D) : KM Nat α := ⟨natD, vd, .inr fun _ => rfl, fun a b h => by
  have h : NestedKey.num (a : Int) = .num (b : Int) := h
  injection h with h
  exact Int.ofNat.inj h⟩
def strKM {α : Type} (vd : α → D) : KM (List Nat) α := ⟨fun s => .str s, vd, .inr fun _ => rfl, fun a b h => by
  have h : NestedKey.text ⟨a.toArray⟩ = .text ⟨b.toArray⟩ := h
  injection h with h
  exact mkS_inj h⟩
end Dx

namespace Dx
open PySem PySem.Spec PyProof.Rows L2
open Evl (Ex)
variable [Tb]

/-! ### least machines: what they are -/
def Over (L v : List Nat) : Prop := ∀ c ∈ v, c ∈ L
theorem Over.app {L u v : List Nat} (h : Over L u) (h' : Over L v) : Over L (u ++ v) := fun c hc => (List.mem_append.mp hc).elim (h c) (h' c)
theorem Over.one {L : List Nat} {c : Nat} (h : c ∈ L) : Over L [c] := fun d hd => by
  rw [List.mem_singleton] at hd
  rw [hd]
  exact h
theorem Over.nil {L : List Nat} : Over L [] := fun c hc => nomatch hc
/-- the same texts behind both are taken -/
def Eqv (L : List Nat) (lang : List Nat → Bool) (u v : List Nat) : Prop := ∀ t, Over L t → lang (u ++ t) = lang (v ++ t)
theorem Eqv.refl {L : List Nat} {lang : List Nat → Bool} (u : List Nat) : Eqv L lang u u := fun _ _ => rfl
theorem Eqv.symm {L : List Nat} {lang : List Nat → Bool} {u v : List Nat} (h : Eqv L lang u v) : Eqv L lang v u := fun t ht => (h t ht).symm
theorem Eqv.trans {L : List Nat} {lang : List Nat → Bool} {u v w : List Nat} (h : Eqv L lang u v) (h' : Eqv L lang v w) : Eqv L lang u w := fun t ht => (h t ht).trans (h' t ht)
theorem Eqv.app {L : List Nat} {lang : List Nat → Bool} {u v x : List Nat} (h : Eqv L lang u v) (hx : Over L x) : Eqv L lang (u ++ x) (v ++ x) := fun t ht => by
  rw [List.append_assoc, List.append_assoc]
  exact h _ (hx.app ht)
theorem Eqv.end {L : List Nat} {lang : List Nat → Bool} {u v : List Nat} (h : Eqv L lang u v) : lang u = lang v := by
  have := h [] Over.nil
  rwa [List.append_nil, List.append_nil] at this
structure First (L : List Nat) (lang : List Nat → Bool) (ws : List (List Nat)) : Prop where
  sorted : ws.Pairwise fun a b => ltW a b = true
  over : ∀ w ∈ ws, Over L w
  apart : ∀ (i j : Nat) (u v : List Nat), ws[i]? = some u → ws[j]? = some v → Eqv L lang u v → i = j
  all : ∀ v, Over L v → ∃ w ∈ ws, Eqv L lang w v ∧ ltW v w = false
theorem First.mem {L : List Nat} {lang : List Nat → Bool} {ws : List (List Nat)} (h : First L lang ws) (w : List Nat) : w ∈ ws ↔ Over L w ∧ ∀ v, Over L v → ltW v w = true → ¬ Eqv L lang v w := by
  constructor
  · intro hw
    refine ⟨h.over w hw, fun v ov hl he => ?_⟩
    obtain ⟨u, hu, e1, e2⟩ := h.all v ov
    obtain ⟨i, hi⟩ := List.mem_iff_getElem?.mp hu
    obtain ⟨j, hj⟩ := List.mem_iff_getElem?.mp hw
    have := h.apart i j u w hi hj (e1.trans he)
    subst this
    rw [hi] at hj
    cases hj
    rw [hl] at e2
    cases e2
  · rintro ⟨ow, hm⟩
    obtain ⟨u, hu, e1, e2⟩ := h.all w ow
    cases hl : ltW u w with
    | true => exact absurd e1 (hm u (h.over u hu) hl)
    | false => rw [← ltW_tri hl e2]; exact hu
theorem sorted_uniq {l m : List (List Nat)} (hl : l.Pairwise fun a b => ltW a b = true) (hm : m.Pairwise fun a b => ltW a b = true) (h : ∀ w, w ∈ l ↔ w ∈ m) : l = m := by
  have n1 : l.Nodup := hl.imp fun {a b} z e => by rw [e, ltW_irr] at z; cases z
  have n2 : m.Nodup := hm.imp fun {a b} z e => by rw [e, ltW_irr] at z; cases z
  exact ordW_uniq (hl.imp fun {a b} z => ltW_asymm z) (hm.imp fun {a b} z => ltW_asymm z) ((List.perm_ext_iff_of_nodup n1 n2).mpr h)
theorem First.uniq {L : List Nat} {lang : List Nat → Bool} {ws us : List (List Nat)} (h : First L lang ws) (h' : First L lang us) : ws = us := sorted_uniq h.sorted h'.sorted fun w => by rw [h.mem, h'.mem]
noncomputable def eIdx (L : List Nat) (lang : List Nat → Bool) (ws : List (List Nat)) (v : List Nat) : Nat := ws.findIdx fun u => @decide (Eqv L lang u v) (Classical.propDecidable _)
theorem First.idx {L : List Nat} {lang : List Nat → Bool} {ws : List (List Nat)} (h : First L lang ws) {j : Nat} {u v : List Nat} (hj : ws[j]? = some u) (e : Eqv L lang u v) : Dx.eIdx L lang ws v = j := by
  have hl : Dx.eIdx L lang ws v < ws.length := List.findIdx_lt_length_of_exists ⟨u, List.mem_of_getElem? hj, @decide_eq_true _ (Classical.propDecidable _) e⟩
  have hp := List.findIdx_getElem (xs := ws) (p := fun u => @decide (Eqv L lang u v) (Classical.propDecidable _)) (w := hl)
  have hp := @of_decide_eq_true _ (Classical.propDecidable _) hp
  exact h.apart _ j _ u (List.getElem?_eq_getElem hl) hj (hp.trans e.symm)
noncomputable def machOf (L : List Nat) (lang : List Nat → Bool) (ws : List (List Nat)) : Mach :=
  ⟨L, 0, (List.range ws.length).filter fun i => lang (ws.getD i []), ws.map fun w => L.map fun c => eIdx L lang ws (w ++ [c])⟩
def LeastOf (L : List Nat) (lang : List Nat → Bool) (R : Mach) : Prop := ∃ ws, First L lang ws ∧ R = machOf L lang ws
theorem LeastOf.uniq {L : List Nat} {lang : List Nat → Bool} {R R' : Mach} (h : LeastOf L lang R) (h' : LeastOf L lang R') : R = R' := by
  obtain ⟨ws, f, rfl⟩ := h
  obtain ⟨us, f', rfl⟩ := h'
  rw [f.uniq f']
/-- the language matters on the letters' texts alone -/
theorem Eqv.congr {L : List Nat} {lang lang' : List Nat → Bool} (h : ∀ t, Over L t → lang t = lang' t) {u v : List Nat} (ou : Over L u) (ov : Over L v) (e : Eqv L lang u v) : Eqv L lang' u v := fun t ht => by
  rw [← h _ (ou.app ht), ← h _ (ov.app ht)]
  exact e t ht
theorem First.congr {L : List Nat} {lang lang' : List Nat → Bool} (h : ∀ t, Over L t → lang t = lang' t) {ws : List (List Nat)} (f : First L lang ws) : First L lang' ws where
  sorted := f.sorted
  over := f.over
  apart := fun i j u v hi hj e => f.apart i j u v hi hj (e.congr (fun t ht => (h t ht).symm) (f.over u (List.mem_of_getElem? hi)) (f.over v (List.mem_of_getElem? hj)))
  all := fun v ov => by
    obtain ⟨w, hw, e, l⟩ := f.all v ov
    exact ⟨w, hw, e.congr h (f.over w hw) ov, l⟩
theorem LeastOf.congr {L : List Nat} {lang lang' : List Nat → Bool} (h : ∀ t, Over L t → lang t = lang' t) {R : Mach} (l : LeastOf L lang R) : LeastOf L lang' R := by
  obtain ⟨ws, f, rfl⟩ := l
  have f' := f.congr h
  refine ⟨ws, f', ?_⟩
  unfold machOf
  congr 1
  · apply List.filter_congr
    intro i hi
    have hi := List.mem_range.mp hi
    rw [List.getD_eq_getElem?_getD, List.getElem?_eq_getElem hi]
    exact h _ (f.over _ (List.getElem_mem hi))
  · apply List.map_congr_left
    intro w hw
    apply List.map_congr_left
    intro c hc
    have ow := (f.over w hw).app (Over.one hc)
    obtain ⟨u, hu, e, _⟩ := f.all _ ow
    obtain ⟨j, hj⟩ := List.mem_iff_getElem?.mp hu
    rw [f.idx hj e, f'.idx hj (e.congr h (f.over u hu) ow)]

/-! ### what the least machine does -/
theorem posL_at {l : List Nat} (nd : l.Nodup) {m c : Nat} (h : l[m]? = some c) : posL c l = m := by
  obtain ⟨h1, h2, h3⟩ := pos_of (List.mem_of_getElem? h)
  obtain ⟨hm, em⟩ := List.getElem?_eq_some_iff.mp h
  obtain ⟨hp, ep⟩ := List.getElem?_eq_some_iff.mp h3
  have hh := List.pairwise_iff_getElem.mp nd
  by_cases z : posL c l < m
  · exact absurd (ep.trans em.symm) (hh _ _ hp hm z)
  · by_cases z2 : m < posL c l
    · exact absurd (em.trans ep.symm) (hh _ _ hm hp z2)
    · omega
section
variable {L : List Nat} {lang : List Nat → Bool} {ws : List (List Nat)}
theorem machOf_stp (nd : L.Nodup) {i : Nat} {w : List Nat} (hi : ws[i]? = some w) {c : Nat} (hc : c ∈ L) : (machOf L lang ws).stp i c = eIdx L lang ws (w ++ [c]) := by
  unfold Mach.stp
  show ((ws.map fun w => L.map fun c => eIdx L lang ws (w ++ [c])).getD i []).getD (posL c L) 0 = _
  obtain ⟨_, _, h3⟩ := pos_of hc
  have e1 : (ws.map fun w => L.map fun c => eIdx L lang ws (w ++ [c])).getD i [] = L.map fun c => eIdx L lang ws (w ++ [c]) := by
    rw [List.getD_eq_getElem?_getD, List.getElem?_map, hi]
    rfl
  rw [e1, List.getD_eq_getElem?_getD, List.getElem?_map, h3]
  rfl
theorem First.zero (f : First L lang ws) : ws[0]? = some [] := by
  obtain ⟨w, hw, _, l⟩ := f.all [] Over.nil
  have e : w = [] := by
    cases w with
    | nil => rfl
    | cons a w => rw [ltW_nil (by simp)] at l; cases l
  subst e
  obtain ⟨j, hj⟩ := List.mem_iff_getElem?.mp hw
  by_cases z : j = 0
  · rw [← z]; exact hj
  · obtain ⟨hj', ej⟩ := List.getElem?_eq_some_iff.mp hj
    have := List.pairwise_iff_getElem.mp f.sorted 0 j (by omega) hj' (by omega)
    rw [ej, ltW_not_nil] at this
    cases this
theorem First.go (f : First L lang ws) (nd : L.Nodup) : ∀ v, Over L v → (machOf L lang ws).go 0 v = eIdx L lang ws v := by
  intro v
  refine snoc_ind (P := fun v => Over L v → (machOf L lang ws).go 0 v = eIdx L lang ws v) ?_ ?_ v
  · intro _
    rw [f.idx f.zero (Eqv.refl [])]
    rfl
  · intro x e ih ho
    have ox : Over L x := fun c hc => ho c (List.mem_append_left _ hc)
    rw [Mach.go_app, ih ox]
    obtain ⟨w, hw, e1, _⟩ := f.all x ox
    obtain ⟨j, hj⟩ := List.mem_iff_getElem?.mp hw
    rw [f.idx hj e1]
    have he := ho e (by simp)
    show (machOf L lang ws).stp j e = _
    rw [machOf_stp nd hj he]
    obtain ⟨u, hu, e2, _⟩ := f.all (w ++ [e]) ((f.over w hw).app (Over.one he))
    obtain ⟨k, hk⟩ := List.mem_iff_getElem?.mp hu
    rw [f.idx hk e2, f.idx hk (e2.trans (e1.app (Over.one he)))]
theorem First.takes (f : First L lang ws) (nd : L.Nodup) {v : List Nat} (ov : Over L v) : (machOf L lang ws).takes v = lang v := by
  unfold Mach.takes
  show decide ((machOf L lang ws).go 0 v ∈ (List.range ws.length).filter fun i => lang (ws.getD i [])) = lang v
  rw [f.go nd v ov]
  obtain ⟨w, hw, e1, _⟩ := f.all v ov
  obtain ⟨j, hj⟩ := List.mem_iff_getElem?.mp hw
  obtain ⟨hj', ej⟩ := List.getElem?_eq_some_iff.mp hj
  rw [f.idx hj e1, ← e1.end]
  have hg : ws.getD j [] = w := by rw [List.getD_eq_getElem?_getD, hj]; rfl
  cases h : lang w with
  | true => exact decide_eq_true (List.mem_filter.mpr ⟨List.mem_range.mpr hj', by rw [hg, h]⟩)
  | false =>
    refine decide_eq_false fun z => ?_
    have := (List.mem_filter.mp z).2
    rw [hg, h] at this
    cases this
theorem First.ok (f : First L lang ws) (hl : IsLetters L) (ll : 0 < L.length ∧ L.length ≤ 26) (few : ws.length ≤ 1000) : (machOf L lang ws).Ok where
  letters := hl
  len := ll
  rooms := by
    have h0 := (List.getElem?_eq_some_iff.mp f.zero).1
    show 0 < (ws.map _).length ∧ (ws.map _).length ≤ 1000
    rw [List.length_map]
    exact ⟨h0, few⟩
  rows := fun r hr => by
    obtain ⟨w, hw, rfl⟩ := List.mem_map.mp hr
    refine ⟨List.length_map _, fun q hq => ?_⟩
    obtain ⟨c, hc, rfl⟩ := List.mem_map.mp hq
    obtain ⟨u, hu, e2, _⟩ := f.all (w ++ [c]) ((f.over w hw).app (Over.one hc))
    obtain ⟨k, hk⟩ := List.mem_iff_getElem?.mp hu
    show eIdx L lang ws (w ++ [c]) < (ws.map _).length
    rw [f.idx hk e2, List.length_map]
    exact (List.getElem?_eq_some_iff.mp hk).1
  begin := by
    show 0 < (ws.map _).length
    rw [List.length_map]
    exact (List.getElem?_eq_some_iff.mp f.zero).1
  ends := fun e he => by
    show e < (ws.map _).length
    rw [List.length_map]
    exact List.mem_range.mp (List.mem_filter.mp he).1
  few := Nat.le_trans (List.length_filter_le _ _) (by rw [List.length_range]; exact few)
  rise := List.Pairwise.filter _ List.pairwise_lt_range
end

/-! ### rooms parted -/
def Mach.row (M : Mach) (r : Nat) : List Nat := M.L.map (M.stp r)
theorem Mach.Ok.nd {M : Mach} (h : M.Ok) : M.L.Nodup := rise_nd h.letters.1
theorem Mach.Ok.row {M : Mach} (h : M.Ok) {r : Nat} (hr : r < M.steps.length) : M.steps[r]? = some (M.row r) := by
  rw [List.getElem?_eq_getElem hr]
  congr 1
  have hrow := (h.rows _ (List.getElem_mem hr)).1
  apply List.ext_getElem
  · rw [hrow]
    exact (List.length_map _).symm
  · intro m h1 h2
    have e0 : (M.row r)[m] = M.stp r (M.L[m]'(by rw [← hrow]; exact h1)) := List.getElem_map ..
    rw [e0]
    have hm : m < M.L.length := by rw [← hrow]; exact h1
    have hc : M.L[m]? = some M.L[m] := List.getElem?_eq_getElem hm
    obtain ⟨row, e1, e2, _⟩ := h.stp hr (List.getElem_mem hm)
    rw [posL_at h.nd hc] at e2
    rw [List.getElem?_eq_getElem hr] at e1
    cases e1
    rw [List.getElem?_eq_getElem h1] at e2
    exact Option.some.inj e2
/-- rooms from which the same texts lead to ends -/
def Mach.same (M : Mach) (i j : Nat) : Prop := ∀ t, Over M.L t → (M.go i t ∈ M.ends ↔ M.go j t ∈ M.ends)
theorem Mach.same_stp {M : Mach} {i j c : Nat} (h : M.same i j) (hc : c ∈ M.L) : M.same (M.stp i c) (M.stp j c) := fun t ht => h (c :: t) fun d hd => by
  rcases List.mem_cons.mp hd with e | hd
  · rw [e]; exact hc
  · exact ht d hd
structure Stable (M : Mach) (s : Nat → Nat) : Prop where
  ends : ∀ i j, i < M.steps.length → j < M.steps.length → s i = s j → (i ∈ M.ends ↔ j ∈ M.ends)
  step : ∀ i j c, i < M.steps.length → j < M.steps.length → c ∈ M.L → s i = s j → s (M.stp i c) = s (M.stp j c)
  sound : ∀ i j, i < M.steps.length → j < M.steps.length → M.same i j → s i = s j
theorem Stable.same {M : Mach} {s : Nat → Nat} (h : Stable M s) (ok : M.Ok) : ∀ (t : List Nat) {i j : Nat}, i < M.steps.length → j < M.steps.length → Over M.L t → s i = s j → s (M.go i t) = s (M.go j t)
  | [], i, j, _, _, _, e => e
  | c :: t, i, j, hi, hj, ho, e => by
    have hc := ho c (by simp)
    obtain ⟨_, _, _, b1⟩ := ok.stp hi hc
    obtain ⟨_, _, _, b2⟩ := ok.stp hj hc
    exact Stable.same h ok t b1 b2 (fun d hd => ho d (by simp [hd])) (h.step i j c hi hj hc e)
theorem Stable.iff {M : Mach} {s : Nat → Nat} (h : Stable M s) (ok : M.Ok) {i j : Nat} (hi : i < M.steps.length) (hj : j < M.steps.length) : s i = s j ↔ M.same i j :=
  ⟨fun e t ht => h.ends _ _ (ok.go hi ht) (ok.go hj ht) (h.same ok t hi hj ht e), h.sound i j hi hj⟩
theorem takes_iff {M : Mach} {t : List Nat} : M.takes t = true ↔ M.go M.b t ∈ M.ends := by
  unfold Mach.takes
  exact decide_eq_true_iff
theorem Stable.eqv {M : Mach} {s : Nat → Nat} (h : Stable M s) (ok : M.Ok) {u v : List Nat} (hu : Over M.L u) (hv : Over M.L v) : Eqv M.L M.takes u v ↔ s (M.go M.b u) = s (M.go M.b v) := by
  rw [h.iff ok (ok.go ok.begin hu) (ok.go ok.begin hv)]
  constructor
  · intro e t ht
    have := e t ht
    rw [← Mach.go_app, ← Mach.go_app, ← takes_iff, ← takes_iff, this]
  · intro e t ht
    have := e t ht
    rw [← Mach.go_app, ← Mach.go_app, ← takes_iff, ← takes_iff] at this
    cases h1 : M.takes (u ++ t) with
    | true => exact (this.mp h1).symm
    | false =>
      cases h2 : M.takes (v ++ t) with
      | false => rfl
      | true => rw [this.mpr h2] at h1; cases h1
/-- the classes as states -/
def Mach.cls (M : Mach) (s : Nat → Nat) : Aut Nat := ⟨s M.b, fun q c => ((List.range M.steps.length).find? fun r => decide (s r = q)).map fun r => s (M.stp r c)⟩
theorem Stable.cls_step {M : Mach} {s : Nat → Nat} (h : Stable M s) {r c : Nat} (hr : r < M.steps.length) (hc : c ∈ M.L) : (M.cls s).step (s r) c = some (s (M.stp r c)) := by
  show ((List.range M.steps.length).find? fun r' => decide (s r' = s r)).map (fun r => s (M.stp r c)) = _
  cases q : (List.range M.steps.length).find? (fun r' => decide (s r' = s r)) with
  | none => exact absurd (decide_eq_true rfl) (List.find?_eq_none.mp q r (List.mem_range.mpr hr))
  | some r' =>
    have h1 : s r' = s r := of_decide_eq_true (List.find?_some (p := fun r' => decide (s r' = s r)) q)
    have h2 := List.mem_range.mp (List.mem_of_find?_eq_some q)
    show some (s (M.stp r' c)) = some (s (M.stp r c))
    rw [h.step r' r c h2 hr hc h1]
theorem Stable.cls_run {M : Mach} {s : Nat → Nat} (h : Stable M s) (ok : M.Ok) (v : List Nat) : Over M.L v → (M.cls s).run v = some (s (M.go M.b v)) := by
  refine snoc_ind (P := fun v => Over M.L v → (M.cls s).run v = some (s (M.go M.b v))) (fun _ => rfl) (fun x e ih ho => ?_) v
  have ox : Over M.L x := fun c hc => ho c (List.mem_append_left _ hc)
  rw [Aut.run_snoc, ih ox]
  show (M.cls s).step _ e = _
  rw [h.cls_step (ok.go ok.begin ox) (ho e (by simp)), Mach.go_app]
  rfl
theorem Stable.first {M : Mach} {s : Nat → Nat} (h : Stable M s) (ok : M.Ok) {line : List (List Nat × Nat)} {at' j : Nat} (B : Bfs (M.cls s) M.L line at' j) (hd : line.length ≤ at') : First M.L M.takes (line.map (·.1)) where
  sorted := List.pairwise_map.mpr B.sorted
  over := fun w hw => by
    obtain ⟨p, hp, rfl⟩ := List.mem_map.mp hw
    exact (B.run p hp).2
  apart := fun i k u v hi hk e => by
    rw [List.getElem?_map] at hi hk
    obtain ⟨p, hp, rfl⟩ := Option.map_eq_some_iff.mp hi
    obtain ⟨q, hq, rfl⟩ := Option.map_eq_some_iff.mp hk
    have rp := B.run p (List.mem_of_getElem? hp)
    have rq := B.run q (List.mem_of_getElem? hq)
    have e2 := (h.eqv ok rp.2 rq.2).mp e
    have e3 := rp.1.symm.trans (h.cls_run ok _ rp.2)
    have e4 := rq.1.symm.trans (h.cls_run ok _ rq.2)
    have e5 : p.2 = q.2 := by
      rw [Option.some.inj e3, Option.some.inj e4]
      exact e2
    obtain ⟨h1, f1⟩ := List.getElem?_eq_some_iff.mp hp
    obtain ⟨h2, f2⟩ := List.getElem?_eq_some_iff.mp hq
    have pw := List.pairwise_iff_getElem.mp B.nd
    by_cases z : i < k
    · have := pw i k (by rw [List.length_map]; exact h1) (by rw [List.length_map]; exact h2) z
      rw [List.getElem_map, List.getElem_map, f1, f2] at this
      exact absurd e5 this
    · by_cases z2 : k < i
      · have := pw k i (by rw [List.length_map]; exact h2) (by rw [List.length_map]; exact h1) z2
        rw [List.getElem_map, List.getElem_map, f1, f2] at this
        exact absurd e5.symm this
      · omega
  all := fun v ov => by
    obtain ⟨p, hp, e1, e2⟩ := B.all hd (h.cls_run ok v ov) ov
    have rp := B.run p hp
    refine ⟨p.1, List.mem_map.mpr ⟨p, hp, rfl⟩, (h.eqv ok rp.2 ov).mpr ?_, e2⟩
    have e3 := rp.1.symm.trans (h.cls_run ok _ rp.2)
    rw [← Option.some.inj e3, e1]
/-- the machine that comes of the search -/
theorem Stable.least {M : Mach} {s : Nat → Nat} (h : Stable M s) (ok : M.Ok) {line : List (List Nat × Nat)} {at' j : Nat} (B : Bfs (M.cls s) M.L line at' j) (hd : line.length ≤ at') {rs : List Nat} (hl : rs.length = line.length)
    (hr : ∀ (i r : Nat) (p : List Nat × Nat), rs[i]? = some r → line[i]? = some p → s r = p.2 ∧ r < M.steps.length) :
    LeastOf M.L M.takes ⟨M.L, 0, (List.range rs.length).filter fun i => decide (rs.getD i 0 ∈ M.ends), rs.map fun r => M.L.map fun c => posIn (line.map (·.2)) (s (M.stp r c))⟩ := by
  have f := h.first ok B hd
  refine ⟨line.map (·.1), f, ?_⟩
  have key : ∀ (i r : Nat) (p : List Nat × Nat), rs[i]? = some r → line[i]? = some p → s r = s (M.go M.b p.1) ∧ Over M.L p.1 ∧ r < M.steps.length := fun i r p h1 h2 => by
    obtain ⟨a, b⟩ := hr i r p h1 h2
    have rp := B.run p (List.mem_of_getElem? h2)
    have e3 := rp.1.symm.trans (h.cls_run ok _ rp.2)
    exact ⟨by rw [a, Option.some.inj e3], rp.2, b⟩
  unfold machOf
  congr 1
  · rw [List.length_map, hl]
    apply List.filter_congr
    intro i hi
    have hi := List.mem_range.mp hi
    have e1 : line[i]? = some line[i] := List.getElem?_eq_getElem hi
    have e2 : rs[i]? = some rs[i] := List.getElem?_eq_getElem (by omega)
    obtain ⟨a, b, c⟩ := key i _ _ e2 e1
    rw [List.getD_eq_getElem?_getD, e2, List.getD_eq_getElem?_getD, List.getElem?_map, e1]
    show decide (rs[i] ∈ M.ends) = M.takes line[i].1
    unfold Mach.takes
    exact decide_eq_decide.mpr (h.ends _ _ c (ok.go ok.begin b) a)
  · rw [List.map_map]
    apply List.ext_getElem
    · rw [List.length_map, List.length_map, hl]
    · intro i h1 h2
      rw [List.length_map] at h1 h2
      rw [List.getElem_map, List.getElem_map]
      have e1 : line[i]? = some line[i] := List.getElem?_eq_getElem h2
      have e2 : rs[i]? = some rs[i] := List.getElem?_eq_getElem h1
      obtain ⟨a, b, c⟩ := key i _ _ e2 e1
      apply List.map_congr_left
      intro d hdL
      show _ = Dx.eIdx M.L M.takes (line.map (·.1)) (line[i].1 ++ [d])
      have ow := b.app (Over.one hdL)
      have est : s (M.stp rs[i] d) = s (M.go M.b (line[i].1 ++ [d])) := by
        rw [Mach.go_app]
        exact h.step _ _ d c (ok.go ok.begin b) hdL a
      obtain ⟨p, hp, f1, f2⟩ := B.all hd (h.cls_run ok _ ow) ow
      have hm : s (M.stp rs[i] d) ∈ line.map (·.2) := by
        rw [est, ← f1]
        exact List.mem_map.mpr ⟨p, hp, rfl⟩
      have hpos := posIn_at hm
      rw [List.getElem?_map] at hpos
      obtain ⟨q, hq, e5⟩ := Option.map_eq_some_iff.mp hpos
      have rq := B.run q (List.mem_of_getElem? hq)
      refine (f.idx (j := posIn (line.map (·.2)) (s (M.stp rs[i] d))) (u := q.1) (by rw [List.getElem?_map, hq]; rfl) ?_).symm
      refine (h.eqv ok rq.2 ow).mpr ?_
      have e6 := rq.1.symm.trans (h.cls_run ok _ rq.2)
      rw [← Option.some.inj e6, e5, est]
end Dx

namespace Dx
open PySem PySem.Spec PyProof.Rows L2
open Evl (Ex)
variable [Tb]

/-! ### enumerate of lists, tuples, texts -/
theorem enum_new1 {v : Value} {o : Obj} {Hc : Heap → Prop} (B : Begins v o Hc) :
    Meets (Builtin.«enumerate.__new__» ⟨[.type "enumerate", v], []⟩) (fun _ R s => Hc s.heap ∧
      R (.ok (.ret (.ref (s.heap.push o).objs.size))) { s with heap := (s.heap.push o).push { cls := .type "enumerate", data := .fields #[.none, .bool false, .ref s.heap.objs.size, rawInt 0, .none, .none] } }) :=
  .of_wp fun prog w A R s q => by
    obtain ⟨hp, g, d, tk, os⟩ := s
    obtain ⟨h1, q⟩ := q
    have hsub := sub_enumerate
    have itn : ∀ {A' : Around} {E' : Value → Shared → Prop} {Q' : Value → Shared → Prop}, Q' (.ref hp.objs.size) ⟨hp.push o, g, d, tk, os⟩ → wpAny (model prog w) A' (pyIter v) Q' E' ⟨hp, g, d, tk, os⟩ :=
      fun z => B.iter prog w _ _ ⟨hp, g, d, tk, os⟩ _ h1 z
    wp_walk using itn
    refine wpAny_stack_any fun st => wpAny_pure ?_
    split
    · rename_i c _ _ _ _ _
      cases (c == Value.type "enumerate") <;> (wp_walk using itn; exact ⟨_, rfl, q⟩)
    · wp_walk using itn
      exact ⟨_, rfl, q⟩
section
variable {prog : Program} {w : World} {A : Around} {E : Value → Shared → Prop} {s : Shared}
theorem enum_made {v : Value} {o : Obj} {Hc : Heap → Prop} {Q : Value → Shared → Prop} (B : Begins v o Hc) (h1 : Hc s.heap)
    (q : ∀ h', IsEnum h' (s.heap.objs.size + 1) s.heap.objs.size 0 .none → h'.get? s.heap.objs.size = some o → (∀ b ob, s.heap.get? b = some ob → h'.get? b = some ob) → Q (.ref (s.heap.objs.size + 1)) { s with heap := h' }) :
    wpAny (model prog w) A (call (.type "enumerate") [v]) Q E s := by
  refine callType_new F.called_enumerate (by decide) (F.typeCall_enumerate_1 _) (F.newCall_enumerate_1 _) (fun obj => F.args_object_init_2 obj _) F.entry_enumerate_new (enum_new1 B) ⟨h1, ?_⟩
  have hz : (s.heap.push o).objs.size = s.heap.objs.size + 1 := Heap.size_push ..
  show _ ∧ _
  rw [hz]
  have he : IsEnum ((s.heap.push o).push { cls := .type "enumerate", data := .fields #[.none, .bool false, .ref s.heap.objs.size, rawInt 0, .none, .none] }) (s.heap.objs.size + 1) s.heap.objs.size 0 .none := by
    have z := Heap.get?_push_size (s.heap.push o) (o := { cls := .type "enumerate", data := .fields #[.none, .bool false, .ref s.heap.objs.size, rawInt 0, .none, .none] }) rfl
    rw [hz] at z
    exact z
  exact ⟨⟨_, he, rfl⟩, q _ he (Heap.get?_push_of_some _ (Heap.get?_push_size _ B.free)) fun b ob x => Heap.get?_push_of_some _ (Heap.get?_push_of_some _ x)⟩
end
/-- an iterator of n items: the i-th in a pair with i; PX tells the item, while C stands -/
def Itp (n : Nat) (C : Hp → Prop) (PX : Nat → V → Prop) : It :=
  ⟨fun i H => i < n ∧ C H, fun i H v H' => ∃ T x, v = .ref T ∧ H T = none ∧ H' = upd H T (.tup [.int (i : Nat), x]) ∧ PX i x, fun i H => n ≤ i ∧ C H⟩
theorem turn_pair {P : Program} {w : World} {K : PySem.W.Frag} {elts : List Expr} {kk : Nat} {tpos : Pos} {it : Addr} {n : Nat} {C : Hp → Prop} {PX : Nat → V → Prop} {Sc : Nat → Heap → Prop} (e : Addr) (hne : e ≠ it)
    (scObj : ∀ i h, Sc i h → ∃ o, h.get? it = some o ∧ ∀ v, o.data ≠ .cell v) (scKeep : ∀ i h h', Sc i h → (∀ o, h.get? it = some o → h'.get? it = some o) → Sc i h')
    (turn : ∀ (X : Cx), X.prog = P → X.w = w → X.K = K → X.calm = true → ∀ (pins : List (Addr × Obj)) (s : Shared) (σ : L2.St) (H : Hp) (i : Nat), Inv X pins σ H s → C H → Sc i s.heap → i ≤ n →
      ∃ (fp : List Addr) (Pv : Nat → Value → Prop) (St : Nat → Heap → Prop), Draws P w X.A.in1 it fp n Pv St ∧ St i s.heap ∧ (∀ b ∈ fp, b = it ∨ H b ≠ none) ∧ (∀ i h, St i h → Sc i h) ∧ ∀ u, Pv i u → ∃ x, RelV x u ∧ PX i x) :
    Turn P w K (.Tuple elts kk tpos) (Itp n C PX) [e, it] e (fun i h => (∃ old, IsEnum h e it ((i : Nat) : Int) old) ∧ Sc i h ∧ i ≤ n) where
  mem := by simp
  obj := fun i h st b hb => by
    obtain ⟨⟨old, he⟩, hs, _⟩ := st
    have e' : b = e ∨ b = it := by simpa using hb
    rcases e' with z | z
    · rw [z]; exact ⟨_, he, fun v q => nomatch q⟩
    · rw [z]; exact scObj i h hs
  keep := fun i h h' st k => let ⟨⟨old, he⟩, hs, hn⟩ := st; ⟨⟨old, k e (by simp) _ he⟩, scKeep i h h' hs (fun o q => k it (by simp) o q), hn⟩
  item := by
    intro X hP hw hK hc i pins s σ H E I hf st hg
    subst hP hw hK
    obtain ⟨⟨old, he⟩, hs, hn⟩ := st
    obtain ⟨fp, Pv, St, D, hst, hfp, stSc, val⟩ := turn X rfl rfl rfl hc pins s σ H i I hg.2 hs hn
    have hel : e < s.heap.objs.size := Heap.lt_size he
    have hil : it < s.heap.objs.size := by obtain ⟨_, q, _⟩ := scObj i _ hs; exact Heap.lt_size q
    have hef : e ∉ fp := fun z => by
      rcases hfp e z with y | y
      · exact hne y
      · exact y (hf e (by simp)).1
    refine wpAny_pyNext_enum_itemC D he hst hg.1 hne hef fun u h' tk hP' ho hst' hT hsz hk => ?_
    obtain ⟨x, ru, px⟩ := val u hP'
    refine ⟨_, rfl, wpAny_letOwnedTupleGo_enum (s := { s with heap := h', toks := tk + 1 }) ho fun h'' he' sb => ?_⟩
    have hT2 : h''.get? s.heap.objs.size = some { cls := .type "tuple", data := .seq #[.int i tk, u] } := (sb.2 _ (Nat.ne_of_gt hel)).trans hT
    have new : ObjOk X.prog X.w (upd H s.heap.objs.size (.tup [.int (i : Nat), x])) h'' s.heap.objs.size (.tup [.int (i : Nat), x]) :=
      ⟨by show 2 ≤ sizeLine; decide, [.int i tk, u], .cons ⟨_, rfl⟩ (.cons ru .nil), ⟨_, hT2, rfl, _, rfl⟩⟩
    have I1 : Inv X pins σ (upd H s.heap.objs.size (.tup [.int (i : Nat), x])) { s with heap := h'', toks := tk + 1 } :=
      I.turnedNew (ch := [e, it]) (fun b ob hb q => (sb.2 b (fun z => hb (by simp [z]))).trans (hk b ob (fun z => hb (by simp [z])) (fun z => hb (by simp [z])) q)) hf (Nat.le_refl _) new
    refine ⟨.ref s.heap.objs.size, _, I1, rfl, ⟨_, x, rfl, I.hok.fresh (Nat.le_refl _), rfl, px⟩, ⟨⟨u, ?_⟩, ?_⟩, fun b hb => ?_⟩
    · have e1 : ((i + 1 : Nat) : Int) = (i : Int) + 1 := by omega
      rw [e1]
      exact he'
    · exact ⟨scKeep (i + 1) h' h'' (stSc _ _ hst') (fun o q => (sb.2 it (Ne.symm hne)).trans q), hg.1⟩
    · have hb' : b < s.heap.objs.size := by
        have e' : b = e ∨ b = it := by simpa using hb
        rcases e' with z | z
        · rw [z]; exact hel
        · rw [z]; exact hil
      rw [upd_ne (Nat.ne_of_lt hb')]
      exact (hf b hb).1
  done := by
    intro X hP hw hK hc i pins s σ H E I hf st hg
    subst hP hw hK
    obtain ⟨⟨old, he⟩, hs, hn⟩ := st
    obtain ⟨fp, Pv, St, D, hst, hfp, stSc, val⟩ := turn X rfl rfl rfl hc pins s σ H i I hg.2 hs hn
    have ei : i = n := Nat.le_antisymm hn hg.1
    subst ei
    obtain ⟨f0, f1, f2, f3, f4, f5⟩ := hf it (by simp)
    exact wpAny_pyNext_enum_endD D he hst fun h' eb => ⟨rfl, I.turned (t' := s.toks) (fun b o hb q => eb b o hb q) f0 f1 f3 f4 f5⟩
  self := fun A i s Q E st h => let ⟨⟨_, he⟩, _⟩ := st; wpAny_pyIter_enum he h
def iEnumTup (ta : TE) : TI := fun σ H R => ta σ H fun x H1 => ∃ a xs, x = .ref a ∧ H1 a = some (.tup xs) ∧ R (Itp xs.length (fun H => H a = some (.tup xs)) fun i v => xs[i]? = some v) H1
def iEnumStr (ta : TE) : TI := fun σ H R => ta σ H fun x H1 => ∃ z : Str, x = .str z ∧ R (Itp z.cps.size (fun _ => True) fun i v => ∃ c, z.cps[i]? = some c ∧ v = .str ⟨#[c]⟩) H1
section
variable {X : Cx} {e : Expr} {ta : TE} {p pos tpos : Pos} {elts : List Expr} {kk : Nat}
theorem enum_fp {pins : List (Addr × Obj)} {σ : L2.St} {H : Hp} {s : Shared} {h' : Heap} (I : Inv X pins σ H s) (I2 : Inv X pins σ H { s with heap := h' }) : ∀ b ∈ [s.heap.objs.size + 1, s.heap.objs.size], FpOk X pins H b := fun b hb => by
  have e' : b = s.heap.objs.size + 1 ∨ b = s.heap.objs.size := by simpa using hb
  have hle : s.heap.objs.size ≤ b := by
    rcases e' with z | z
    · rw [z]; exact Nat.le_add_right _ _
    · rw [z]; exact Nat.le_refl _
  exact I.fpOk hle (I.hok.fresh hle)
theorem pi_enumTup (hm : X.mg "enumerate" = none) (ha : PE X e ta) (hg : Gl X "enumerate" := by rfl) (hs : starEach [e] X.env = (false, eval e X.env) :: starEach [] X.env := by rfl) :
    PI X (.Tuple elts kk tpos) (.Call (.Name "enumerate" p) [e] [] pos) (iEnumTup ta) := by
  refine ⟨fun pins s σ H R I h => Call_ (ld_blt I hg hm boot_enumerate (PyProof.Rows.callWith_type1 (PyProof.Rows.args_cons (thn (ha.run pins s σ H _ I h) fun u s1 ⟨x, H1, I1, r1, a, xs, ex, hq, q⟩ => PyProof.Rows.args_nil ?_) hs) hs rfl))⟩
  subst ex
  obtain rfl : u = Value.ref a := r1
  obtain ⟨its, rv, pt, hz⟩ := I1.tuple (.inl (.inl hq))
  refine enum_made (begins_tuple a its.toArray) (show s1.heap.IsTuple a its.toArray from pt) fun h' he hit hk => wpAny_pyIter_enum he ?_
  have I2 : Inv X pins σ H1 { s1 with heap := h' } := I1.kept (t' := s1.toks) hk
  have T := turn_pair (P := X.prog) (w := X.w) (K := X.K) (elts := elts) (kk := kk) (tpos := tpos) (it := s1.heap.objs.size) (n := xs.length) (C := fun H => H a = some (.tup xs)) (PX := fun i v => xs[i]? = some v)
    (Sc := fun i h => h.IsTupleIter s1.heap.objs.size a i) (s1.heap.objs.size + 1) (Nat.succ_ne_self _)
    (fun i h st => by obtain ⟨o, e1, c, d⟩ := st; exact ⟨o, e1, fun v z => by rw [d] at z; cases z⟩)
    (fun i h h' st k => st.at fun o z => k o z)
    (fun Y hP hw hK hc pins s σ H i I hC st hi => by
      rw [← hP, ← hw]
      obtain ⟨its, rv, pt, hz⟩ := I.tuple (.inl (.inl hC))
      have hlen : its.toArray.size = xs.length := by rw [List.size_toArray, rv.length]
      have hne : a ≠ s1.heap.objs.size := fun z => by
        obtain ⟨o, e1, c, d⟩ := id st
        obtain ⟨o2, e2, c2, _⟩ := id pt
        rw [z] at e2
        rw [e1] at e2
        cases e2
        rw [c] at c2
        injection c2 with c2
        exact absurd c2 (by decide)
      have D := Draws.tuple (prog := Y.prog) (w := Y.w) (A := Y.A.in1) (I.ok.hd hc) s1.heap.objs.size a hne its.toArray
      rw [hlen] at D
      refine ⟨_, _, _, D, ⟨st, pt⟩, fun b hb => ?_, fun i h z => z.1, fun u hu => ?_⟩
      · have e' : b = s1.heap.objs.size ∨ b = a := by simpa using hb
        rcases e' with z | z
        · exact .inl z
        · exact .inr (by rw [z, hC]; exact fun z => nomatch z)
      · have hu : its.toArray[i]? = some u := hu
        have hu2 : its[i]? = some u := by simpa using hu
        have hl := rv.length
        have hi2 : i < xs.length := by rw [hl]; exact (List.getElem?_eq_some_iff.mp hu2).1
        obtain ⟨u', h1, h2⟩ := rv.get (List.getElem?_eq_getElem hi2)
        rw [hu2] at h1
        cases h1
        exact ⟨_, h2, List.getElem?_eq_getElem hi2⟩)
  exact ⟨s1.heap.objs.size + 1, [s1.heap.objs.size + 1, s1.heap.objs.size], _, _, H1, rfl, I2, T, ⟨⟨.none, he⟩, ⟨_, hit, rfl, rfl⟩, Nat.zero_le _⟩, enum_fp I1 I2, q⟩
theorem pi_enumStr (hm : X.mg "enumerate" = none) (ha : PE X e ta) (hg : Gl X "enumerate" := by rfl) (hs : starEach [e] X.env = (false, eval e X.env) :: starEach [] X.env := by rfl) :
    PI X (.Tuple elts kk tpos) (.Call (.Name "enumerate" p) [e] [] pos) (iEnumStr ta) := by
  refine ⟨fun pins s σ H R I h => Call_ (ld_blt I hg hm boot_enumerate (PyProof.Rows.callWith_type1 (PyProof.Rows.args_cons (thn (ha.run pins s σ H _ I h) fun u s1 ⟨x, H1, I1, r1, z, ex, q⟩ => PyProof.Rows.args_nil ?_) hs) hs rfl))⟩
  subst ex
  obtain ⟨t, rfl⟩ := r1
  refine enum_made (begins_text z t) trivial fun h' he hit hk => wpAny_pyIter_enum he ?_
  have I2 : Inv X pins σ H1 { s1 with heap := h' } := I1.kept (t' := s1.toks) hk
  have T := turn_pair (P := X.prog) (w := X.w) (K := X.K) (elts := elts) (kk := kk) (tpos := tpos) (it := s1.heap.objs.size) (n := z.cps.size) (C := fun _ => True) (PX := fun i v => ∃ c, z.cps[i]? = some c ∧ v = .str ⟨#[c]⟩)
    (Sc := fun i h => h.IsStrIter s1.heap.objs.size (strIterType z) z t i) (s1.heap.objs.size + 1) (Nat.succ_ne_self _)
    (fun i h st => by obtain ⟨o, e1, c, d⟩ := st; exact ⟨o, e1, fun v z => by rw [d] at z; cases z⟩)
    (fun i h h' st k => by obtain ⟨o, e1, r⟩ := st; exact ⟨o, k o e1, r⟩)
    (fun Y hP hw hK hc pins s σ H i I hC st hi => by
      rw [← hP, ← hw]
      have D := Draws.text (prog := Y.prog) (w := Y.w) (A := Y.A.in1) (I.ok.hd hc) s1.heap.objs.size z t
      refine ⟨_, _, _, D, st, fun b hb => .inl (by simpa using hb), fun i h z => z, fun u hu => ?_⟩
      obtain ⟨c, u', hc', rfl⟩ := hu
      exact ⟨.str ⟨#[c]⟩, ⟨_, rfl⟩, c, hc', rfl⟩)
  exact ⟨s1.heap.objs.size + 1, [s1.heap.objs.size + 1, s1.heap.objs.size], _, _, H1, rfl, I2, T, ⟨⟨.none, he⟩, ⟨_, hit, rfl, rfl⟩, Nat.zero_le _⟩, enum_fp I1 I2, q⟩
end
/-! #### over data -/
def enumD (k : Nat) : List D → List D
  | [] => []
  | d :: r => .tup [.int (k : Int), d] :: enumD (k + 1) r
theorem enumD_len : ∀ (ds : List D) (k : Nat), (enumD k ds).length = ds.length
  | [], _ => rfl
  | d :: r, k => by
    show (enumD (k + 1) r).length + 1 = r.length + 1
    rw [enumD_len r]
theorem enumD_at : ∀ {ds : List D} {k i : Nat} {d : D}, (enumD k ds)[i]? = some d → ∃ d', ds[i]? = some d' ∧ d = .tup [.int ((k + i : Nat) : Int), d']
  | [], k, i, d, h => by simp [enumD] at h
  | d' :: r, k, 0, d, h => by
    have h : D.tup [.int (k : Int), d'] = d := Option.some.inj h
    exact ⟨d', rfl, h.symm⟩
  | d' :: r, k, i + 1, d, h => by
    have h : (enumD (k + 1) r)[i]? = some d := h
    obtain ⟨d2, h1, h2⟩ := enumD_at h
    refine ⟨d2, h1, ?_⟩
    rw [h2]
    congr 3
    omega
theorem enumD_map {α : Type} (gd : α → D) (xs : List α) : enumD 0 (xs.map gd) = (List.range xs.length).map fun (i : Nat) => D.tup [.int (i : Int), (xs.map gd).getD i .non] := by
  apply List.ext_getElem?
  intro i
  by_cases h : i < xs.length
  · have h1 : i < (enumD 0 (xs.map gd)).length := by rw [enumD_len, List.length_map]; exact h
    obtain ⟨d', e1, e2⟩ := enumD_at (List.getElem?_eq_getElem h1)
    rw [List.getElem?_eq_getElem h1, e2, List.getElem?_map, List.getElem?_range h, Nat.zero_add]
    show _ = some (D.tup [.int (i : Int), (xs.map gd).getD i .non])
    rw [List.getD_eq_getElem?_getD, e1]
    rfl
  · rw [List.getElem?_eq_none (by rw [enumD_len, List.length_map]; omega), List.getElem?_eq_none (by rw [List.length_map, List.length_range]; omega)]
theorem itD_new {F : Hp} {F1 H1 H2 : Hp} {al1 : List Addr} {mu1 : Mu} {T : Addr} {i : Nat} {d : D} {x v : V} (e : Ex F F1) (C : Cels F1 al1 mu1 H1) (hT : H1 T = none) (rd : Rep F d x) (ev : v = .ref T) (eH : H2 = upd H1 T (.tup [.int (i : Nat), x])) :
    ∃ F2, Ext F1 al1 H1 F2 al1 H2 ∧ Cels F2 al1 mu1 H2 ∧ Rep F2 (.tup [.int (i : Int), d]) v := by
  subst ev
  subst eH
  have nF := ex_none C.ex hT
  refine ⟨upd F1 T (.tup [.int (i : Nat), x]), Ext.new hT C.ex, C.newF hT, ?_⟩
  exact rv_tup (al := al1) upd_same (.cons (by rw [Rep]) (.cons ((rd.mono e).mono (ex_upd nF)) .nil))
theorem itD_enumT {F : Hp} {a : Addr} {ds : List D} {vs : List V} (hF : F a = some (.tup vs)) (rl : RepL F ds vs) : ItD F (Itp vs.length (fun H => H a = some (.tup vs)) fun i v => vs[i]? = some v) (enumD 0 ds) := fun F1 al1 mu1 H1 e C i => by
  have hH := C.ex _ _ (e _ _ hF)
  refine ⟨fun d hd => ?_, fun hi => ⟨by rw [enumD_len] at hi; rw [rl.len]; exact hi, hH⟩⟩
  obtain ⟨d', h1, rfl⟩ := enumD_at hd
  obtain ⟨v, h2, h3⟩ := rl.get h1
  refine ⟨⟨(List.getElem?_eq_some_iff.mp h2).1, hH⟩, fun x H2 ⟨T, y, ev, hT, eH, hy⟩ => ?_⟩
  have hy : vs[i]? = some y := hy
  rw [h2] at hy
  cases hy
  rw [Nat.zero_add]
  exact itD_new e C hT h3 ev eH
theorem itD_enumL {K : PySem.W.Frag} {F : Hp} {a : Addr} {ds : List D} {vs : List V} (hF : F a = some (.lst vs)) (rl : RepL F ds vs) : ItD F (Ite K a) (enumD 0 ds) := fun F1 al1 mu1 H1 e C i => by
  have hH := C.ex _ _ (e _ _ hF)
  refine ⟨fun d hd => ?_, fun hi => ⟨vs, .inl (.inl hH), by rw [enumD_len] at hi; rw [rl.len]; exact hi⟩⟩
  obtain ⟨d', h1, rfl⟩ := enumD_at hd
  obtain ⟨v, h2, h3⟩ := rl.get h1
  refine ⟨⟨vs, v, .inl (.inl hH), h2⟩, fun x H2 ⟨T, y, ev, hT, eH, hy⟩ => ?_⟩
  have hy := hy vs (.inl (.inl hH))
  rw [h2] at hy
  cases hy
  rw [Nat.zero_add]
  exact itD_new e C hT h3 ev eH
theorem itD_enumS {F : Hp} {s : List Nat} : ItD F (Itp (mkS s).cps.size (fun _ => True) fun i v => ∃ c, (mkS s).cps[i]? = some c ∧ v = .str ⟨#[c]⟩) (enumD 0 (s.map fun c => D.str [c])) := fun F1 al1 mu1 H1 e C i => by
  have hsz : (mkS s).cps.size = s.length := List.size_toArray
  refine ⟨fun d hd => ?_, fun hi => ⟨by rw [enumD_len, List.length_map] at hi; rw [hsz]; exact hi, trivial⟩⟩
  obtain ⟨d', h1, rfl⟩ := enumD_at hd
  obtain ⟨c, h2, rfl⟩ := str_at h1
  refine ⟨⟨by rw [hsz]; exact (List.getElem?_eq_some_iff.mp h2).1, trivial⟩, fun x H2 ⟨T, y, ev, hT, eH, c', hc', hy⟩ => ?_⟩
  have e1 : (mkS s).cps[i]? = s[i]? := List.getElem?_toArray
  rw [e1, h2] at hc'
  cases hc'
  rw [Nat.zero_add]
  subst hy
  exact itD_new e C hT (by rw [Rep]) ev eH
def iEnumT (te : DE) : DI := fun rho mu Q => te rho mu fun x mu1 => match x with
  | .dat (.tup ds) => Q (enumD 0 ds) mu1
  | _ => False
def iEnumL (te : DE) : DI := fun rho mu Q => te rho mu fun x mu1 => match x with
  | .dat (.lst ds) => Q (enumD 0 ds) mu1
  | _ => False
def iEnumS (te : DE) : DI := fun rho mu Q => te rho mu fun x mu1 => onS x fun s => Q (enumD 0 (s.map fun c => D.str [c])) mu1
section
variable {X : Cx} {e : Expr} {te : DE} {p pos tpos : Pos} {elts : List Expr} {kk : Nat}
theorem ci_enumT (hm : X.mg "enumerate" = none) (he : CE X e te) (hg : Gl X "enumerate" := by rfl) (hs : starEach [e] X.env = (false, eval e X.env) :: starEach [] X.env := by rfl) : CI X (.Tuple elts kk tpos) (.Call (.Name "enumerate" p) [e] [] pos) (iEnumT te) := by
  obtain ⟨_, pe, g⟩ := he.ok
  refine ⟨_, pi_enumTup hm pe hg hs, fun F al rho mu σ H Q R S q l => g F al rho mu σ H _ _ S q fun F1 al1 x mu1 v H1 e1 C1 r1 q1 => ?_⟩
  cases x with
  | cel k => exact q1.elim
  | dat d =>
    cases d with
    | tup ds =>
      obtain ⟨a, vs, ev, hp, rl⟩ := rv_tup_out r1
      exact ⟨a, vs, ev, C1.ex _ _ hp, l F1 al1 (enumD 0 ds) mu1 _ H1 e1 C1 (itD_enumT hp rl) q1⟩
    | _ => exact q1.elim
theorem ci_enumL (hm : X.mg "enumerate" = none) (he : CE X e te) (hg : Gl X "enumerate" := by rfl) (hs : starEach [e] X.env = (false, eval e X.env) :: starEach [] X.env := by rfl) : CI X (.Tuple elts kk tpos) (.Call (.Name "enumerate" p) [e] [] pos) (iEnumL te) := by
  obtain ⟨_, pe, g⟩ := he.ok
  refine ⟨_, pi_enum hg hm (pa_cons pe pa_nil hs) hs, fun F al rho mu σ H Q R S q l => g F al rho mu σ H _ _ S q fun F1 al1 x mu1 v H1 e1 C1 r1 q1 => ?_⟩
  cases x with
  | cel k => exact q1.elim
  | dat d =>
    cases d with
    | lst ds =>
      obtain ⟨a, vs, ev, hp, rl⟩ := rv_lst_out r1
      subst ev
      exact ⟨a, vs, rfl, .inl (.inl (C1.ex _ _ hp)), l F1 al1 (enumD 0 ds) mu1 _ H1 e1 C1 (itD_enumL hp rl) q1⟩
    | _ => exact q1.elim
theorem ci_enumS (hm : X.mg "enumerate" = none) (he : CE X e te) (hg : Gl X "enumerate" := by rfl) (hs : starEach [e] X.env = (false, eval e X.env) :: starEach [] X.env := by rfl) : CI X (.Tuple elts kk tpos) (.Call (.Name "enumerate" p) [e] [] pos) (iEnumS te) := by
  obtain ⟨_, pe, g⟩ := he.ok
  refine ⟨_, pi_enumStr hm pe hg hs, fun F al rho mu σ H Q R S q l => g F al rho mu σ H _ _ S q fun F1 al1 x mu1 v H1 e1 C1 r1 q1 => ?_⟩
  obtain ⟨s, ex, ev, q2⟩ := onS_out q1 r1
  exact ⟨mkS s, ev, l F1 al1 _ mu1 _ H1 e1 C1 itD_enumS q2⟩
end
end Dx

namespace Dx
open PySem PySem.Spec PyProof.Rows L2
open Evl (Ex)
variable [Tb]

/-! ### rooms parted again and again: plain -/
section
variable {κ : Type} [DecidableEq κ]
theorem nums_get {rows : List κ} {i : Nat} {r : κ} (h : rows[i]? = some r) : (nums rows)[i]? = some (posIn (firsts rows) r) := by
  unfold nums
  rw [List.getElem?_map, h]
  rfl
theorem nums_getD {rows : List κ} {i : Nat} {r : κ} (h : rows[i]? = some r) : (nums rows).getD i 0 = posIn (firsts rows) r := by
  rw [List.getD_eq_getElem?_getD, nums_get h]
  rfl
theorem nums_eq {rows : List κ} {i j : Nat} {r s : κ} (hi : rows[i]? = some r) (hj : rows[j]? = some s) : (nums rows).getD i 0 = (nums rows).getD j 0 ↔ r = s := by
  rw [nums_getD hi, nums_getD hj]
  exact ⟨posIn_inj ((mem_firsts rows).mpr (List.mem_of_getElem? hi)) ((mem_firsts rows).mpr (List.mem_of_getElem? hj)), fun e => by rw [e]⟩
theorem mem_nums {rows : List κ} {v : Nat} : v ∈ nums rows ↔ v < (firsts rows).length := by
  unfold nums
  rw [List.mem_map]
  constructor
  · rintro ⟨r, hr, rfl⟩
    exact posIn_lt ((mem_firsts rows).mpr hr)
  · intro h
    have hm : (firsts rows)[v]'h ∈ firsts rows := List.getElem_mem h
    refine ⟨(firsts rows)[v]'h, (mem_firsts rows).mp hm, ?_⟩
    have h1 := posIn_at hm
    have h2 : (firsts rows)[v]? = some ((firsts rows)[v]'h) := List.getElem?_eq_getElem h
    obtain ⟨hp, ep⟩ := List.getElem?_eq_some_iff.mp h1
    have nd := List.pairwise_iff_getElem.mp (nodup_firsts rows)
    by_cases z : posIn (firsts rows) ((firsts rows)[v]'h) < v
    · exact absurd ep (nd _ _ hp h z)
    · by_cases z2 : v < posIn (firsts rows) ((firsts rows)[v]'h)
      · exact absurd ep.symm (nd _ _ h hp z2)
      · omega
theorem nums_max {rows : List κ} {m : Nat} (hm : m ∈ nums rows) (hx : ∀ y ∈ nums rows, y ≤ m) : m + 1 = (firsts rows).length := by
  have h1 := mem_nums.mp hm
  have h2 := hx ((firsts rows).length - 1) (mem_nums.mpr (by omega))
  omega
/-- how many unlike ones there are -/
def cnt1 (l : List κ) : Nat := (firsts l).length
theorem cnt1_of {l ks : List κ} (nd : ks.Nodup) (h : ∀ x, x ∈ ks ↔ x ∈ l) : ks.length = cnt1 l := by
  have a := nodup_le nd (fun x hx => (mem_firsts l).mpr ((h x).mp hx))
  have b := nodup_le (nodup_firsts l) (fun x hx => (h x).mpr ((mem_firsts l).mp hx))
  unfold cnt1
  omega
theorem cnt1_nums (rows : List κ) : cnt1 (nums rows) = cnt1 rows := by
  have := cnt1_of (l := nums rows) (ks := List.range (firsts rows).length) List.nodup_range (fun x => by rw [List.mem_range, mem_nums])
  rw [← this, List.length_range]
  rfl
theorem cnt1_pos {l : List κ} (h : 0 < l.length) : 0 < cnt1 l := by
  cases l with
  | nil => cases h
  | cons a l =>
    have : a ∈ firsts (a :: l) := (mem_firsts _).mpr (by simp)
    exact List.length_pos_of_mem this
theorem cnt1_le (l : List κ) : cnt1 l ≤ l.length := firsts_len_le l
end
/-- a finer sorting with no more sorts is the same -/
theorem finer_same {sl tl : List Nat} {n : Nat} (h1 : sl.length = n) (h2 : tl.length = n) (fine : ∀ i j, i < n → j < n → tl.getD i 0 = tl.getD j 0 → sl.getD i 0 = sl.getD j 0) (hc : cnt1 tl ≤ cnt1 sl) {i j : Nat} (hi : i < n) (hj : j < n)
    (e : sl.getD i 0 = sl.getD j 0) : tl.getD i 0 = tl.getD j 0 := by
  apply Classical.byContradiction
  intro hne
  have gd : ∀ {l : List Nat} {k : Nat}, k < l.length → l[k]? = some (l.getD k 0) := fun {l k} h => getD_at h
  let φ : Nat → Nat := fun v => sl.getD (tl.findIdx fun x => decide (x = v)) 0
  have hφ : ∀ k, k < n → φ (tl.getD k 0) = sl.getD k 0 := fun k hk => by
    have hm : tl.getD k 0 ∈ tl := List.mem_of_getElem? (gd (by omega))
    have hp := posIn_at hm
    have hl := posIn_lt hm
    refine fine _ _ (by unfold posIn at hl; omega) hk ?_
    have := gd hl
    rw [hp] at this
    exact (Option.some.inj this).symm
  have mem : ∀ {l : List Nat} {k : Nat}, k < l.length → l.getD k 0 ∈ l := fun {l k} h => List.mem_of_getElem? (gd h)
  have sub : ∀ v ∈ firsts sl, v ∈ ((firsts tl).erase (tl.getD i 0)).map φ := fun v hv => by
    have hv := (mem_firsts sl).mp hv
    obtain ⟨k, hk⟩ := List.mem_iff_getElem?.mp hv
    have hk1 : k < n := by rw [← h1]; exact (List.getElem?_eq_some_iff.mp hk).1
    have ek : sl.getD k 0 = v := by rw [List.getD_eq_getElem?_getD, hk]; rfl
    by_cases z : tl.getD k 0 = tl.getD i 0
    · refine List.mem_map.mpr ⟨tl.getD j 0, (List.mem_erase_of_ne (fun z2 => hne z2.symm)).mpr ((mem_firsts tl).mpr (mem (by omega))), ?_⟩
      rw [hφ j hj, ← e, ← hφ i hi, ← z, hφ k hk1, ek]
    · refine List.mem_map.mpr ⟨tl.getD k 0, (List.mem_erase_of_ne z).mpr ((mem_firsts tl).mpr (mem (by omega))), ?_⟩
      rw [hφ k hk1, ek]
  have h3 := nodup_le (nodup_firsts sl) sub
  rw [List.length_map, List.length_erase_of_mem ((mem_firsts tl).mpr (mem (by omega)))] at h3
  have h4 : 0 < (firsts tl).length := List.length_pos_of_mem ((mem_firsts tl).mpr (mem (l := tl) (k := i) (by omega)))
  unfold cnt1 at hc
  omega
def Mach.rows0 (M : Mach) : List Bool := (List.range M.steps.length).map fun r => decide (r ∈ M.ends)
def Mach.rowsOf (M : Mach) (sl : List Nat) : List (List Nat) := (List.range M.steps.length).map fun r => sl.getD r 0 :: (M.row r).map fun q => sl.getD q 0
structure Part (M : Mach) (sl : List Nat) : Prop where
  len : sl.length = M.steps.length
  ends : ∀ i j, i < M.steps.length → j < M.steps.length → sl.getD i 0 = sl.getD j 0 → (i ∈ M.ends ↔ j ∈ M.ends)
  sound : ∀ i j, i < M.steps.length → j < M.steps.length → M.same i j → sl.getD i 0 = sl.getD j 0
section
variable {M : Mach} {sl : List Nat}
theorem rows0_at {i : Nat} (h : i < M.steps.length) : M.rows0[i]? = some (decide (i ∈ M.ends)) := by
  unfold Mach.rows0
  rw [List.getElem?_map, List.getElem?_range h]
  rfl
theorem rowsOf_at {i : Nat} (h : i < M.steps.length) : (M.rowsOf sl)[i]? = some (sl.getD i 0 :: (M.row i).map fun q => sl.getD q 0) := by
  unfold Mach.rowsOf
  rw [List.getElem?_map, List.getElem?_range h]
  rfl
theorem same_end {i j : Nat} (h : M.same i j) : i ∈ M.ends ↔ j ∈ M.ends := h [] Over.nil
theorem part0 : Part M (nums M.rows0) where
  len := by unfold nums Mach.rows0; rw [List.length_map, List.length_map, List.length_range]
  ends := fun i j hi hj e => by
    have := (nums_eq (rows0_at hi) (rows0_at hj)).mp e
    exact decide_eq_decide.mp this
  sound := fun i j hi hj h => (nums_eq (rows0_at hi) (rows0_at hj)).mpr (decide_eq_decide.mpr (same_end h))
/-- the law's first sorts -/
def Mach.kind0 (M : Mach) : List Nat := (List.range M.steps.length).map fun r => if r ∈ M.ends then 1 else 0
theorem kind0_at {i : Nat} (h : i < M.steps.length) : M.kind0.getD i 0 = if i ∈ M.ends then 1 else 0 := by
  unfold Mach.kind0
  rw [List.getD_eq_getElem?_getD, List.getElem?_map, List.getElem?_range h]
  rfl
theorem part0' : Part M M.kind0 where
  len := by unfold Mach.kind0; rw [List.length_map, List.length_range]
  ends := fun i j hi hj e => by
    rw [kind0_at hi, kind0_at hj] at e
    by_cases a : i ∈ M.ends
    · by_cases b : j ∈ M.ends
      · exact ⟨fun _ => b, fun _ => a⟩
      · rw [if_pos a, if_neg b] at e; cases e
    · by_cases b : j ∈ M.ends
      · rw [if_neg a, if_pos b] at e; cases e
      · exact ⟨fun z => absurd z a, fun z => absurd z b⟩
  sound := fun i j hi hj h => by
    rw [kind0_at hi, kind0_at hj]
    have := same_end h
    by_cases a : i ∈ M.ends
    · rw [if_pos a, if_pos (this.mp a)]
    · rw [if_neg a, if_neg (fun z => a (this.mpr z))]
theorem row_mem {i c : Nat} (hc : c ∈ M.L) : ∃ m : Nat, (M.row i)[m]? = some (M.stp i c) ∧ M.L[m]? = some c := by
  obtain ⟨m, hm⟩ := List.mem_iff_getElem?.mp hc
  refine ⟨m, ?_, hm⟩
  unfold Mach.row
  rw [List.getElem?_map, hm]
  rfl
theorem rowsOf_eq {i j : Nat} (hi : i < M.steps.length) (hj : j < M.steps.length) : (nums (M.rowsOf sl)).getD i 0 = (nums (M.rowsOf sl)).getD j 0 ↔ sl.getD i 0 = sl.getD j 0 ∧ ∀ c ∈ M.L, sl.getD (M.stp i c) 0 = sl.getD (M.stp j c) 0 := by
  rw [nums_eq (rowsOf_at hi) (rowsOf_at hj), List.cons.injEq]
  refine and_congr Iff.rfl ?_
  unfold Mach.row
  rw [List.map_map, List.map_map, List.map_inj_left]
  rfl
theorem Part.step (h : Part M sl) (ok : M.Ok) : Part M (nums (M.rowsOf sl)) where
  len := by unfold nums Mach.rowsOf; rw [List.length_map, List.length_map, List.length_range]
  ends := fun i j hi hj e => h.ends i j hi hj ((rowsOf_eq hi hj).mp e).1
  sound := fun i j hi hj hs => (rowsOf_eq hi hj).mpr ⟨h.sound i j hi hj hs, fun c hc => by
    obtain ⟨_, _, _, b1⟩ := ok.stp hi hc
    obtain ⟨_, _, _, b2⟩ := ok.stp hj hc
    exact h.sound _ _ b1 b2 (Mach.same_stp hs hc)⟩
theorem Part.stable (h : Part M sl) (ok : M.Ok) (hc : cnt1 (nums (M.rowsOf sl)) ≤ cnt1 sl) : Stable M fun i => (nums (M.rowsOf sl)).getD i 0 where
  ends := (h.step ok).ends
  sound := (h.step ok).sound
  step := fun i j c hi hj hcL e => by
    obtain ⟨e1, e2⟩ := (rowsOf_eq hi hj).mp e
    obtain ⟨_, _, _, b1⟩ := ok.stp hi hcL
    obtain ⟨_, _, _, b2⟩ := ok.stp hj hcL
    exact finer_same h.len (h.step ok).len (fun a b ha hb z => ((rowsOf_eq ha hb).mp z).1) hc b1 b2 (e2 c hcL)
end
end Dx

namespace Dx
open PySem PySem.Spec PyProof.Rows L2
open Evl (Ex)
variable [Tb]
/-! ### least(machine): the program's and the law's -/
/-- [v(x) for x in xs] that changes nothing -/
theorem comp_list {α : Type} {xs : List α} {gd v : α → D} {t : DG} {te : DE} {rho : Rho} {mu : Mu} {Q : List D → Mu → Prop} (hs : xs.length ≤ 100000)
    (step : ∀ x ∈ xs, ∀ (G : DQ), G (.dat (v x)) mu → t (gd x) rho fun rho' => te rho' mu G)
    (q : Q (xs.map v) mu) : dCompL t dYes te rho Q (xs.map gd) [] mu := by
  refine comp_filt (v := v) (p := fun _ => true) hs (fun x hx G N (g1 : true = true → G (.dat (v x)) mu) g2 => ?_) ?_
  · exact step x hx G (g1 rfl)
  · rw [List.filter_eq_self.mpr (fun _ _ => rfl)]
    exact q
theorem int_nat (i : Nat) : D.int ((0 : Int) + (i : Int)) = natD i := by
  unfold natD
  rw [Int.zero_add]
theorem toIs_nat (l : List Nat) : toIs (l.map natD) = some (l.map fun (n : Nat) => (n : Int)) := by
  rw [← toIs_of (l.map fun (n : Nat) => (n : Int)), List.map_map]
  rfl
def t_numbered (E : World) : DS :=
  (dSeq (dSet 1 (dNew (fDN0 E)))
  (dSeq (dFor (iDat (dVar 0)) (dgN 2)
  (dDrop (dNsetd E (dVar 1) (dVar 2) (dCB dLenN (aCons (dVar 1) aNil)))))
  (dRetF (fLc (iDat (dVar 0)) (dgN 2) dYes (dNget E (dVar 1) (dVar 2)) [2]))))
def kmN {κ : Type} (kd : κ → D) (fit : (∀ k, kTup (kd k) = true) ∨ (∀ k, kLeaf (kd k) = true)) (inj : ∀ a b, nkD (kd a) = nkD (kd b) → a = b) : KM κ Nat := ⟨kd, natD, fit, inj⟩
def S_numbered : FS := fun xs mu Q => ∃ (κ : Type) (_ : DecidableEq κ) (kd : κ → D) (_ : (∀ k, kTup (kd k) = true) ∨ (∀ k, kLeaf (kd k) = true)) (_ : ∀ a b, nkD (kd a) = nkD (kd b) → a = b) (rows : List κ),
  xs = [.dat (.lst (rows.map kd))] ∧ mu = [] ∧ rows.length ≤ 2000 ∧ Q (.new (.lst ((nums rows).map natD))) []
theorem len_numbered : ∀ xs mu Q, S_numbered xs mu Q → xs.length = 1 := fun xs mu Q h => by
  obtain ⟨_, _, _, _, _, _, rfl, _⟩ := h
  rfl
theorem num_len {κ : Type} [DecidableEq κ] (kd : κ → D) (l : List κ) : D.int ((((numE l).map fun p => kd p.1).length : Nat) : Int) = natD l.length := by
  rw [List.length_map, numE_len]
  rfl
/-- known.setdefault(row, len(known)) -/
theorem setd_num {κ : Type} [DecidableEq κ] {kd : κ → D} {fit : (∀ k, kTup (kd k) = true) ∨ (∀ k, kLeaf (kd k) = true)} {inj : ∀ a b, nkD (kd a) = nkD (kd b) → a = b} {E : World} {mu : Mu} {j : Nat} {rows : List κ} {r : κ} {Q : DQ}
    (hj : mu[j]? = some (dtM (kmN kd fit inj) E (numE (firsts rows)))) (hl : rows.length ≤ 2000) (q : ∀ d, Q d (mu.set j (dtM (kmN kd fit inj) E (numE (firsts (rows ++ [r])))))) :
    nSetd E (.cel j) (.dat (kd r)) (.dat (.int ((((numE (firsts rows)).map fun p => kd p.1).length : Nat) : Int))) mu Q := by
  rw [num_len]
  have fl := firsts_len_le rows
  have hml : mu.set j (dtM (kmN kd fit inj) E (numE (firsts rows))) = mu := by
    obtain ⟨h1, h2⟩ := List.getElem?_eq_some_iff.mp hj
    rw [← h2, List.set_getElem_self]
  refine nsetd_run (kmN kd fit inj) (k := r) (v := (firsts rows).length) hj (by rw [numE_len]; omega) (fun u hu => ?_) (fun hn => ?_)
  · have hm : r ∈ firsts rows := by
      have := alook_some.mp (show (alook (numE (firsts rows)) r).isSome = true by rw [hu]; rfl)
      rwa [numE_keys] at this
    have e := firsts_snoc rows r
    rw [if_pos hm] at e
    have w := q (.dat ((kmN kd fit inj).vd u))
    rw [e, hml] at w
    exact w
  · have hm : r ∉ firsts rows := fun z => by
      have := alook_none.mp hn
      rw [numE_keys] at this
      exact this z
    have e := firsts_snoc rows r
    rw [if_neg hm] at e
    have w := q (.dat ((kmN kd fit inj).vd (firsts rows).length))
    rw [e, numE_snoc] at w
    exact w
theorem rd_numbered {E : World} : Body (t_numbered E) ["rows", "known", "row"] S_numbered := fun xs mu Q h => by
  obtain ⟨κ, dec, kd, fit, inj, rows, rfl, rfl, hl, q⟩ := h
  refine for_inv (fun i rho mu => ∃ x, mu = [dtM (kmN kd fit inj) E (numE (firsts (rows.take i)))] ∧ rho = [some (.dat (.lst (rows.map kd))), some (.cel 0), x]) ⟨none, rfl, rfl⟩ (fun i d rho mu K hd hp ke => ?_) (fun rho mu hp => ?_)
  · obtain ⟨x, rfl, rfl⟩ := hp
    rw [List.getElem?_map] at hd
    obtain ⟨r, hr, rfl⟩ := Option.map_eq_some_iff.mp hd
    refine ⟨rfl, ?_⟩
    refine setd_num (fit := fit) (inj := inj) (rows := rows.take i) (r := r) rfl (by rw [List.length_take]; omega) fun d => ?_
    have e : rows.take (i + 1) = rows.take i ++ [r] := by rw [List.take_add_one, hr]; rfl
    rw [← e]
    exact ke _ _ ⟨_, rfl, rfl⟩
  · obtain ⟨x, rfl, rfl⟩ := hp
    rw [List.length_map, List.take_length]
    refine comp_list (xs := rows) (gd := kd) (v := fun r => natD (posIn (firsts rows) r)) (by omega) (fun r hr G g => ?_) ?_
    · exact nget_run (kmN kd fit inj) (k := r) (v := posIn (firsts rows) r) (l := numE (firsts rows)) (ndic_cel (m := kmN kd fit inj) rfl) (numE_look (nodup_firsts rows) ((mem_firsts rows).mpr hr)) g
    · have e : (nums rows).map natD = rows.map fun r => natD (posIn (firsts rows) r) := by
        unfold nums
        rw [List.map_map]
        rfl
      rw [e] at q
      exact q
def t_sorts_of : DS :=
  (dSeq (dAsg (dVar 0) (dgTup 4 (dgCons (dgN 1) (dgCons (dgN 2) (dgCons (dgN 3) (dgCons (dgN 4) dgNil))))))
  (dSeq (dSet 5 (dCall S_numbered (aCons (dFrz (fLc (iRg1 (aCons (dCB dLen (aCons (dVar 4) aNil)) aNil)) (dgN 7) dYes (dOp (dInQ false) (dVar 7) (dVar 3)) [7])) aNil)))
  (dSeq (dSet 6 (dC (.int 0)))
  (dSeq (dWhile (dTest (dOp dGe (dCB dMax (aCons (dVar 5) aNil)) (dVar 6)))
  (dSeq (dSet 6 (dOp dAdd (dCB dMax (aCons (dVar 5) aNil)) (dC (.int 1))))
  (dSet 5 (dCall S_numbered (aCons (dFrz (fLc (iEnumT (dVar 4)) (dgTup 2 (dgCons (dgN 7) (dgCons (dgN 8) dgNil))) dYes (dOp dAdd (dTup (aCons (dOp dIx (dVar 5) (dVar 7)) aNil)) (dCB dTupOf (aCons (dFrz (fLc (iDatT (dVar 8)) (dgN 9) dYes (dOp dIx (dVar 5) (dVar 9)) [9])) aNil))) [7, 8])) aNil)))))
  (dRet (dVar 5))))))
def S_sorts_of : FS := fun xs mu Q => ∃ M : Mach, xs = [.dat M.toD] ∧ mu = [] ∧ M.Ok ∧ ∀ sl : List Nat, sl.length = M.steps.length → Stable M (fun i => sl.getD i 0) → Q (.dv (.dat (.lst (sl.map natD)))) []
theorem len_sorts_of : ∀ xs mu Q, S_sorts_of xs mu Q → xs.length = 1 := fun xs mu Q h => by
  obtain ⟨_, rfl, _⟩ := h
  rfl
/-- the sorts are 0, 1, .. -/
def Cont (sl : List Nat) : Prop := ∀ v, v ∈ sl ↔ v < cnt1 sl
theorem cont_nums {κ : Type} [DecidableEq κ] (rows : List κ) : Cont (nums rows) := fun v => by
  rw [mem_nums, cnt1_nums]
  rfl
theorem max_run {sl : List Nat} {mu : Mu} {Q : DQ} (h0 : 0 < sl.length) (hc : Cont sl) (q : Q (.dat (.int ((cnt1 sl : Nat) - 1 : Int))) mu) : dMax [.dat (.lst (sl.map natD))] mu Q := by
  unfold dMax
  refine on_some (toIs_nat sl) ⟨by rw [List.length_map]; exact h0, fun m hm hx => ?_⟩
  obtain ⟨v, hv, rfl⟩ := List.mem_map.mp hm
  have h1 := (hc v).mp hv
  have h2 : cnt1 sl - 1 ≤ v := by
    have := hx ((cnt1 sl - 1 : Nat) : Int) (List.mem_map.mpr ⟨_, (hc _).mpr (by omega), rfl⟩)
    omega
  have e : ((cnt1 sl : Nat) - 1 : Int) = (v : Int) := by omega
  rw [e] at q
  exact q
theorem rooms_pos {M : Mach} (ok : M.Ok) : 0 < M.steps.length := ok.rooms.1
theorem row_ne {M : Mach} (ok : M.Ok) (f : Nat → D) (r : Nat) : (M.row r).map f ≠ [] := by
  unfold Mach.row
  intro z
  have := congrArg List.length z
  rw [List.length_map, List.length_map] at this
  have h := ok.len.1
  rw [this] at h
  exact absurd h (by simp)
/-- (s[room],) + tuple([s[to] for to in steps[room]]), the row at hand -/
theorem rowK_eq (sl : List Nat) (i : Nat) (r : List Nat) : D.tup ([natD (sl.getD i 0)] ++ (r.map fun q => natD (sl.getD q 0))) = rowK (sl.getD i 0 :: r.map fun q => sl.getD q 0) := by
  unfold rowK
  rw [List.map_cons, List.map_map]
  rfl
theorem row_in {M : Mach} (ok : M.Ok) {r q : Nat} (hr : r < M.steps.length) (hq : q ∈ M.row r) : q < M.steps.length := by
  unfold Mach.row at hq
  obtain ⟨c, hc, rfl⟩ := List.mem_map.mp hq
  obtain ⟨_, _, _, h⟩ := ok.stp hr hc
  exact h
theorem row_len (M : Mach) (r : Nat) : (M.row r).length = M.L.length := List.length_map _
theorem rd_sorts_of : Body t_sorts_of ["machine", "letters", "begin", "ends", "steps", "sorts", "many", "room", "row", "to"] S_sorts_of := fun xs mu Q h => by
  obtain ⟨M, rfl, rfl, ok, q⟩ := h
  have n1000 := ok.rooms.2
  refine ⟨rfl, ?_⟩
  refine ⟨by rw [List.length_map]; omega, by rw [List.length_map]; omega, ?_⟩
  rw [List.length_map, Int.toNat_natCast]
  refine comp_list (xs := List.range M.steps.length) (gd := fun (i : Nat) => D.int ((0 : Int) + (i : Int))) (v := fun r => D.bl (decide (r ∈ M.ends))) (by rw [List.length_range]; omega) (fun r hr G g => ?_) ?_
  · refine ⟨rfl, nat_flat _, ?_⟩
    rw [int_nat, inD_nat]
    exact g
  refine ⟨rfl, Bool, inferInstance, fun b => .bl b, .inr fun _ => rfl, (boolKM natD).inj, M.rows0, ?_, rfl, ?_, ?_⟩
  · unfold Mach.rows0
    rw [List.map_map]
    rfl
  · unfold Mach.rows0
    rw [List.length_map, List.length_range]
    omega
  refine ⟨fun m rho mu => ∃ (sl : List Nat) (many : Nat) (x7 x8 x9 : Option DV), Part M sl ∧ Cont sl ∧ (many = 0 ∨ ∃ pl, Part M pl ∧ sl = nums (M.rowsOf pl) ∧ many = cnt1 pl) ∧ m = M.steps.length - many ∧ mu = [] ∧
    rho = [some (.dat M.toD), some (.dat (.str M.L)), some (.dat (natD M.b)), some (.dat (.tup (M.ends.map natD))), some (.dat (.tup (M.steps.map rowD))), some (.dat (.lst (sl.map natD))), some (.dat (natD many)), x7, x8, x9],
    ⟨_, nums M.rows0, 0, none, none, none, part0, cont_nums _, .inl rfl, rfl, rfl, rfl⟩, fun m rho mu hw => ?_⟩
  obtain ⟨sl, many, x7, x8, x9, pt, ct, pv, rfl, rfl, rfl⟩ := hw
  have sl0 : 0 < sl.length := by rw [pt.len]; exact rooms_pos ok
  have c0 := cnt1_pos sl0
  have cn : cnt1 sl ≤ M.steps.length := by rw [← pt.len]; exact cnt1_le sl
  refine max_run sl0 ct ?_
  refine itD (p := (many : Int) ≤ ((cnt1 sl : Nat) - 1 : Int)) (fun hm => ?_) (fun hm => ?_)
  · refine max_run sl0 ct ?_
    have e1 : ((cnt1 sl : Nat) - 1 : Int) + 1 = ((cnt1 sl : Nat) : Int) := by omega
    refine comp_map (f := fun i => rowK (sl.getD i 0 :: (M.row i).map fun q => sl.getD q 0)) (by rw [enumD_len, List.length_map]; omega) (fun j d K hd k => ?_) ?_
    · obtain ⟨d', h1, rfl⟩ := enumD_at hd
      have hj : j < M.steps.length := by
        have := (List.getElem?_eq_some_iff.mp h1).1
        rwa [List.length_map] at this
      rw [List.getElem?_map, ok.row hj] at h1
      have h1 : rowD (M.row j) = d' := Option.some.inj h1
      subst h1
      refine ⟨rfl, ?_⟩
      rw [Nat.zero_add]
      refine on_some (natD_at (getD_at (by rw [pt.len]; exact hj))) ?_
      refine ⟨by show 1 ≤ 1000; omega, ?_⟩
      have rl := row_len M j
      have l26 := ok.len.2
      refine comp_list (xs := M.row j) (gd := natD) (v := fun q => natD (sl.getD q 0)) (by omega) (fun q hq G g => ?_) ?_
      · exact on_some (natD_at (getD_at (by rw [pt.len]; exact row_in ok hj hq))) g
      · refine ⟨by simp, row_ne ok _ j, by rw [List.length_map]; show 1 + _ ≤ 1000; omega, ?_⟩
        rw [rowK_eq]
        exact k
    · rw [enumD_len, List.length_map, e1]
      refine ⟨rfl, List Nat, inferInstance, rowK, .inl rowK_fit, rowK_inj, M.rowsOf sl, ?_, rfl, ?_, ?_⟩
      · unfold Mach.rowsOf
        rw [List.map_map]
        rfl
      · unfold Mach.rowsOf
        rw [List.length_map, List.length_range]
        omega
      · exact ⟨M.steps.length - cnt1 sl, by omega, nums (M.rowsOf sl), cnt1 sl, _, _, _, pt.step ok, cont_nums _, .inr ⟨sl, pt, rfl, rfl⟩, rfl, rfl, rfl⟩
  · have hmany : cnt1 sl ≤ many := by omega
    rcases pv with rfl | ⟨pl, pp, rfl, rfl⟩
    · omega
    · exact q _ pt.len (pp.stable ok hmany)

end Dx

namespace Dx
open PySem PySem.Spec PyProof.Rows L2
open Evl (Ex)
variable [Tb]
/-! #### least(machine) -/
def S_least : FS := fun xs mu Q => ∃ M : Mach, xs = [.dat M.toD] ∧ mu = [] ∧ M.Ok ∧ ∀ R, LeastOf M.L M.takes R → R.steps.length ≤ M.steps.length → Q (.dv (.dat R.toD)) []
theorem len_least : ∀ xs mu Q, S_least xs mu Q → xs.length = 1 := fun xs mu Q h => by
  obtain ⟨_, rfl, _⟩ := h
  rfl
/-- the search so far: the rooms that stand for the states -/
structure Reps (M : Mach) (s : Nat → Nat) (line : List (List Nat × Nat)) (rs : List Nat) : Prop where
  len : rs.length = line.length
  at' : ∀ (i r : Nat) (p : List Nat × Nat), rs[i]? = some r → line[i]? = some p → s r = p.2 ∧ r < M.steps.length
theorem Reps.snoc {M : Mach} {s : Nat → Nat} {line : List (List Nat × Nat)} {rs : List Nat} (h : Reps M s line rs) {w : List Nat} {r : Nat} (hr : r < M.steps.length) : Reps M s (line ++ [(w, s r)]) (rs ++ [r]) where
  len := by rw [List.length_append, List.length_append, h.len]; rfl
  at' := fun i r' p h1 h2 => by
    by_cases hi : i < rs.length
    · rw [List.getElem?_append_left hi] at h1
      rw [List.getElem?_append_left (by rw [← h.len]; exact hi)] at h2
      exact h.at' i r' p h1 h2
    · have e : i = rs.length := by
        have := (List.getElem?_eq_some_iff.mp h1).1
        rw [List.length_append, List.length_singleton] at this
        omega
      subst e
      rw [List.getElem?_append_right (Nat.le_refl _), Nat.sub_self] at h1
      rw [List.getElem?_append_right (by rw [h.len]; exact Nat.le_refl _), h.len, Nat.sub_self] at h2
      cases h1
      cases h2
      exact ⟨rfl, hr⟩
theorem Reps.few {M : Mach} {s : Nat → Nat} {line : List (List Nat × Nat)} {rs : List Nat} (h : Reps M s line rs) (nd : (line.map (·.2)).Nodup) : rs.length ≤ M.steps.length := by
  have : (rs.map s) = line.map (·.2) := by
    apply List.ext_getElem
    · rw [List.length_map, List.length_map, h.len]
    · intro i h1 h2
      rw [List.length_map] at h1 h2
      rw [List.getElem_map, List.getElem_map]
      exact (h.at' i _ _ (List.getElem?_eq_getElem h1) (List.getElem?_eq_getElem h2)).1
  have nd2 : rs.Nodup := by
    have h2 : List.Pairwise (· ≠ ·) (rs.map s) := by rw [this]; exact nd
    rw [List.pairwise_map] at h2
    exact h2.imp fun {a b} hne e => hne (by rw [e])
  have h3 := nodup_le (m := List.range M.steps.length) nd2 (fun r hr => by
    obtain ⟨i, hi⟩ := List.mem_iff_getElem?.mp hr
    have hil := (List.getElem?_eq_some_iff.mp hi).1
    exact List.mem_range.mpr (h.at' i r _ hi (List.getElem?_eq_getElem (by rw [← h.len]; exact hil))).2)
  rw [List.length_range] at h3
  exact h3
/-- the row of a room, over the states -/
def stRow (M : Mach) (s : Nat → Nat) (line : List (List Nat × Nat)) (r : Nat) : List Nat := M.L.map fun c => posIn (line.map (·.2)) (s (M.stp r c))
theorem stRow_app {M : Mach} {s : Nat → Nat} {line more : List (List Nat × Nat)} {r : Nat} (h : ∀ c ∈ M.L, s (M.stp r c) ∈ line.map (·.2)) : stRow M s (line ++ more) r = stRow M s line r := by
  unfold stRow
  apply List.map_congr_left
  intro c hc
  rw [List.map_append, posIn_app (h c hc)]
/-- the rows found so far -/
def FdOk (M : Mach) (s : Nat → Nat) (line : List (List Nat × Nat)) (rs : List Nat) (fd : List (List Nat)) : Prop := ∀ (i r : Nat), i < fd.length → rs[i]? = some r → fd[i]? = some (stRow M s line r) ∧ ∀ c ∈ M.L, s (M.stp r c) ∈ line.map (·.2)
theorem FdOk.more {M : Mach} {s : Nat → Nat} {line more : List (List Nat × Nat)} {rs more2 : List Nat} {fd : List (List Nat)} (h : FdOk M s line rs fd) (hl : fd.length ≤ rs.length) : FdOk M s (line ++ more) (rs ++ more2) fd := fun i r hi hr => by
  rw [List.getElem?_append_left (by omega)] at hr
  obtain ⟨a, b⟩ := h i r hi hr
  rw [stRow_app b]
  exact ⟨a, fun c hc => by rw [List.map_append]; exact List.mem_append_left _ (b c hc)⟩
theorem FdOk.snoc {M : Mach} {s : Nat → Nat} {line : List (List Nat × Nat)} {rs : List Nat} {fd : List (List Nat)} (h : FdOk M s line rs fd) {r : Nat} (hr : rs[fd.length]? = some r) (hm : ∀ c ∈ M.L, s (M.stp r c) ∈ line.map (·.2)) : FdOk M s line rs (fd ++ [stRow M s line r]) := fun i r' hi hr' => by
  by_cases c : i < fd.length
  · rw [List.getElem?_append_left c]
    exact h i r' c hr'
  · have e : i = fd.length := by
      rw [List.length_append, List.length_singleton] at hi
      omega
    subst e
    rw [hr] at hr'
    cases hr'
    rw [List.getElem?_append_right (Nat.le_refl _), Nat.sub_self]
    exact ⟨rfl, hm⟩
theorem FdOk.all {M : Mach} {s : Nat → Nat} {line : List (List Nat × Nat)} {rs : List Nat} {fd : List (List Nat)} (h : FdOk M s line rs fd) (hl : fd.length = rs.length) : fd = rs.map fun r => M.L.map fun c => posIn (line.map (·.2)) (s (M.stp r c)) := by
  apply List.ext_getElem?
  intro i
  by_cases c : i < fd.length
  · have hr : rs[i]? = some (rs[i]'(by omega)) := List.getElem?_eq_getElem (by omega)
    rw [(h i _ c hr).1, List.getElem?_map, hr]
    rfl
  · rw [List.getElem?_eq_none (by omega), List.getElem?_eq_none (by rw [List.length_map]; omega)]
def kmI : KM Nat Nat := intKM natD
theorem num_has (l : List Nat) (k : Nat) : (alook (numE l) k).isSome = decide (k ∈ l) := by
  by_cases h : k ∈ l
  · rw [decide_eq_true h]
    exact alook_some.mpr (by rw [numE_keys]; exact h)
  · rw [decide_eq_false h, alook_none.mpr (by rw [numE_keys]; exact h)]
    rfl
theorem num_put (l : List Nat) (k : Nat) (h : k ∉ l) : aput (numE l) k l.length = numE (l ++ [k]) := by
  rw [aput_new _ (by rw [numE_keys]; exact h), numE_snoc]
def t_least (E : World) : DS :=
  (dSeq (dAsg (dVar 0) (dgTup 4 (dgCons (dgN 1) (dgCons (dgN 2) (dgCons (dgN 3) (dgCons (dgN 4) dgNil))))))
  (dSeq (dSet 5 (dCall S_sorts_of (aCons (dVar 0) aNil)))
  (dSeq (dSet 6 (dNew (fLst (aCons (dVar 2) aNil))))
  (dSeq (dSet 7 (dNew (fDL1 E (dOp dIx (dVar 5) (dVar 2)) (dC (.int 0)))))
  (dSeq (dSet 8 (dNew (fLst aNil)))
  (dSeq (dWhile (dTest (dOp dLt (dCB dLen (aCons (dVar 8) aNil)) (dCB dLen (aCons (dVar 6) aNil))))
  (dScope (dSeq (dSet 9 (dNew (fLst aNil)))
  (dSeq (dFor (iDatT (dOp dIx (dVar 4) (dOp dIx (dVar 6) (dCB dLen (aCons (dVar 8) aNil))))) (dgN 10)
  (dJn (dIf (dTest (dNin E true (dOp dIx (dVar 5) (dVar 10)) (dVar 7)))
  (dSeq (dNput E (dVar 7) (dOp dIx (dVar 5) (dVar 10)) (dCB dLen (aCons (dVar 6) aNil)))
  (dDrop (dBM "list" dAppend (dVar 6) (aCons (dVar 10) aNil))))
  dNext)
  (dDrop (dBM "list" dAppend (dVar 9) (aCons (dNget E (dVar 7) (dOp dIx (dVar 5) (dVar 10))) aNil)))))
  (dDrop (dBM "list" dAppend (dVar 8) (aCons (dCB dTupOf (aCons (dVar 9) aNil)) aNil)))))))
  (dFz 6 (dRet (dTup (aCons (dVar 1) (aCons (dC (.int 0)) (aCons (dCB dTupOf (aCons (dFrz (fLc (iEnumL (dVar 6)) (dgTup 2 (dgCons (dgN 11) (dgCons (dgN 12) dgNil))) (dTest (dOp (dInQ false) (dVar 12) (dVar 3))) (dVar 11) [11, 12])) aNil)) (aCons (dCB dTupOf (aCons (dVar 8) aNil)) aNil)))))))))))))
theorem rd_least {E : World} : Body (t_least E) ["machine", "letters", "begin", "ends", "steps", "sorts", "rooms", "numbers", "found", "row", "to", "at", "room"] S_least := fun xs mu Q h => by
  obtain ⟨M, rfl, rfl, ok, q⟩ := h
  have n1000 := ok.rooms.2
  have l26 := ok.len.2
  refine ⟨rfl, ?_⟩
  refine ⟨rfl, M, rfl, rfl, ok, fun sl sll st => ?_⟩
  have sget : ∀ {r : Nat}, r < M.steps.length → sl[r]? = some (sl.getD r 0) := fun {r} h => getD_at (by rw [sll]; exact h)
  refine ⟨by show 1 ≤ 1000; omega, ?_⟩
  refine on_some (natD_at (sget ok.begin)) ?_
  refine ⟨rfl, ?_⟩
  refine ⟨by show 0 ≤ 1000; omega, ?_⟩
  refine ⟨fun m rho mu => ∃ (line : List (List Nat × Nat)) (rs : List Nat) (fd : List (List Nat)) (x9 x10 x11 x12 : Option DV), Bfs (M.cls fun r => sl.getD r 0) M.L line fd.length 0 ∧ Reps M (fun r => sl.getD r 0) line rs ∧ FdOk M (fun r => sl.getD r 0) line rs fd ∧ fd.length ≤ rs.length ∧ m = M.steps.length - fd.length ∧
    mu = [.lst (rs.map natD), dtM kmI E (numE (line.map (·.2))), .lst (fd.map rowD)] ∧
    rho = [some (.dat M.toD), some (.dat (.str M.L)), some (.dat (natD M.b)), some (.dat (.tup (M.ends.map natD))), some (.dat (.tup (M.steps.map rowD))), some (.dat (.lst (sl.map natD))), some (.cel 0), some (.cel 1), some (.cel 2), x9, x10, x11, x12],
    ⟨_, [([], sl.getD M.b 0)], [M.b], [], none, none, none, none, Bfs.start, ⟨rfl, fun i r p h1 h2 => by
      cases i with
      | zero => cases h1; cases h2; exact ⟨rfl, ok.begin⟩
      | succ i => cases h1⟩, fun i r hi => by simp at hi, Nat.zero_le _, rfl, rfl, rfl⟩, fun m rho mu hw => ?_⟩
  obtain ⟨line, rs, fd, x9, x10, x11, x12, B, Rp, Fd, fl, rfl, rfl, rfl⟩ := hw
  have few := Rp.few B.nd
  refine itD (p := (((fd.map rowD).length : Nat) : Int) < (((rs.map natD).length : Nat) : Int)) (fun hlt => ?_) (fun hlt => ?_)
  · rw [List.length_map, List.length_map] at hlt
    have hlt : fd.length < rs.length := by omega
    have hr : rs[fd.length]? = some rs[fd.length] := List.getElem?_eq_getElem hlt
    have hq : line[fd.length]? = some (line[fd.length]'(by rw [← Rp.len]; exact hlt)) := List.getElem?_eq_getElem _
    generalize rs[fd.length] = r at hr
    generalize line[fd.length]'_ = e at hq
    obtain ⟨er, rl⟩ := Rp.at' _ _ _ hr hq
    refine ⟨by show 0 ≤ 1000; omega, ?_⟩
    refine on_some (a := natD r) (by rw [List.length_map]; exact natD_at hr) ?_
    refine on_some (rowD_at (ok.row rl)) ?_
    have rowlen := row_len M r
    refine for_inv (fun j rho mu => ∃ (line' : List (List Nat × Nat)) (rs' : List Nat) (x10 : Option DV), Bfs (M.cls fun r => sl.getD r 0) M.L line' fd.length j ∧ Reps M (fun r => sl.getD r 0) line' rs' ∧ FdOk M (fun r => sl.getD r 0) line' rs' fd ∧ rs'[fd.length]? = some r ∧ line'[fd.length]? = some e ∧ j ≤ M.L.length ∧
      (∀ (k c : Nat), k < j → M.L[k]? = some c → sl.getD (M.stp r c) 0 ∈ line'.map (·.2)) ∧
      mu = [.lst (rs'.map natD), dtM kmI E (numE (line'.map (·.2))), .lst (fd.map rowD), .lst (((stRow M (fun r => sl.getD r 0) line' r).take j).map natD)] ∧
      rho = [some (.dat M.toD), some (.dat (.str M.L)), some (.dat (natD M.b)), some (.dat (.tup (M.ends.map natD))), some (.dat (.tup (M.steps.map rowD))), some (.dat (.lst (sl.map natD))), some (.cel 0), some (.cel 1), some (.cel 2), some (.cel 3), x10, x11, x12])
      ⟨line, rs, _, B, Rp, Fd, hr, hq, Nat.zero_le _, fun k c h => by omega, rfl, rfl⟩ (fun j d rho mu K hd hp ke => ?_) (fun rho mu hp => ?_)
    · obtain ⟨line', rs', x10, B', Rp', Fd', hr', hq', hj, hm, rfl, rfl⟩ := hp
      have few' := Rp'.few B'.nd
      rw [List.getElem?_map] at hd
      obtain ⟨v, hv, rfl⟩ := Option.map_eq_some_iff.mp hd
      obtain ⟨c, hc, rfl⟩ : ∃ c, M.L[j]? = some c ∧ M.stp r c = v := by
        unfold Mach.row at hv
        rw [List.getElem?_map] at hv
        obtain ⟨c, hc, e⟩ := Option.map_eq_some_iff.mp hv
        exact ⟨c, hc, e⟩
      have hcm := List.mem_of_getElem? hc
      obtain ⟨_, _, _, tl⟩ := ok.stp rl hcm
      have stp : (M.cls fun r => sl.getD r 0).step e.2 c = some (sl.getD (M.stp r c) 0) := by
        rw [← er]
        exact st.cls_step rl hcm
      refine jn_k (fun rho mu => ∃ (line2 : List (List Nat × Nat)) (rs2 : List Nat), Bfs (M.cls fun r => sl.getD r 0) M.L line2 fd.length (j + 1) ∧ Reps M (fun r => sl.getD r 0) line2 rs2 ∧ FdOk M (fun r => sl.getD r 0) line2 rs2 fd ∧ rs2[fd.length]? = some r ∧ line2[fd.length]? = some e ∧
        sl.getD (M.stp r c) 0 ∈ line2.map (·.2) ∧ (∀ (k c : Nat), k < j → M.L[k]? = some c → sl.getD (M.stp r c) 0 ∈ line2.map (·.2)) ∧ (stRow M (fun r => sl.getD r 0) line2 r).take j = (stRow M (fun r => sl.getD r 0) line' r).take j ∧
        mu = [.lst (rs2.map natD), dtM kmI E (numE (line2.map (·.2))), .lst (fd.map rowD), .lst (((stRow M (fun r => sl.getD r 0) line' r).take j).map natD)] ∧
        rho = [some (.dat M.toD), some (.dat (.str M.L)), some (.dat (natD M.b)), some (.dat (.tup (M.ends.map natD))), some (.dat (.tup (M.steps.map rowD))), some (.dat (.lst (sl.map natD))), some (.cel 0), some (.cel 1), some (.cel 2), some (.cel 3), some (.dat (natD (M.stp r c))), x11, x12])
        (fun K1 k1 => ?_) (fun rho mu hp => ?_)
      · refine on_some (natD_at (sget tl)) ?_
        refine nin_run kmI (k := sl.getD (M.stp r c) 0) (l := numE (line'.map (·.2))) (ndic_cel (m := kmI) rfl) ?_
        rw [num_has]
        by_cases hin : sl.getD (M.stp r c) 0 ∈ line'.map (·.2)
        · rw [decide_eq_true hin]
          exact k1 _ _ ⟨line', rs', B'.old hq' hc (fun t ht => by rw [stp] at ht; cases ht; exact hin), Rp', Fd', hr', hq', hin, hm, rfl, rfl, rfl⟩
        · rw [decide_eq_false hin]
          refine on_some (natD_at (sget tl)) ?_
          have elen : (rs'.map natD).length = (line'.map (·.2)).length := by rw [List.length_map, Rp'.len, List.length_map]
          refine nput_run kmI (k := sl.getD (M.stp r c) 0) (v := (rs'.map natD).length) (l := numE (line'.map (·.2))) rfl (by rw [numE_len, List.length_map, ← Rp'.len]; omega) ?_
          rw [elen, num_put _ _ hin]
          refine ⟨rfl, ?_⟩
          refine ⟨by rw [List.length_map]; omega, ?_⟩
          have fl' : fd.length < rs'.length := (List.getElem?_eq_some_iff.mp hr').1
          refine k1 _ _ ⟨line' ++ [(e.1 ++ [c], sl.getD (M.stp r c) 0)], rs' ++ [M.stp r c], B'.new ok.letters.1 hq' hc stp hin, Rp'.snoc tl, Fd'.more (by omega), ?_, ?_, ?_, fun k d hk hd => ?_, ?_, ?_, rfl⟩
          · rw [List.getElem?_append_left fl']
            exact hr'
          · rw [List.getElem?_append_left (by rw [← Rp'.len]; exact fl')]
            exact hq'
          · rw [List.map_append]
            exact List.mem_append_right _ (by simp)
          · rw [List.map_append]
            exact List.mem_append_left _ (hm k d hk hd)
          · unfold stRow
            rw [← List.map_take, ← List.map_take]
            apply List.map_congr_left
            intro d hd
            obtain ⟨k, hk⟩ := List.mem_iff_getElem?.mp hd
            have hkj : k < j := by
              have := (List.getElem?_eq_some_iff.mp hk).1
              rw [List.length_take] at this
              omega
            rw [List.getElem?_take_of_lt hkj] at hk
            rw [List.map_append, posIn_app (hm k d hkj hk)]
          · rw [List.map_append, List.map_append]
            rfl
      · obtain ⟨line2, rs2, B2, Rp2, Fd2, hr2, hq2, hin, hm2, etk, rfl, rfl⟩ := hp
        refine ⟨rfl, ?_⟩
        refine on_some (natD_at (sget tl)) ?_
        refine nget_run kmI (k := sl.getD (M.stp r c) 0) (v := posIn (line2.map (·.2)) (sl.getD (M.stp r c) 0)) (l := numE (line2.map (·.2))) (ndic_cel (m := kmI) rfl) (numE_look B2.nd hin) ?_
        have hjl := (List.getElem?_eq_some_iff.mp hc).1
        refine ⟨by rw [List.length_map, List.length_take]; omega, ?_⟩
        refine ke _ _ ⟨line2, rs2, _, B2, Rp2, Fd2, hr2, hq2, hjl, fun k d hk hd2 => ?_, ?_, rfl⟩
        · by_cases z : k < j
          · exact hm2 k d z hd2
          · have e : k = j := by omega
            subst e
            rw [hc] at hd2
            cases hd2
            exact hin
        · have e2 : (stRow M (fun r => sl.getD r 0) line2 r)[j]? = some (posIn (line2.map (·.2)) (sl.getD (M.stp r c) 0)) := by
            unfold stRow
            rw [List.getElem?_map, hc]
            rfl
          rw [List.take_add_one, e2, etk, List.map_append]
          rfl
    · obtain ⟨line', rs', x10, B', Rp', Fd', hr', hq', hj, hm, rfl, rfl⟩ := hp
      rw [List.length_map, rowlen] at B' hm
      have hall : ∀ c ∈ M.L, sl.getD (M.stp r c) 0 ∈ line'.map (·.2) := fun c hc => by
        obtain ⟨k, hk⟩ := List.mem_iff_getElem?.mp hc
        exact hm k c (List.getElem?_eq_some_iff.mp hk).1 hk
      have few' := Rp'.few B'.nd
      have fl' : fd.length < rs'.length := (List.getElem?_eq_some_iff.mp hr').1
      have etk : (stRow M (fun r => sl.getD r 0) line' r).take ((M.row r).map natD).length = stRow M (fun r => sl.getD r 0) line' r := by
        rw [List.length_map, rowlen]
        exact List.take_of_length_le (Nat.le_of_eq (List.length_map _))
      rw [etk]
      refine ⟨rfl, ?_⟩
      refine ⟨by rw [List.length_map]; omega, ?_⟩
      have B2 := B'.row (Nat.le_refl _)
      have e1 : fd.length + 1 = (fd ++ [stRow M (fun r => sl.getD r 0) line' r]).length := by rw [List.length_append]; rfl
      rw [e1] at B2
      refine ⟨M.steps.length - (fd ++ [stRow M (fun r => sl.getD r 0) line' r]).length, by rw [← e1]; omega, line', rs', fd ++ [stRow M (fun r => sl.getD r 0) line' r], _, _, _, _, B2, Rp', Fd'.snoc hr' hall, by rw [← e1]; exact fl', rfl, ?_, rfl⟩
      rw [List.map_append]
      rfl
  · rw [List.length_map, List.length_map] at hlt
    have hfl : fd.length = rs.length := by omega
    have hls := st.least ok B (by rw [← Rp.len]; omega) Rp.len Rp.at'
    have fe := Fd.all hfl
    refine ⟨rfl, ?_⟩
    show dCompL _ _ _ _ _ (enumD 0 (rs.map natD)) _ _
    rw [enumD_map natD rs]
    refine comp_filt (xs := List.range rs.length) (v := natD) (p := fun i => decide (rs.getD i 0 ∈ M.ends)) (by rw [List.length_range]; omega) (fun i hi G N g1 g2 => ?_) ?_
    · have hi := List.mem_range.mp hi
      have ei : (rs.map natD).getD i .non = natD (rs.getD i 0) := by
        rw [List.getD_eq_getElem?_getD, List.getElem?_map, List.getD_eq_getElem?_getD, List.getElem?_eq_getElem hi]
        rfl
      rw [ei]
      refine ⟨rfl, ?_⟩
      refine ⟨rfl, nat_flat _, ?_⟩
      rw [inD_nat]
      refine itD (fun h => ?_) (fun h => ?_)
      · exact g1 (decide_eq_true h)
      · exact g2 (decide_eq_false h)
    · refine ⟨by show 4 ≤ 1000; omega, ?_⟩
      rw [← fe] at hls
      refine q _ hls ?_
      show fd.length ≤ _
      omega

end Dx

namespace Dx
open PySem PySem.Spec PyProof.Rows L2
open Evl (Ex)
variable [Tb]
/-! #### the law's least machine -/
theorem cnt1_map {κ μ : Type} [DecidableEq κ] [DecidableEq μ] (f : κ → μ) (inj : ∀ a b, f a = f b → a = b) (l : List κ) : cnt1 (l.map f) = cnt1 l := by
  have nd : ((firsts l).map f).Nodup := by
    show List.Pairwise (· ≠ ·) _
    rw [List.pairwise_map]
    exact (nodup_firsts l).imp fun {a b} hne e => hne (inj _ _ e)
  have := cnt1_of (l := l.map f) nd (fun x => by
    rw [List.mem_map, List.mem_map]
    constructor
    · rintro ⟨a, ha, e⟩
      exact ⟨a, (mem_firsts l).mp ha, e⟩
    · rintro ⟨a, ha, e⟩
      exact ⟨a, (mem_firsts l).mpr ha, e⟩)
  rw [← this, List.length_map]
  rfl
theorem lenset_run {sl : List Nat} {mu : Mu} {Q : DQ} (h : sl.length ≤ 4000) (q : Q (.dat (natD (cnt1 sl))) mu) : nLenSet (.dat (.lst (sl.map natD))) mu Q := by
  unfold nLenSet
  refine on_some (toIs_nat sl) ⟨by rw [List.length_map]; exact h, fun ks nd hm => ?_⟩
  have e := cnt1_of nd hm
  rw [cnt1_map (fun (n : Nat) => (n : Int)) (fun a b e => Int.ofNat.inj e) sl] at e
  rw [e]
  exact q
def t_w_least (E : World) : DS :=
  (dSeq (dAsg (dVar 0) (dgTup 4 (dgCons (dgN 1) (dgCons (dgN 2) (dgCons (dgN 3) (dgCons (dgN 4) dgNil))))))
  (dSeq (dSet 5 (dFrz (fLc (iRg1 (aCons (dCB dLen (aCons (dVar 4) aNil)) aNil)) (dgN 15) dYes (dCB dInt (aCons (dOp (dInQ false) (dVar 15) (dVar 3)) aNil)) [15])))
  (dSeq (dSet 6 (dC (.int 0)))
  (dSeq (dWhile (dTest (dOp dGt (dLenSetA (dVar 5)) (dVar 6)))
  (dScope (dSeq (dSet 6 (dLenSetA (dVar 5)))
  (dSeq (dSet 7 (dFrz (fLc (iRg1 (aCons (dCB dLen (aCons (dVar 4) aNil)) aNil)) (dgN 15) dYes (dOp dAdd (dTup (aCons (dOp dIx (dVar 5) (dVar 15)) aNil)) (dCB dTupOf (aCons (dFrz (fLc (iDatT (dOp dIx (dVar 4) (dVar 15))) (dgN 13) dYes (dOp dIx (dVar 5) (dVar 13)) [13])) aNil))) [15])))
  (dSeq (dSet 8 (dNew (fDN0 E)))
  (dSeq (dFor (iDat (dVar 7)) (dgN 9)
  (dDrop (dNsetd E (dVar 8) (dVar 9) (dCB dLenN (aCons (dVar 8) aNil)))))
  (dSet 5 (dFrz (fLc (iDat (dVar 7)) (dgN 9) dYes (dNget E (dVar 8) (dVar 9)) [9])))))))))
  (dSeq (dSet 10 (dNew (fLst (aCons (dVar 2) aNil))))
  (dSeq (dSet 11 (dNew (fDL1 E (dOp dIx (dVar 5) (dVar 2)) (dC (.int 0)))))
  (dSeq (dSet 12 (dC (.int 0)))
  (dSeq (dWhile (dTest (dOp dLt (dVar 12) (dCB dLen (aCons (dVar 10) aNil))))
  (dSeq (dFor (iDatT (dOp dIx (dVar 4) (dOp dIx (dVar 10) (dVar 12)))) (dgN 13)
  (dIf (dTest (dNin E true (dOp dIx (dVar 5) (dVar 13)) (dVar 11)))
  (dSeq (dNput E (dVar 11) (dOp dIx (dVar 5) (dVar 13)) (dCB dLenN (aCons (dVar 11) aNil)))
  (dDrop (dBM "list" dAppend (dVar 10) (aCons (dVar 13) aNil))))
  dNext))
  (dSet 12 (dOp dAdd (dVar 12) (dC (.int 1))))))
  (dFz 10 (dSeq (dSet 14 (dCB dTupOf (aCons (dFrz (fLc (iDat (dVar 10)) (dgN 15) dYes (dCB dTupOf (aCons (dFrz (fLc (iDatT (dOp dIx (dVar 4) (dVar 15))) (dgN 13) dYes (dNget E (dVar 11) (dOp dIx (dVar 5) (dVar 13))) [13])) aNil)) [15])) aNil)))
  (dRet (dTup (aCons (dVar 1) (aCons (dC (.int 0)) (aCons (dCB dTupOf (aCons (dFrz (fLc (iEnumL (dVar 10)) (dgTup 2 (dgCons (dgN 12) (dgCons (dgN 15) dgNil))) (dTest (dOp (dInQ false) (dVar 15) (dVar 3))) (dVar 12) [12, 15])) aNil)) (aCons (dVar 14) aNil))))))))))))))))
def S_w_least : FS := S_least
theorem len_w_least : ∀ xs mu Q, S_w_least xs mu Q → xs.length = 1 := len_least
theorem kind_eq (M : Mach) (r : Nat) : D.int (if decide (r ∈ M.ends) = true then 1 else 0) = natD (if r ∈ M.ends then 1 else 0) := by
  by_cases h : r ∈ M.ends
  · rw [decide_eq_true h, if_pos h]; rfl
  · rw [decide_eq_false h, if_neg h]; rfl
/-- (s[room],) + tuple([s[to] for to in steps[room]]) for all rooms -/
theorem rd_w_least {E : World} : Body (t_w_least E) ["_law_machine_here", "_law_letters_here", "_law_begin", "_law_ends", "_law_steps", "_law_sort", "_law_many", "_law_rows", "_law_known", "_law_row", "_law_order", "_law_numbers", "_law_at", "_law_to", "_law_found", "_law_room_here"] S_w_least := fun xs mu Q h => by
  obtain ⟨M, rfl, rfl, ok, q⟩ := h
  have n1000 := ok.rooms.2
  have l26 := ok.len.2
  refine ⟨rfl, ?_⟩
  refine ⟨by rw [List.length_map]; omega, by rw [List.length_map]; omega, ?_⟩
  rw [List.length_map, Int.toNat_natCast]
  refine comp_list (xs := List.range M.steps.length) (gd := fun (i : Nat) => D.int ((0 : Int) + (i : Int))) (v := fun r => natD (if r ∈ M.ends then 1 else 0)) (by rw [List.length_range]; omega) (fun r hr G g => ?_) ?_
  · refine ⟨rfl, nat_flat _, ?_⟩
    rw [int_nat, inD_nat]
    rw [← kind_eq] at g
    exact g
  have e0 : ((List.range M.steps.length).map fun r => natD (if r ∈ M.ends then 1 else 0)) = M.kind0.map natD := by
    unfold Mach.kind0
    rw [List.map_map]
    rfl
  rw [e0]
  refine ⟨fun m rho mu => ∃ (sl : List Nat) (many : Nat) (x7 x8 x9 x13 x15 : Option DV), Part M sl ∧ (many = 0 ∨ ∃ pl, Part M pl ∧ sl = nums (M.rowsOf pl) ∧ many = cnt1 pl) ∧ m = M.steps.length - many ∧ mu = [] ∧
    rho = [some (.dat M.toD), some (.dat (.str M.L)), some (.dat (natD M.b)), some (.dat (.tup (M.ends.map natD))), some (.dat (.tup (M.steps.map rowD))), some (.dat (.lst (sl.map natD))), some (.dat (natD many)), x7, x8, x9, none, none, none, x13, none, x15],
    ⟨_, M.kind0, 0, none, none, none, none, none, part0', .inl rfl, rfl, rfl, rfl⟩, fun m rho mu hw => ?_⟩
  obtain ⟨sl, many, x7, x8, x9, x13, x15, pt, pv, rfl, rfl, rfl⟩ := hw
  have sl0 : 0 < sl.length := by rw [pt.len]; exact rooms_pos ok
  have c0 := cnt1_pos sl0
  have cn : cnt1 sl ≤ M.steps.length := by rw [← pt.len]; exact cnt1_le sl
  have s4 : sl.length ≤ 4000 := by rw [pt.len]; omega
  refine lenset_run s4 ?_
  refine itD (p := (many : Int) < ((cnt1 sl : Nat) : Int)) (fun hm => ?_) (fun hm => ?_)
  · refine lenset_run s4 ?_
    refine ⟨by rw [List.length_map]; omega, by rw [List.length_map]; omega, ?_⟩
    rw [List.length_map, Int.toNat_natCast]
    refine comp_list (xs := List.range M.steps.length) (gd := fun (i : Nat) => D.int ((0 : Int) + (i : Int))) (v := fun i => rowK (sl.getD i 0 :: (M.row i).map fun q => sl.getD q 0)) (by rw [List.length_range]; omega) (fun i hi G g => ?_) ?_
    · have hi := List.mem_range.mp hi
      rw [int_nat]
      refine on_some (natD_at (getD_at (by rw [pt.len]; exact hi))) ?_
      refine ⟨by show 1 ≤ 1000; omega, ?_⟩
      have rl := row_len M i
      refine on_some (rowD_at (ok.row hi)) ?_
      refine comp_list (xs := M.row i) (gd := natD) (v := fun q => natD (sl.getD q 0)) (by omega) (fun q hq G g => ?_) ?_
      · exact on_some (natD_at (getD_at (by rw [pt.len]; exact row_in ok hi hq))) g
      · refine ⟨by simp, row_ne ok _ i, by rw [List.length_map]; show 1 + _ ≤ 1000; omega, ?_⟩
        rw [rowK_eq]
        exact g
    have er : ((List.range M.steps.length).map fun i => rowK (sl.getD i 0 :: (M.row i).map fun q => sl.getD q 0)) = (M.rowsOf sl).map rowK := by
      unfold Mach.rowsOf
      rw [List.map_map]
      rfl
    rw [er]
    have rlen : (M.rowsOf sl).length = M.steps.length := by
      unfold Mach.rowsOf
      rw [List.length_map, List.length_range]
    generalize hrows : M.rowsOf sl = rows at rlen
    refine for_inv (fun i rho mu => ∃ x9, mu = [dtM (kmN rowK (.inl rowK_fit) rowK_inj) E (numE (firsts (rows.take i)))] ∧ rho = [some (.dat M.toD), some (.dat (.str M.L)), some (.dat (natD M.b)), some (.dat (.tup (M.ends.map natD))), some (.dat (.tup (M.steps.map rowD))), some (.dat (.lst (sl.map natD))), some (.dat (natD (cnt1 sl))), some (.dat (.lst (rows.map rowK))), some (.cel 0), x9, none, none, none, x13, none, x15]) ⟨_, rfl, rfl⟩ (fun i d rho mu K hd hp ke => ?_) (fun rho mu hp => ?_)
    · obtain ⟨x9, rfl, rfl⟩ := hp
      rw [List.getElem?_map] at hd
      obtain ⟨r, hr, rfl⟩ := Option.map_eq_some_iff.mp hd
      refine ⟨rfl, ?_⟩
      refine setd_num (fit := .inl rowK_fit) (inj := rowK_inj) (rows := rows.take i) (r := r) rfl (by rw [List.length_take]; omega) fun d => ?_
      have e : rows.take (i + 1) = rows.take i ++ [r] := by rw [List.take_add_one, hr]; rfl
      rw [← e]
      exact ke _ _ ⟨_, rfl, rfl⟩
    · obtain ⟨x9, rfl, rfl⟩ := hp
      rw [List.length_map, List.take_length]
      refine comp_list (xs := rows) (gd := rowK) (v := fun r => natD (posIn (firsts rows) r)) (by omega) (fun r hr G g => ?_) ?_
      · exact nget_run (kmN rowK (.inl rowK_fit) rowK_inj) (k := r) (v := posIn (firsts rows) r) (l := numE (firsts rows)) (ndic_cel (m := kmN rowK (.inl rowK_fit) rowK_inj) rfl) (numE_look (nodup_firsts rows) ((mem_firsts rows).mpr hr)) g
      · have e : (rows.map fun r => natD (posIn (firsts rows) r)) = (nums rows).map natD := by
          unfold nums
          rw [List.map_map]
          rfl
        rw [e]
        refine ⟨M.steps.length - cnt1 sl, by omega, nums rows, cnt1 sl, _, _, _, _, _, ?_, .inr ⟨sl, pt, by rw [hrows], rfl⟩, rfl, rfl, rfl⟩
        rw [← hrows]
        exact pt.step ok
  · have hmany : cnt1 sl ≤ many := by omega
    obtain ⟨sll, st⟩ : sl.length = M.steps.length ∧ Stable M fun i => sl.getD i 0 := by
      rcases pv with rfl | ⟨pl, pp, rfl, rfl⟩
      · omega
      · exact ⟨pt.len, pp.stable ok hmany⟩
    clear pv hmany hm
    have sget : ∀ {r : Nat}, r < M.steps.length → sl[r]? = some (sl.getD r 0) := fun {r} h => getD_at (by rw [sll]; exact h)
    refine ⟨by show 1 ≤ 1000; omega, ?_⟩
    refine on_some (natD_at (sget ok.begin)) ?_
    refine ⟨rfl, ?_⟩
    refine ⟨fun m rho mu => ∃ (line : List (List Nat × Nat)) (rs : List Nat) (at' : Nat) (x13 : Option DV), Bfs (M.cls fun r => sl.getD r 0) M.L line at' 0 ∧ Reps M (fun r => sl.getD r 0) line rs ∧ at' ≤ rs.length ∧ m = M.steps.length - at' ∧
      mu = [.lst (rs.map natD), dtM kmI E (numE (line.map (·.2)))] ∧
      rho = [some (.dat M.toD), some (.dat (.str M.L)), some (.dat (natD M.b)), some (.dat (.tup (M.ends.map natD))), some (.dat (.tup (M.steps.map rowD))), some (.dat (.lst (sl.map natD))), some (.dat (natD many)), x7, x8, x9, some (.cel 0), some (.cel 1), some (.dat (natD at')), x13, none, x15],
      ⟨_, [([], sl.getD M.b 0)], [M.b], 0, _, Bfs.start, ⟨rfl, fun i r p h1 h2 => by
        cases i with
        | zero => cases h1; cases h2; exact ⟨rfl, ok.begin⟩
        | succ i => cases h1⟩, Nat.zero_le _, rfl, rfl, rfl⟩, fun m rho mu hw => ?_⟩
    obtain ⟨line, rs, at', x13, B, Rp, fl, rfl, rfl, rfl⟩ := hw
    have few := Rp.few B.nd
    refine itD (p := (at' : Int) < (((rs.map natD).length : Nat) : Int)) (fun hlt => ?_) (fun hlt => ?_)
    · rw [List.length_map] at hlt
      have hlt : at' < rs.length := by omega
      have hr : rs[at']? = some rs[at'] := List.getElem?_eq_getElem hlt
      have hq : line[at']? = some (line[at']'(by rw [← Rp.len]; exact hlt)) := List.getElem?_eq_getElem _
      generalize rs[at'] = r at hr
      generalize line[at']'_ = e at hq
      obtain ⟨er, rl⟩ := Rp.at' _ _ _ hr hq
      refine on_some (natD_at hr) ?_
      refine on_some (rowD_at (ok.row rl)) ?_
      have rowlen := row_len M r
      refine for_inv (fun j rho mu => ∃ (line' : List (List Nat × Nat)) (rs' : List Nat) (x13 : Option DV), Bfs (M.cls fun r => sl.getD r 0) M.L line' at' j ∧ Reps M (fun r => sl.getD r 0) line' rs' ∧ rs'[at']? = some r ∧ line'[at']? = some e ∧
        mu = [.lst (rs'.map natD), dtM kmI E (numE (line'.map (·.2)))] ∧
        rho = [some (.dat M.toD), some (.dat (.str M.L)), some (.dat (natD M.b)), some (.dat (.tup (M.ends.map natD))), some (.dat (.tup (M.steps.map rowD))), some (.dat (.lst (sl.map natD))), some (.dat (natD many)), x7, x8, x9, some (.cel 0), some (.cel 1), some (.dat (natD at')), x13, none, x15])
        ⟨line, rs, _, B, Rp, hr, hq, rfl, rfl⟩ (fun j d rho mu K hd hp ke => ?_) (fun rho mu hp => ?_)
      · obtain ⟨line', rs', x13, B', Rp', hr', hq', rfl, rfl⟩ := hp
        have few' := Rp'.few B'.nd
        rw [List.getElem?_map] at hd
        obtain ⟨v, hv, rfl⟩ := Option.map_eq_some_iff.mp hd
        obtain ⟨c, hc, rfl⟩ : ∃ c, M.L[j]? = some c ∧ M.stp r c = v := by
          unfold Mach.row at hv
          rw [List.getElem?_map] at hv
          obtain ⟨c, hc, e⟩ := Option.map_eq_some_iff.mp hv
          exact ⟨c, hc, e⟩
        have hcm := List.mem_of_getElem? hc
        obtain ⟨_, _, _, tl⟩ := ok.stp rl hcm
        have stp : (M.cls fun r => sl.getD r 0).step e.2 c = some (sl.getD (M.stp r c) 0) := by
          rw [← er]
          exact st.cls_step rl hcm
        refine on_some (natD_at (sget tl)) ?_
        refine nin_run kmI (k := sl.getD (M.stp r c) 0) (l := numE (line'.map (·.2))) (ndic_cel (m := kmI) rfl) ?_
        rw [num_has]
        by_cases hin : sl.getD (M.stp r c) 0 ∈ line'.map (·.2)
        · rw [decide_eq_true hin]
          exact ke _ _ ⟨line', rs', _, B'.old hq' hc (fun t ht => by rw [stp] at ht; cases ht; exact hin), Rp', hr', hq', rfl, rfl⟩
        · rw [decide_eq_false hin]
          refine on_some (natD_at (sget tl)) ?_
          have elen : ((numE (line'.map (·.2))).map fun p => kmI.kd p.1).length = (line'.map (·.2)).length := by rw [List.length_map, numE_len]
          refine nput_run kmI (w := E) (j := 1) (mu := [.lst (rs'.map natD), dtM kmI E (numE (line'.map (·.2)))]) (k := sl.getD (M.stp r c) 0) (v := ((numE (line'.map (·.2))).map fun p => kmI.kd p.1).length) (l := numE (line'.map (·.2))) rfl (by rw [numE_len, List.length_map, ← Rp'.len]; omega) ?_
          rw [elen, num_put _ _ hin]
          refine ⟨rfl, ?_⟩
          refine ⟨by rw [List.length_map]; omega, ?_⟩
          have fl' : at' < rs'.length := (List.getElem?_eq_some_iff.mp hr').1
          refine ke _ _ ⟨line' ++ [(e.1 ++ [c], sl.getD (M.stp r c) 0)], rs' ++ [M.stp r c], _, B'.new ok.letters.1 hq' hc stp hin, Rp'.snoc tl, ?_, ?_, ?_, rfl⟩
          · rw [List.getElem?_append_left fl']
            exact hr'
          · rw [List.getElem?_append_left (by rw [← Rp'.len]; exact fl')]
            exact hq'
          · rw [List.map_append, List.map_append]
            rfl
      · obtain ⟨line', rs', x13, B', Rp', hr', hq', rfl, rfl⟩ := hp
        rw [List.length_map, rowlen] at B'
        have few' := Rp'.few B'.nd
        have fl' : at' < rs'.length := (List.getElem?_eq_some_iff.mp hr').1
        exact ⟨M.steps.length - (at' + 1), by omega, line', rs', at' + 1, _, B'.row (Nat.le_refl _), Rp', by omega, rfl, rfl, rfl⟩
    · rw [List.length_map] at hlt
      have hls := st.least ok B (by rw [← Rp.len]; omega) Rp.len Rp.at'
      refine ⟨rfl, ?_⟩
      refine comp_list (xs := rs) (gd := natD) (v := fun r => rowD (M.L.map fun c => posIn (line.map (·.2)) (sl.getD (M.stp r c) 0))) (by omega) (fun r hr G g => ?_) ?_
      · obtain ⟨i, hi⟩ := List.mem_iff_getElem?.mp hr
        have hil := (List.getElem?_eq_some_iff.mp hi).1
        have hp : line[i]? = some (line[i]'(by rw [← Rp.len]; exact hil)) := List.getElem?_eq_getElem _
        generalize line[i]'_ = p at hp
        obtain ⟨er, rl⟩ := Rp.at' i r p hi hp
        refine on_some (rowD_at (ok.row rl)) ?_
        have rowlen := row_len M r
        refine comp_list (xs := M.row r) (gd := natD) (v := fun t => natD (posIn (line.map (·.2)) (sl.getD t 0))) (by omega) (fun t ht G g => ?_) ?_
        · refine on_some (natD_at (sget (row_in ok rl ht))) ?_
          refine nget_run kmI (k := sl.getD t 0) (v := posIn (line.map (·.2)) (sl.getD t 0)) (l := numE (line.map (·.2))) (ndic_cel (m := kmI) rfl) (numE_look B.nd ?_) ?_
          rotate_left
          · exact g
          unfold Mach.row at ht
          obtain ⟨c, hc, rfl⟩ := List.mem_map.mp ht
          obtain ⟨m, hm⟩ := List.mem_iff_getElem?.mp hc
          refine B.done i p m c hp hm (.inl (by omega)) _ ?_
          rw [← er]
          exact st.cls_step rl hc
        · have e3 : ((M.row r).map fun t => natD (posIn (line.map (·.2)) (sl.getD t 0))) = (M.L.map fun c => posIn (line.map (·.2)) (sl.getD (M.stp r c) 0)).map natD := by
            unfold Mach.row
            rw [List.map_map, List.map_map]
            rfl
          rw [e3]
          exact g
      · show dCompL _ _ _ _ _ (enumD 0 (rs.map natD)) _ _
        rw [enumD_map natD rs]
        refine comp_filt (xs := List.range rs.length) (v := natD) (p := fun i => decide (rs.getD i 0 ∈ M.ends)) (by rw [List.length_range]; omega) (fun i hi G N g1 g2 => ?_) ?_
        · have hi := List.mem_range.mp hi
          have ei : (rs.map natD).getD i .non = natD (rs.getD i 0) := by
            rw [List.getD_eq_getElem?_getD, List.getElem?_map, List.getD_eq_getElem?_getD, List.getElem?_eq_getElem hi]
            rfl
          rw [ei]
          refine ⟨rfl, ?_⟩
          refine ⟨rfl, nat_flat _, ?_⟩
          rw [inD_nat]
          refine itD (fun h => ?_) (fun h => ?_)
          · exact g1 (decide_eq_true h)
          · exact g2 (decide_eq_false h)
        · refine ⟨by show 4 ≤ 1000; omega, ?_⟩
          have w := q _ hls (by show (rs.map _).length ≤ _; rw [List.length_map]; omega)
          have e4 : (rs.map fun r => rowD (M.L.map fun c => posIn (line.map (·.2)) (sl.getD (M.stp r c) 0))) = (rs.map fun r => M.L.map fun c => posIn (line.map (·.2)) (sl.getD (M.stp r c) 0)).map rowD := by
            rw [List.map_map]
            rfl
          rw [e4]
          exact w

end Dx

namespace Dx
open PySem PySem.Spec PyProof.Rows L2
open Evl (Ex)
variable [Tb]
/-! #### the contrary of a machine -/
def Mach.other (M : Mach) : Mach := ⟨M.L, M.b, (List.range M.steps.length).filter fun r => !decide (r ∈ M.ends), M.steps⟩
theorem Mach.Ok.other {M : Mach} (h : M.Ok) : M.other.Ok where
  letters := h.letters
  len := h.len
  rooms := h.rooms
  rows := h.rows
  begin := h.begin
  ends := fun e he => List.mem_range.mp (List.mem_filter.mp he).1
  few := by
    have := List.length_filter_le (fun r => !decide (r ∈ M.ends)) (List.range M.steps.length)
    rw [List.length_range] at this
    exact Nat.le_trans this h.rooms.2
  rise := List.Pairwise.filter _ List.pairwise_lt_range
theorem Mach.Ok.other_takes {M : Mach} (h : M.Ok) (t : List Nat) (ht : Over M.L t) : M.other.takes t = !M.takes t := by
  have hg := h.go (t := t) h.begin ht
  show decide (M.go M.b t ∈ (List.range M.steps.length).filter fun r => !decide (r ∈ M.ends)) = !decide (M.go M.b t ∈ M.ends)
  by_cases c : M.go M.b t ∈ M.ends
  · rw [decide_eq_true c]
    refine decide_eq_false fun z => ?_
    have := (List.mem_filter.mp z).2
    rw [decide_eq_true c] at this
    cases this
  · rw [decide_eq_false c]
    refine decide_eq_true (List.mem_filter.mpr ⟨List.mem_range.mpr hg, ?_⟩)
    rw [decide_eq_false c]
    rfl
theorem LeastOf.len {L : List Nat} {lang : List Nat → Bool} {R : Mach} (l : LeastOf L lang R) : R.L = L := by
  obtain ⟨ws, f, rfl⟩ := l
  rfl
theorem LeastOf.took {L : List Nat} {lang : List Nat → Bool} {R : Mach} (l : LeastOf L lang R) (nd : L.Nodup) {t : List Nat} (ht : Over L t) : R.takes t = lang t := by
  obtain ⟨ws, f, rfl⟩ := l
  exact f.takes nd ht
theorem LeastOf.ok {L : List Nat} {lang : List Nat → Bool} {R : Mach} (l : LeastOf L lang R) (hl : IsLetters L) (ll : 0 < L.length ∧ L.length ≤ 26) (few : R.steps.length ≤ 1000) : R.Ok := by
  obtain ⟨ws, f, rfl⟩ := l
  refine f.ok hl ll ?_
  unfold machOf at few
  rwa [List.length_map] at few
def t_contrary : DS :=
  (dSeq (dAsg (dVar 0) (dgTup 4 (dgCons (dgN 1) (dgCons (dgN 2) (dgCons (dgN 3) (dgCons (dgN 4) dgNil))))))
  (dRet (dCall S_least (aCons (dTup (aCons (dVar 1) (aCons (dVar 2) (aCons (dCB dTupOf (aCons (dFrz (fLc (iRg1 (aCons (dCB dLen (aCons (dVar 4) aNil)) aNil)) (dgN 5) (dTest (dOp (dInQ true) (dVar 5) (dVar 3))) (dVar 5) [5])) aNil)) (aCons (dVar 4) aNil))))) aNil))))
def S_contrary : FS := fun xs mu Q => ∃ M : Mach, xs = [.dat M.toD] ∧ mu = [] ∧ M.Ok ∧ ∀ R, LeastOf M.L (fun t => !M.takes t) R → R.steps.length ≤ M.steps.length → Q (.dv (.dat R.toD)) []
theorem len_contrary : ∀ xs mu Q, S_contrary xs mu Q → xs.length = 1 := fun xs mu Q h => by
  obtain ⟨_, rfl, _⟩ := h
  rfl
theorem rd_contrary : Body t_contrary ["machine", "letters", "begin", "ends", "steps", "room"] S_contrary := fun xs mu Q h => by
  obtain ⟨M, rfl, rfl, ok, q⟩ := h
  have n1000 := ok.rooms.2
  refine ⟨rfl, ?_⟩
  refine ⟨by rw [List.length_map]; omega, by rw [List.length_map]; omega, ?_⟩
  rw [List.length_map, Int.toNat_natCast]
  refine comp_filt (xs := List.range M.steps.length) (gd := fun (i : Nat) => D.int ((0 : Int) + (i : Int))) (v := natD) (p := fun r => !decide (r ∈ M.ends)) (by rw [List.length_range]; omega) (fun r hr G N g1 g2 => ?_) ?_
  · refine ⟨rfl, nat_flat _, ?_⟩
    rw [int_nat, inD_nat]
    by_cases c : r ∈ M.ends
    · rw [decide_eq_true c]
      exact g2 (by rw [decide_eq_true c]; rfl)
    · rw [decide_eq_false c]
      exact g1 (by rw [decide_eq_false c]; rfl)
  · refine ⟨by show 4 ≤ 1000; omega, ?_⟩
    refine ⟨rfl, M.other, rfl, rfl, ok.other, fun R hR hn => ?_⟩
    exact q R (hR.congr ok.other_takes) hn
def t_w_rising_machine : DS :=
  (dSeq (dSet 3 (dOp dAdd (dC (.int 1)) (dCallR S_w_pick (aCons (dVar 0) (aCons (dVar 2) aNil)))))
  (dSeq (dSet 4 (dCB dTupOf (aCons (dFrz (fLc (iRg1 (aCons (dVar 3) aNil)) (dgN 6) (dTest (dOp dEq (dCallR S_w_pick (aCons (dVar 0) (aCons (dC (.int 2)) aNil))) (dC (.int 0)))) (dVar 6) [6])) aNil)))
  (dSeq (dSet 5 (dNew (fLst aNil)))
  (dSeq (dFor (iRg1 (aCons (dVar 3) aNil)) (dgN 6)
  (dScope (dSeq (dSet 7 (dNew (fLst aNil)))
  (dSeq (dFor (iStrD (dVar 1)) (dgN 8)
  (dSeq (dSet 9 (dOp dEq (dCallR S_w_pick (aCons (dVar 0) (aCons (dC (.int 2)) aNil))) (dC (.int 0))))
  (dDrop (dBM "list" dAppend (dVar 7) (aCons (dOp dIx (dFrz (fLst (aCons (dOp dAdd (dVar 6) (dCallR S_w_pick (aCons (dVar 0) (aCons (dOp dSub (dVar 3) (dVar 6)) aNil)))) (aCons (dVar 6) aNil)))) (dCB dInt (aCons (dVar 9) aNil))) aNil)))))
  (dDrop (dBM "list" dAppend (dVar 5) (aCons (dCB dTupOf (aCons (dVar 7) aNil)) aNil)))))))
  (dRet (dTup (aCons (dVar 1) (aCons (dC (.int 0)) (aCons (dVar 4) (aCons (dCB dTupOf (aCons (dVar 5) aNil)) aNil))))))))))
def S_w_rising_machine : FS := S_w_machine
theorem len_w_rising_machine : ∀ xs mu Q, S_w_rising_machine xs mu Q → xs.length = 3 := len_w_machine
theorem rd_w_rising_machine : Body t_w_rising_machine ["_law_flow_here", "_law_letters_here", "_law_most", "_law_rooms", "_law_ends", "_law_steps", "_law_room_here", "_law_row", "_law_letter", "_law_stays"] S_w_rising_machine := fun xs mu Q h => by
  obtain ⟨m, l, n, rfl, fo, rfl, hl, l0, l1, n0, n1, q⟩ := h
  refine ⟨fo.live, rfl, m, n, rfl, fo, rfl, by omega, by omega, fun r m1 f1 r0 r1 => ?_⟩
  obtain ⟨k, rfl⟩ := Int.eq_ofNat_of_zero_le r0
  have en : ((1 : Int) + ((k : Nat) : Int)).toNat = k + 1 := by omega
  refine ⟨by omega, by omega, ?_⟩
  rw [en]
  refine comp_inv (fun i acc mu => ∃ es m', acc = es.map natD ∧ mu = [m'] ∧ FlowOk m' ∧ es.length ≤ i ∧ es.Pairwise (· < ·) ∧ ∀ e ∈ es, e < i) ⟨[], m1, rfl, rfl, f1, Nat.le_refl _, .nil, by simp⟩ (fun i d acc mu K hd hp ke => ?_) (fun acc mu hp => ?_)
  · obtain ⟨es, m', rfl, rfl, f', el, er, eb⟩ := hp
    obtain ⟨rfl, hi⟩ := rng_at hd
    refine ⟨f'.live, rfl, m', 2, rfl, f', rfl, by omega, by omega, fun r m2 f2 r0 r1 => ?_⟩
    refine ⟨okD_int _ _, okD_int _ _, ?_⟩
    refine itI (fun _ => ?_) (fun _ => ?_)
    · refine ⟨by rw [List.length_map]; omega, ke _ _ ⟨es ++ [i], m2, ?_, rfl, f2, by rw [List.length_append]; simp; omega, rise_app er eb, fun e he => ?_⟩⟩
      · rw [List.map_append]
        show _ = _ ++ [D.int ((i : Nat) : Int)]
        rw [Int.zero_add]
      · rcases List.mem_append.mp he with z | z
        · have := eb e z; omega
        · rw [List.mem_singleton] at z; omega
    · exact ke _ _ ⟨es, m2, rfl, rfl, f2, by omega, er, fun e he => by have := eb e he; omega⟩
  · obtain ⟨es, m2, rfl, rfl, f2, el, er, eb⟩ := hp
    rw [rng_len] at el eb
    refine ⟨by show 0 ≤ 1000; omega, ?_⟩
    refine ⟨by omega, by omega, ?_⟩
    rw [en]
    refine for_inv (fun i rho mu => ∃ rows m' x y z w, mu = [m', .lst (rows.map rowD)] ∧ FlowOk m' ∧ rho = [some (.cel 0), some (.dat (.str l)), some (.dat (.int n)), some (.dat (.int ((1 : Int) + ((k : Nat) : Int)))), some (.dat (.tup (es.map natD))), some (.cel 1), x, y, z, w] ∧ rows.length = i ∧ ∀ r ∈ rows, r.length = l.length ∧ ∀ q ∈ r, q < k + 1) ⟨[], m2, _, _, _, _, rfl, f2, rfl, rfl, by simp⟩ (fun i d rho mu K hd hp ke => ?_) (fun rho mu hp => ?_)
    · obtain ⟨rows, m3, x, y, z, w, rfl, f3, rfl, rl, rw'⟩ := hp
      obtain ⟨rfl, hi⟩ := rng_at hd
      refine ⟨by show 0 ≤ 1000; omega, ?_⟩
      refine for_inv (fun j rho mu => ∃ row m' z w, mu = [m', .lst (rows.map rowD), .lst (row.map natD)] ∧ FlowOk m' ∧ rho = [some (.cel 0), some (.dat (.str l)), some (.dat (.int n)), some (.dat (.int ((1 : Int) + ((k : Nat) : Int)))), some (.dat (.tup (es.map natD))), some (.cel 1), some (.dat (.int ((0 : Int) + (i : Int)))), some (.cel 2), z, w] ∧ row.length = j ∧ ∀ q ∈ row, q < k + 1) ⟨[], m3, _, _, rfl, f3, rfl, rfl, by simp⟩ (fun j d rho mu K2 hd hp ke2 => ?_) (fun rho mu hp => ?_)
      · obtain ⟨row, m4, z, w, rfl, f4, rfl, jl, jb⟩ := hp
        have hj : j < l.length := by
          have := (List.getElem?_eq_some_iff.mp hd).1
          rwa [List.length_map] at this
        refine ⟨f4.live, rfl, m4, 2, rfl, f4, rfl, by omega, by omega, fun r m5 f5 r0 r1 => ?_⟩
        refine ⟨okD_int _ _, okD_int _ _, ?_⟩
        refine ⟨rfl, ?_⟩
        refine ⟨f5.live, rfl, m5, _, rfl, f5, rfl, by omega, by omega, fun s m6 f6 s0 s1 => ?_⟩
        obtain ⟨v, rfl⟩ := Int.eq_ofNat_of_zero_le s0
        refine ⟨by show 2 ≤ 1000; omega, ?_⟩
        cases hb : eqD (.int r) (.int 0) with
        | true =>
          refine ⟨by rw [List.length_map]; omega, ke2 _ _ ⟨row ++ [i], m6, _, _, ?_, f6, rfl, by rw [List.length_append, jl]; rfl, fun q hq => ?_⟩⟩
          · rw [List.map_append]
            show [_, _, MC.lst (_ ++ [D.int ((0 : Int) + (i : Int))])] = _
            rw [int_nat]
            rfl
          · rcases List.mem_append.mp hq with z | z
            · exact jb q z
            · rw [List.mem_singleton] at z; omega
        | false =>
          refine ⟨by rw [List.length_map]; omega, ke2 _ _ ⟨row ++ [i + v], m6, _, _, ?_, f6, rfl, by rw [List.length_append, jl]; rfl, fun q hq => ?_⟩⟩
          · rw [List.map_append]
            show [_, _, MC.lst (_ ++ [D.int ((0 : Int) + (i : Int) + (v : Int))])] = _
            have e : (0 : Int) + (i : Int) + (v : Int) = ((i + v : Nat) : Int) := by omega
            rw [e]
            rfl
          · rcases List.mem_append.mp hq with z | z
            · exact jb q z
            · rw [List.mem_singleton] at z; omega
      · obtain ⟨row, m4, z, w, rfl, f4, rfl, jl, jb⟩ := hp
        rw [List.length_map] at jl
        refine ⟨rfl, ?_⟩
        refine ⟨by rw [List.length_map]; omega, ?_⟩
        refine ke _ _ ⟨rows ++ [row], m4, _, _, _, _, by rw [List.map_append]; rfl, f4, rfl, by rw [List.length_append, rl]; rfl, fun r hr => ?_⟩
        rcases List.mem_append.mp hr with z | z
        · exact rw' r z
        · rw [List.mem_singleton] at z
          subst z
          exact ⟨jl, jb⟩
    · obtain ⟨rows, m3, x, y, z, w, rfl, f3, rfl, rl, rw'⟩ := hp
      rw [rng_len] at rl
      refine ⟨by show 4 ≤ 1000; omega, ?_⟩
      refine q ⟨l, 0, es, rows⟩ m3 f3 ⟨hl, ⟨l0, l1⟩, ?_, ?_, ?_, ?_, ?_, er⟩ rfl ?_
      · show 0 < rows.length ∧ rows.length ≤ 1000
        omega
      · intro r hr
        show r.length = l.length ∧ ∀ q ∈ r, q < rows.length
        rw [rl]
        exact rw' r hr
      · show 0 < rows.length
        omega
      · intro e he
        show e < rows.length
        rw [rl]
        exact eb e he
      · show es.length ≤ 1000
        omega
      · show ((rows.length : Nat) : Int) ≤ n
        omega
def t_w_some : DS :=
  (dSeq (dSet 1 (dOp dEq (dCallR S_w_pick (aCons (dVar 0) (aCons (dC (.int 3)) aNil))) (dC (.int 0))))
  (dSeq (dSet 2 (dCallR S_w_letters (aCons (dVar 0) (aCons (dOp dAdd (dC (.int 1)) (dCallR S_w_pick (aCons (dVar 0) (aCons (dC (.int 3)) aNil)))) aNil))))
  (dSeq (dIf (dTest (dVar 1))
  (dRet (dCallR S_w_rising_machine (aCons (dVar 0) (aCons (dVar 2) (aCons (dC (.int 6)) aNil)))))
  dNext)
  (dRet (dCallR S_w_machine (aCons (dVar 0) (aCons (dVar 2) (aCons (dC (.int 6)) aNil))))))))
def S_w_some : FS := fun xs mu Q => ∃ m, mu = [m] ∧ FlowOk m ∧ xs = [.cel 0] ∧ ∀ (M : Mach) m', FlowOk m' → M.Ok → M.L.length ≤ 3 → M.steps.length ≤ 6 → Q (.dv (.dat M.toD)) [m']
theorem len_w_some : ∀ xs mu Q, S_w_some xs mu Q → xs.length = 1 := fun xs mu Q h => by
  obtain ⟨m, _, _, rfl, _⟩ := h
  rfl
theorem rd_w_some : Body t_w_some ["_law_flow_here", "_law_rising", "_law_letters_here"] S_w_some := fun xs mu Q h => by
  obtain ⟨m, rfl, fo, rfl, q⟩ := h
  refine ⟨fo.live, rfl, m, 3, rfl, fo, rfl, by omega, by omega, fun r m1 f1 r0 r1 => ?_⟩
  refine ⟨okD_int _ _, okD_int _ _, ?_⟩
  refine ⟨f1.live, rfl, m1, 3, rfl, f1, rfl, by omega, by omega, fun s m2 f2 s0 s1 => ?_⟩
  refine ⟨f2.live, rfl, m2, 1 + s, rfl, f2, rfl, by omega, by omega, fun l m3 f3 hl ll => ?_⟩
  refine itI (fun _ => ?_) (fun _ => ?_)
  · refine ⟨f3.live, rfl, m3, l, 6, rfl, f3, rfl, hl, by omega, by omega, by omega, by omega, fun M m4 f4 ok eL hs => ?_⟩
    exact q M m4 f4 ok (by rw [eL]; omega) (by omega)
  · refine ⟨f3.live, rfl, m3, l, 6, rfl, f3, rfl, hl, by omega, by omega, by omega, by omega, fun M m4 f4 ok eL hs => ?_⟩
    exact q M m4 f4 ok (by rw [eL]; omega) (by omega)

end Dx

namespace Dx
open PySem PySem.Spec PyProof.Rows L2
open Evl (Ex)
variable [Tb]
/-! #### behind, ahead of a word -/
theorem mach_plain {M : Mach} (ok : M.Ok) : plainD 5 M.toD = true := by
  have hn : ∀ (n : Nat) (l : List Nat), plainDs n (l.map natD) = true := fun n l => plains_of fun d hd => by
    obtain ⟨k, _, rfl⟩ := List.mem_map.mp hd
    cases n <;> rfl
  have n1000 := ok.rooms.2
  have e1000 := ok.few
  have l26 := ok.len.2
  unfold Mach.toD
  rw [plainD, plainDs, plainDs, plainDs, plainDs, plainDs, plainD, plainD, plainD, hn, Bool.and_eq_true_iff]
  refine ⟨decide_eq_true (by show 4 ≤ _; omega), ?_⟩
  have h1 : (M.L.all (· < 0x110000)) = true := List.all_eq_true.mpr fun c hc => by
    have := abc_small (ok.letters.2 c hc)
    exact decide_eq_true (by omega)
  have h2 : plainDs 3 (M.steps.map rowD) = true := plains_of fun d hd => by
    obtain ⟨r, hr, rfl⟩ := List.mem_map.mp hd
    unfold rowD
    rw [plainD, hn, Bool.and_true]
    have := (ok.rows r hr).1
    exact decide_eq_true (by rw [List.length_map]; omega)
  rw [h1, h2]
  have h3 : decide ((M.ends.map natD).length ≤ 90000) = true := decide_eq_true (by rw [List.length_map]; omega)
  have h4 : decide ((M.steps.map rowD).length ≤ 90000) = true := decide_eq_true (by rw [List.length_map]; omega)
  rw [h3, h4]
  have h5 : plainD 4 (natD M.b) = true := rfl
  rw [h5]
  rfl
def Mach.from (M : Mach) (r : Nat) : Mach := ⟨M.L, r, M.ends, M.steps⟩
theorem Mach.Ok.from {M : Mach} (h : M.Ok) {r : Nat} (hr : r < M.steps.length) : (M.from r).Ok where
  letters := h.letters
  len := h.len
  rooms := h.rooms
  rows := h.rows
  begin := hr
  ends := h.ends
  few := h.few
  rise := h.rise
theorem Mach.from_takes (M : Mach) (w t : List Nat) : (M.from (M.go M.b w)).takes t = M.takes (w ++ t) := by
  show decide (M.go (M.go M.b w) t ∈ M.ends) = decide (M.go M.b (w ++ t) ∈ M.ends)
  rw [M.go_app]
def Mach.upto (M : Mach) (w : List Nat) : Mach := ⟨M.L, M.b, (List.range M.steps.length).filter fun r => decide (M.go r w ∈ M.ends), M.steps⟩
theorem Mach.Ok.upto {M : Mach} (h : M.Ok) (w : List Nat) : (M.upto w).Ok where
  letters := h.letters
  len := h.len
  rooms := h.rooms
  rows := h.rows
  begin := h.begin
  ends := fun e he => List.mem_range.mp (List.mem_filter.mp he).1
  few := by
    have := List.length_filter_le (fun r => decide (M.go r w ∈ M.ends)) (List.range M.steps.length)
    rw [List.length_range] at this
    exact Nat.le_trans this h.rooms.2
  rise := List.Pairwise.filter _ List.pairwise_lt_range
theorem Mach.Ok.upto_takes {M : Mach} (h : M.Ok) (w t : List Nat) (ht : Over M.L t) : (M.upto w).takes t = M.takes (t ++ w) := by
  have hg := h.go (t := t) h.begin ht
  show decide (M.go M.b t ∈ (List.range M.steps.length).filter fun r => decide (M.go r w ∈ M.ends)) = decide (M.go M.b (t ++ w) ∈ M.ends)
  rw [M.go_app]
  refine decide_eq_decide.mpr ⟨fun z => of_decide_eq_true (List.mem_filter.mp z).2, fun z => List.mem_filter.mpr ⟨List.mem_range.mpr hg, decide_eq_true z⟩⟩
def t_behind : DS :=
  (dSeq (dAsg (dVar 0) (dgTup 4 (dgCons (dgN 2) (dgCons (dgN 3) (dgCons (dgN 4) (dgCons (dgN 5) dgNil))))))
  (dRet (dCall S_least (aCons (dTup (aCons (dVar 2) (aCons (dCall S_room_behind (aCons (dVar 0) (aCons (dVar 3) (aCons (dVar 1) aNil)))) (aCons (dVar 4) (aCons (dVar 5) aNil))))) aNil))))
def S_behind : FS := fun xs mu Q => ∃ (M : Mach) (w : List Nat), xs = [.dat M.toD, .dat (.str w)] ∧ mu = [] ∧ M.Ok ∧ w.length ≤ 1000 ∧ Over M.L w ∧ ∀ R, LeastOf M.L (fun t => M.takes (w ++ t)) R → R.steps.length ≤ M.steps.length → Q (.dv (.dat R.toD)) []
theorem len_behind : ∀ xs mu Q, S_behind xs mu Q → xs.length = 2 := fun xs mu Q h => by
  obtain ⟨_, _, rfl, _⟩ := h
  rfl
theorem rd_behind : Body t_behind ["machine", "word", "letters", "begin", "ends", "steps"] S_behind := fun xs mu Q h => by
  obtain ⟨M, w, rfl, rfl, ok, wl, wc, q⟩ := h
  refine ⟨rfl, ?_⟩
  refine ⟨rfl, M, M.b, w, rfl, rfl, ok, ok.begin, wl, wc, ?_⟩
  refine ⟨by show 4 ≤ 1000; omega, ?_⟩
  refine ⟨rfl, M.from (M.go M.b w), rfl, rfl, ok.from (ok.go ok.begin wc), fun R hR hn => ?_⟩
  exact q R (hR.congr fun t ht => M.from_takes w t) hn
def t_ahead : DS :=
  (dSeq (dAsg (dVar 0) (dgTup 4 (dgCons (dgN 2) (dgCons (dgN 3) (dgCons (dgN 4) (dgCons (dgN 5) dgNil))))))
  (dSeq (dSet 6 (dFrz (fLc (iRg1 (aCons (dCB dLen (aCons (dVar 5) aNil)) aNil)) (dgN 7) (dTest (dOp (dInQ false) (dCall S_room_behind (aCons (dVar 0) (aCons (dVar 7) (aCons (dVar 1) aNil)))) (dVar 4))) (dVar 7) [7])))
  (dRet (dCall S_least (aCons (dTup (aCons (dVar 2) (aCons (dVar 3) (aCons (dCB dTupOf (aCons (dVar 6) aNil)) (aCons (dVar 5) aNil))))) aNil)))))
def S_ahead : FS := fun xs mu Q => ∃ (M : Mach) (w : List Nat), xs = [.dat M.toD, .dat (.str w)] ∧ mu = [] ∧ M.Ok ∧ w.length ≤ 1000 ∧ Over M.L w ∧ ∀ R, LeastOf M.L (fun t => M.takes (t ++ w)) R → R.steps.length ≤ M.steps.length → Q (.dv (.dat R.toD)) []
theorem len_ahead : ∀ xs mu Q, S_ahead xs mu Q → xs.length = 2 := fun xs mu Q h => by
  obtain ⟨_, _, rfl, _⟩ := h
  rfl
theorem rd_ahead : Body t_ahead ["machine", "word", "letters", "begin", "ends", "steps", "some", "room"] S_ahead := fun xs mu Q h => by
  obtain ⟨M, w, rfl, rfl, ok, wl, wc, q⟩ := h
  have n1000 := ok.rooms.2
  refine ⟨rfl, ?_⟩
  refine ⟨by rw [List.length_map]; omega, by rw [List.length_map]; omega, ?_⟩
  rw [List.length_map, Int.toNat_natCast]
  have fl := List.length_filter_le (fun r => decide (M.go r w ∈ M.ends)) (List.range M.steps.length)
  rw [List.length_range] at fl
  refine comp_filt (xs := List.range M.steps.length) (gd := fun (i : Nat) => D.int ((0 : Int) + (i : Int))) (v := natD) (p := fun r => decide (M.go r w ∈ M.ends)) (by rw [List.length_range]; omega) (fun r hr G N g1 g2 => ?_) ?_
  · rw [int_nat]
    refine ⟨rfl, M, r, w, rfl, rfl, ok, List.mem_range.mp hr, wl, wc, ?_⟩
    refine ⟨rfl, nat_flat _, ?_⟩
    rw [inD_nat]
    refine itD (fun h => ?_) (fun h => ?_)
    · exact g1 (decide_eq_true h)
    · exact g2 (decide_eq_false h)
  · refine ⟨by show 4 ≤ 1000; omega, ?_⟩
    refine ⟨rfl, M.upto w, rfl, rfl, ok.upto w, fun R hR hn => ?_⟩
    exact q R (hR.congr fun t ht => ok.upto_takes w t ht) hn

end Dx

namespace Dx
open PySem PySem.Spec PyProof.Rows L2
open Evl (Ex)
variable [Tb]
/-! #### dict([(word, True) for word in words]) -/
def prT (w : List Nat) : D := .tup [.str w, .bl true]
def fDictW : DCallF := fun xs mu Q => on1 xs fun x => ∃ ws : List (List Nat), ws.Nodup ∧ x = .dat (.lst (ws.map prT)) ∧ Q (setW ws) mu
def kvsW (ws : List (List Nat)) : List (Key × V) := ws.map fun w => (.inr (mkS w), V.bl true)
theorem kvsW_zip : ∀ ws : List (List Nat), (keysW ws).zip (List.replicate ws.length (V.bl true)) = kvsW ws
  | [] => rfl
  | w :: ws => by
    have ih := kvsW_zip ws
    unfold keysW at ih ⊢
    rw [List.map_cons, List.map_cons, List.length_cons, List.replicate_succ, List.zip_cons_cons, ih]
    rfl
theorem putK_new {acc : List (Key × V)} {k : Key} {v : V} (h : ∀ p ∈ acc, p.1 ≠ k) : putK acc k v = acc ++ [(k, v)] := by
  unfold putK
  rw [if_neg]
  intro z
  obtain ⟨p, hp, e⟩ := List.any_eq_true.mp z
  exact h p hp (of_decide_eq_true e)
theorem mergeW : ∀ (ws : List (List Nat)) (acc : List (Key × V)), ws.Nodup → (∀ w ∈ ws, ∀ p ∈ acc, p.1 ≠ .inr (mkS w)) → mergeK acc (kvsW ws) = acc ++ kvsW ws
  | [], acc, _, _ => by
    show acc = acc ++ []
    rw [List.append_nil]
  | w :: ws, acc, nd, h => by
    obtain ⟨n1, n2⟩ := List.nodup_cons.mp nd
    show mergeK (putK acc (.inr (mkS w)) (.bl true)) (kvsW ws) = _
    rw [putK_new (h w (by simp))]
    rw [mergeW ws _ n2 (fun u hu p hp => ?_)]
    · rw [List.append_assoc]
      rfl
    · rcases List.mem_append.mp hp with z | z
      · exact h u (by simp [hu]) p z
      · rw [List.mem_singleton] at z
        subst z
        intro e
        have e1 : mkS w = mkS u := by injection e
        have e2 : w = u := mkS_inj e1
        subst e2
        exact n1 hu
theorem pairs_rep {K : PySem.W.Frag} {F H : Hp} (e : Ex F H) : ∀ {ws : List (List Nat)} {vs : List V}, RepL F (ws.map prT) vs → ∃ ps : List Addr, vs = ps.map V.ref ∧ Paired (fun p kv => SqT K H p [kV kv.1, kv.2]) ps (kvsW ws)
  | [], vs, r => ⟨[], r.unnil, .nil⟩
  | w :: ws, vs, r => by
    obtain ⟨v, us, e1, a, b⟩ := r.uncons
    subst e1
    obtain ⟨ps, e2, pr⟩ := pairs_rep (K := K) e b
    subst e2
    have a : Rep F (.tup [.str w, .bl true]) v := a
    rw [Rep] at a
    obtain ⟨p, xs, e3, hp, rl⟩ := a
    subst e3
    obtain ⟨x, xs1, e4, rx, rl1⟩ := rl.uncons
    subst e4
    obtain ⟨y, xs2, e5, ry, rl2⟩ := rl1.uncons
    subst e5
    have e6 := rl2.unnil
    subst e6
    have e7 : x = .str (mkS w) := rv_str_out (F := F) (al := []) rx
    have e8 : y = .bl true := rv_bl_out (F := F) (al := []) ry
    subst e7
    subst e8
    exact ⟨p :: ps, rfl, .cons (.inl (.inl (e _ _ hp))) pr⟩
theorem repl_true (F : Hp) : ∀ n : Nat, RepL F (List.replicate n (D.bl true)) (List.replicate n (V.bl true))
  | 0 => .nil
  | n + 1 => .cons (by rw [Rep]) (repl_true F n)
theorem cDictW {X : Cx} (hc : X.calm = true) : CallF X (.type "dict") fDictW := ⟨_, call_dictP hc, fun F al mu H xs vs Q R c r q l => by
  obtain ⟨x, v, ev, rx, q⟩ := on1_out q r
  obtain ⟨ws, nd, ex, q⟩ := q
  subst ex
  have rx : Rep F (.lst (ws.map prT)) v := rx
  rw [Rep] at rx
  obtain ⟨a, us, e2, ha, rl⟩ := rx
  subst e2
  obtain ⟨ps, e3, pr⟩ := pairs_rep (K := X.K) c.ex rl
  subst e3
  refine ⟨a, ps, kvsW ws, ev, .inl (.inl (c.ex _ _ ha)), pr, fun p hp => ?_⟩
  rw [mergeW ws [] nd (fun w _ p hp => nomatch hp), List.nil_append, ← kvsW_zip]
  exact l F al (setW ws) mu p _ (Ext.loose hp) (c.loose hp) (c.not_al hp) hp rfl ⟨ex_none c.ex hp, _, upd_same, by rw [List.length_replicate, keysW_len], repl_true F _⟩ q⟩

end Dx

namespace Dx
open PySem PySem.Spec PyProof.Rows L2
open Evl (Ex)
variable [Tb]
/-! #### {k: v, k2: v2} -/
def fDK2 (tk tv tk2 tv2 : DE) : DF := fun rho mu Q => tk rho mu fun x mu1 => tv rho mu1 fun y mu2 => tk2 rho mu2 fun x2 mu3 => tv2 rho mu3 fun y2 mu4 => onD x fun kd => onD y fun d => onD x2 fun kd2 => onD y2 fun d2 => onSome (keyD kd) fun k => onSome (keyD kd2) fun k2 => Q (.dk (kput [k] k2) (vput [k] [d] k2 d2)) mu4
section
variable {X : Cx} {k v k' v' : Expr} {tk tv tk2 tv2 : DE} {pos : Pos}
theorem cf_dK2 (hk : CE X k tk) (hv : CE X v tv) (hk2 : CE X k' tk2) (hv2 : CE X v' tv2) : CF X (.Dict [some k, some k'] [v, v'] pos) (fDK2 tk tv tk2 tv2) := by
  obtain ⟨_, p1, g1⟩ := hk.ok
  obtain ⟨_, p2, g2⟩ := hv.ok
  obtain ⟨_, p3, g3⟩ := hk2.ok
  obtain ⟨_, p4, g4⟩ := hv2.ok
  refine ⟨_, pe_disp (pps_cons p1 p2 (pps_cons p3 p4 pps_nil)) rfl rfl (by simp) (by simp), fun F al rho mu σ H Q R S q l p hp => ?_⟩
  have E0 : Ext F al H F al (upd H p (.dK [])) := Ext.loose hp
  have C0 := S.toCels.loose (o := .dK []) hp
  have na := S.toCels.not_al hp
  have nF : F p = none := ex_none S.ex hp
  refine g1 F al rho mu σ _ _ _ (S.of C0 E0.ex E0.pf) q fun F1 al1 x mu1 v1 H1 E1 C1 r1 q1 => ?_
  refine g2 F1 al1 rho mu1 σ H1 _ _ (S.of C1 (E0.trans E1).ex (E0.trans E1).pf) q1 fun F2 al2 y mu2 v2 H2 E2 C2 r2 q2 => ?_
  have E02 := E1.trans E2
  refine g3 F2 al2 rho mu2 σ H2 _ _ (S.of C2 (E0.trans E02).ex (E0.trans E02).pf) q2 fun F3 al3 x2 mu3 v3 H3 E3 C3 r3 q3 => ?_
  have E03 := E02.trans E3
  refine g4 F3 al3 rho mu3 σ H3 _ _ (S.of C3 (E0.trans E03).ex (E0.trans E03).pf) q3 fun F4 al4 y2 mu4 v4 H4 E4 C4 r4 q4 => ?_
  have E04 := E03.trans E4
  obtain ⟨kd, e1, q5⟩ := onD_out q4
  obtain ⟨d, e2, q6⟩ := onD_out q5
  obtain ⟨kd2, e3, q7⟩ := onD_out q6
  obtain ⟨d2, e4, q8⟩ := onD_out q7
  obtain ⟨k1, h1, q9⟩ := onSome_out q8
  obtain ⟨k2, h2, q10⟩ := onSome_out q9
  clear q4 q5 q6 q7 q8 q9
  subst e1
  subst e2
  subst e3
  subst e4
  have r1' := ((r1.mono E2.ex E2.pf).mono E3.ex E3.pf).mono E4.ex E4.pf
  have r2' := (r2.mono E3.ex E3.pf).mono E4.ex E4.pf
  have r3' := r3.mono E4.ex E4.pf
  have ek1 := keyD_V r1' h1
  have ek2 := keyD_V r3' h2
  subst ek1
  subst ek2
  have hH4 : H4 p = some (.dK []) := E04.kp p _ na upd_same (plain_dK (a := p)).1
  have n4 : p ∉ al4 := fun z => by
    rcases E04.nc p z with w | w
    · exact na w
    · rw [upd_same] at w
      cases w
  have nF4 : F4 p = none := by
    cases w : F4 p with
    | none => rfl
    | some o =>
      rcases E04.nf p (by rw [w]; exact fun z => nomatch z) with z | z | z
      · exact absurd nF z
      · rw [upd_same] at z
        cases z
      · exact absurd z na
  refine ⟨hH4, [(k1, v2), (k2, v4)], rfl, by show 2 ≤ 15; omega, ?_⟩
  have E := E0.trans E04
  have ex : Ext F al H F4 al4 (upd H4 p (.dK (mergeK [] [(k1, v2), (k2, v4)]))) := ⟨E.ex, E.pf, E.nf, E.nc, fun a o ha h nt => by
    rw [upd_ne (fun z => by rw [z, hp] at h; cases h)]
    exact E.kp a o ha h nt, fun a h => by
    by_cases z : a = p
    · subst z
      rw [upd_same]
      exact fun z => nomatch z
    · rw [upd_ne z]
      exact E.dm a h⟩
  by_cases e : k1 = k2
  · subst e
    have e5 : kput [k1] k1 = [k1] := by
      unfold kput hasK
      simp
    have e6 : vput [k1] [d] k1 d2 = [d2] := by
      unfold vput hasK
      simp
    have e7 : mergeK [] [(k1, v2), (k1, v4)] = [(k1, v4)] := by
      unfold mergeK putK
      simp
    rw [e7] at ex ⊢
    rw [e5, e6] at q10
    refine l F4 al4 (.dk [k1] [d2]) mu4 p _ ex (C4.other n4 nF4 hH4 plain_dK) n4 hp rfl ⟨nF4, [v4], ?_, rfl, .cons r4 .nil⟩ q10
    rw [upd_same]
    rfl
  · have e5 : kput [k1] k2 = [k1, k2] := by
      unfold kput hasK
      simp [e]
    have e6 : vput [k1] [d] k2 d2 = [d, d2] := by
      unfold vput hasK
      simp [e]
    have e7 : mergeK [] [(k1, v2), (k2, v4)] = [(k1, v2), (k2, v4)] := by
      unfold mergeK putK
      simp [e]
    rw [e7] at ex ⊢
    rw [e5, e6] at q10
    refine l F4 al4 (.dk [k1, k2] [d, d2]) mu4 p _ ex (C4.other n4 nF4 hH4 plain_dK) n4 hp rfl ⟨nF4, [v2, v4], ?_, rfl, .cons r2' (.cons r4 .nil)⟩ q10
    rw [upd_same]
    rfl
end
/-- f() -/
theorem cc0 {X : Cx} {pos p : Pos} {x : Str} {ps : List Str} {k : Nat} {S : FS} (G : Cal X.prog X.w X.K X.mg X.base k x ps S) (hr : Room k X.A) (hg : Gl X x := by rfl)
    (hdb : (x == ("__debug__" : Str)) = false := by decide) : CE X (.Call (.Name x p) [] [] pos) (dCall S aNil) := by
  obtain ⟨_, _, g, m, kp, b⟩ := G.ok
  exact ⟨_, pe_call0 (E := E0) g hr hg m kp b .nil pass0 hdb, ge_call (fun F al rho mu σ H Q R S q l => l F al [] mu [] H Ext.refl S.toCels .nil q)⟩
/-! #### keys that are tuples of texts -/
def wsK (ws : List (List Nat)) : D := .tup (ws.map D.str)
def txtN (w : List Nat) : NestedKey := .text ⟨w.toArray⟩
theorem nkDs_str : ∀ l : List (List Nat), nkDs (l.map D.str) = l.map txtN
  | [] => rfl
  | n :: l => by
    show nkD (D.str n) :: nkDs (l.map D.str) = _
    rw [nkDs_str l]
    rfl
theorem depth_txts : ∀ l : List (List Nat), NestedKey.depthAll (l.map txtN) = 0
  | [] => rfl
  | n :: l => by
    show max 0 (NestedKey.depthAll (l.map txtN)) = 0
    rw [depth_txts l]
    rfl
theorem keyOks_str : ∀ l : List (List Nat), keyOks (l.map D.str) = true
  | [] => rfl
  | n :: l => by
    show (keyOk (D.str n) && keyOks (l.map D.str)) = true
    rw [keyOks_str l]
    rfl
theorem wsK_fit (l : List (List Nat)) : kTup (wsK l) = true := by
  unfold kTup wsK
  have e : (nkD (.tup (l.map D.str))).depth = 1 := by
    show NestedKey.depthAll (nkDs (l.map D.str)) + 1 = 1
    rw [nkDs_str, depth_txts]
  rw [e]
  show (true && (keyOks (l.map D.str) && decide (1 ≤ 8))) = true
  rw [keyOks_str]
  rfl
theorem txt_inj : ∀ {a b : List (List Nat)}, (a.map txtN) = b.map (txtN) → a = b
  | [], [], _ => rfl
  | [], _ :: _, h => by cases h
  | _ :: _, [], h => by cases h
  | x :: a, y :: b, h => by
    rw [List.map_cons, List.map_cons] at h
    injection h with h1 h2
    have h1 : NestedKey.text (mkS x) = .text (mkS y) := h1
    injection h1 with h1
    rw [txt_inj h2, mkS_inj h1]
theorem wsK_inj (a b : List (List Nat)) (h : nkD (wsK a) = nkD (wsK b)) : a = b := by
  have h : NestedKey.tup (nkDs (a.map D.str)) = .tup (nkDs (b.map D.str)) := h
  injection h with h
  rw [nkDs_str, nkDs_str] at h
  exact txt_inj h
def kmC : KM (List (List Nat)) (List Nat) := ⟨wsK, D.str, .inl wsK_fit, wsK_inj⟩
/-! #### None looked for in a dict whose keys are tuples -/
section
variable {prog : Program} {w : World} {A : Around} {E : Value → Shared → Prop} {s : Shared} {d : Addr} {o : Obj} {es : Array DictEntry} {ep : Nat}
def TupKeys (h : Heap) (es : Array DictEntry) : Prop := ∀ e ∈ es, ∃ k b, e.key = .ref b ∧ NestedIs h k (.ref b) ∧ k.depth ≤ 8
theorem none_eq {k : NestedKey} {b : Addr} {Q : Bool → Shared → Prop} (hu : A.units + 8 < cLine) (h : NestedIs s.heap k (.ref b)) (hd : k.depth ≤ 8) (hq : Q false s) : wpAny (model prog w) A (eqBool (.ref b) .none) Q E s := by
  refine eqAt_key k .none A s _ _ h .none ?_ _ _ _ _ ?_
  · have : min k.depth NestedKey.none.depth ≤ 0 := Nat.min_le_right _ _
    omega
  · cases h
    exact hq
theorem none_find {hh : Int} {Q : Option Nat → Shared → Prop} (hu : A.units + 8 < cLine) (ho : s.heap.get? d = some o) (hd : o.data = .dict es ep) (hk : TupKeys s.heap es) (hq : Q none s) : wpAny (model prog w) A (dictFind d .none hh) Q E s := by
  have hst : ∀ i ∈ placesWithHash es.size (fun i => es[i]?.map (·.hash)) hh, ∀ e, es[i]? = some e → e.key ∈ (placesWithHash es.size (fun i => es[i]?.map (·.hash)) hh).filterMap (fun i => es[i]?.map (·.key)) := fun i hi e he =>
    List.mem_filterMap.mpr ⟨i, hi, by rw [he]; rfl⟩
  have hsk : ∀ v ∈ (placesWithHash es.size (fun i => es[i]?.map (·.hash)) hh).filterMap (fun i => es[i]?.map (·.key)), ∃ k b, v = .ref b ∧ NestedIs s.heap k (.ref b) ∧ k.depth ≤ 8 := by
    intro v hv
    obtain ⟨i, _, hi⟩ := List.mem_filterMap.mp hv
    cases hei : es[i]? with
    | none => rw [hei] at hi; cases hi
    | some e =>
      rw [hei] at hi
      obtain rfl : e.key = v := by simpa using hi
      exact hk e (Array.mem_of_getElem? hei)
  unfold dictFind
  try with_reducible refine wpAny_holding ?_
  refine wpAny_bind (wpAny_dictEntries ho hd ?_)
  dsimp only
  generalize placesWithHash es.size (fun i => es[i]?.map (·.hash)) hh = places at hst hsk ⊢
  generalize places.filterMap (fun i => es[i]?.map (·.key)) = stored at hst hsk ⊢
  by_cases hall : (Value.none :: stored).all carriedByValue = true
  · rw [if_pos hall]
    have no : ∀ i ∈ places, es[i]? = none := fun i hi => by
      cases he : es[i]? with
      | none => rfl
      | some e =>
        exfalso
        have hm := hst i hi e he
        obtain ⟨k, b, e1, _⟩ := hsk _ hm
        rw [List.all_cons, Bool.and_eq_true_iff] at hall
        have := List.all_eq_true.mp hall.2 _ hm
        rw [e1] at this
        cases this
    unfold dictWalkPlain
    refine wpAny_bind ?_
    refine wpAny_forIn_list _ (fun rest b s' => s' = s ∧ b = (none, ()) ∧ ∀ i ∈ rest, es[i]? = none) _ ?_ ?_ _ _ ⟨rfl, rfl, no⟩
    · rintro x rest b s' ⟨rfl, rfl, hr⟩
      rw [hr x (by simp)]
      exact wpAny_pure ⟨rfl, rfl, fun i hi => hr i (by simp [hi])⟩
    · rintro b s' ⟨rfl, rfl, _⟩
      first | exact wpAny_pure hq | exact wpAny_pure (wpAny_pure hq)
  · rw [if_neg hall]
    have tell : ∀ {R : Bool → Shared → Prop}, R false s → wpAny (model prog w) A (tableMayTell .none stored) R E s := fun {R} hr => by
      unfold tableMayTell
      split
      · exact wpAny_pure hr
      · refine wpAny_bind (quiet_key .none .none 8 s .none (Nat.zero_le _) _ _ _ ?_)
        simp only [Bool.not_true, Bool.false_eq_true, if_false]
        refine wpAny_bind ?_
        refine wpAny_forIn_list _ (fun rest r s' => s' = s ∧ r = (none, ()) ∧ ∀ v ∈ rest, ∃ k b, v = .ref b ∧ NestedIs s.heap k (.ref b) ∧ k.depth ≤ 8) _ ?_ ?_ _ _ ⟨rfl, rfl, hsk⟩
        · rintro x rest r s' ⟨rfl, rfl, hr'⟩
          obtain ⟨k', b, rfl, hb, hb8⟩ := hr' x List.mem_cons_self
          refine wpAny_bind (quiet_key k' _ 8 _ hb hb8 _ _ _ ?_)
          simp only [Bool.not_true, Bool.false_eq_true, if_false]
          exact wpAny_pure ⟨rfl, rfl, fun v hv => hr' v (List.mem_cons_of_mem _ hv)⟩
        · rintro r s' ⟨rfl, rfl, _⟩
          exact wpAny_pure hr
    by_cases hone : (stored == [Value.none]) = true <;> (first | rw [if_pos hone] | rw [if_neg hone]) <;> (first | refine wpAny_bind (wpAny_pure ?_) | refine wpAny_bind (tell ?_)) <;> (
    simp only [Bool.false_and, Bool.false_eq_true, if_false]
    refine wpAny_bind ?_
    refine wpAny_forIn_list _ (fun rest b s' => s' = s ∧ b = (none, none)) _ ?_ ?_ _ _ ⟨rfl, rfl⟩
    · rintro x rest b s' ⟨rfl, rfl⟩
      cases hex : es[x]? with
      | none => exact wpAny_pure ⟨rfl, rfl⟩
      | some e =>
        dsimp only
        by_cases hhe : (e.hash == hh) = true
        · rw [if_pos hhe]
          obtain ⟨k', b, e1, hb, hb8⟩ := hk e (Array.mem_of_getElem? hex)
          rw [e1]
          refine wpAny_bind (wpAny_dictEpoch ho hd (wpAny_bind (none_eq hu hb hb8 (wpAny_bind (wpAny_dictEpoch ho hd ?_)))))
          show wpAny _ _ (if (ep != ep) = true then _ else _) _ E _
          rw [if_neg (by simp)]
          simp only [Bool.false_eq_true, if_false]
          refine wpAny_bind (wpAny_rule ?_)
          first
            | exact wpAny_pure ⟨rfl, rfl⟩
            | exact wpAny_bind (wpAny_pure (wpAny_pure ⟨rfl, rfl⟩))
        · rw [if_neg hhe]
          exact wpAny_pure ⟨rfl, rfl⟩
    · rintro b s' ⟨rfl, rfl⟩
      exact wpAny_pure hq)
end
section
variable {X : Cx} {pins : List (Addr × Obj)} {σ : L2.St} {H : Hp} {s : Shared} {a : Addr} {A : Around} {E : Value → Shared → Prop}
theorem n_notIn_none {xs : List (NestedKey × V × V)} {Q : Value → Shared → Prop} (hu : A.units + 9 < cLine) (I : Inv X pins σ H s) (e : H a = some (DicN X.w a xs)) (kt : KeysT H xs) (h : ∀ s', Inv X pins σ H s' → Q (.bool true) s') : wpAny (model X.prog X.w) A (compareOp .NotIn .none (.ref a)) Q E s := by
  obtain ⟨z, hd, zs, rel, hm⟩ := dicN_t I.hok e kt
  obtain ⟨o, es, ep, ho, hc, hdat, he, his, hn⟩ := id hm
  have tk : TupKeys s.heap es := fun en hen => by
    have : en ∈ zs.map (entryOfKey (nestedKind X.prog X.w)) := he ▸ Array.mem_toList_iff.mpr hen
    obtain ⟨x, hx, rfl⟩ := List.mem_map.mp this
    exact ⟨x.1, x.2.1, rfl, (his x hx).1, (his x hx).2⟩
  show wpAny _ _ (do return .bool (!(← contains (.ref a) .none))) Q E s
  refine wpAny_bind ?_
  unfold contains
  try with_reducible refine wpAny_holding ?_
  refine wpAny_bind (wpAny_specialOf hm.typeIs slot_dict_contains.lookup ?_)
  show wpAny _ _ (if (some (Value.builtin "dict.__contains__") == some Value.none) = true then _ else _) _ E s
  rw [if_neg (by rw [beq_builtin_none]; exact Bool.false_ne_true)]
  refine wpAny_bind (wpAny_callSpecialUnlessNone?_slot (name := Str.ofString "__contains__") hm.typeIs slot_dict_contains (wpAny_call_entry slot_dict_contains hm.typeIs entry_dict_contains ?_ (args_dict_contains _ _)))
  show wpAny _ _ (dictGet a .none >>= _) _ _ s
  refine wpAny_bind ?_
  unfold dictGet
  try with_reducible refine wpAny_holding ?_
  have hu1 : A.in1.units + 8 < cLine := by
    show A.units + 1 + 8 < cLine
    omega
  refine wpAny_bind (pyHash_key .none .none _ _ _ .none (by show A.in1.units + 0 < cLine; omega) (wpAny_bind (none_find (s := { s with toks := s.toks + 1 }) hu1 ho hdat tk ?_)))
  refine wpAny_pure ?_
  show wpAny _ _ (Builtin.Dict.pendingKey? a .none >>= _) _ _ _
  exact wpAny_bind (wpAny_pendingKey_other hd (wpAny_pure ⟨_, rfl, wpAny_truthy_bool (wpAny_pure (h _ (I.tok _)))⟩))
end
/-- y not in d, where y may be None and all keys are tuples -/
def tNNotInO (w : World) (ty td : TE) : TE := fun σ H Q => ty σ H fun y H1 => td σ H1 fun x H2 => ∃ a, x = .ref a ∧ ((∃ o, NGet w H2 a y o ∧ Q (.bl (!o.isSome)) H2) ∨ (y = .non ∧ ∃ xs, H2 a = some (DicN w a xs) ∧ KeysT H2 xs ∧ Q (.bl true) H2))
theorem pc_nnotinO {X : Cx} {o i : Expr} {td ty : TE} (hu : X.A.units + 9 < cLine) (hi : PE X i ty) (ho : PE X o td) : PC X .NotIn i o (tNNotInO X.w ty td) := by
  refine ⟨fun pins s σ H Q I h => ?_⟩
  refine thn (hi.run pins s σ H _ I h) fun iv s1 ⟨y, H1, I1, ry, q1⟩ => thn (ho.run pins s1 σ H1 _ I1 q1) fun u s2 ⟨x, H2, I2, rx, a, ex, q2⟩ => ?_
  subst ex
  obtain rfl : u = Value.ref a := rx
  rcases q2 with ⟨ov, g, q2⟩ | ⟨rfl, xs, e, kt, q2⟩
  · exact n_notIn hu I2 g ry fun s3 I3 => ⟨.bl (!ov.isSome), H2, I3, rfl, q2⟩
  · cases (show iv = Value.none from ry)
    exact n_notIn_none hu I2 e kt fun s3 I3 => ⟨.bl true, H2, I3, rfl, q2⟩
def isNonV : DV → Bool
  | .dat .non => true
  | _ => false
@[irreducible] def nInO (w : World) (y x : DV) (mu : Mu) (Q : DQ) : Prop := (isNonV y = true ∧ onSome (ndic mu x) fun p => p.1 = w ∧ p.2.1.all kTup = true ∧ Q (.dat (.bl true)) mu) ∨ nIn w true y x mu Q
def dNinO (w : World) (ti to : DE) : DE := fun rho mu Q => ti rho mu fun y mu1 => to rho mu1 fun x mu2 => nInO w y x mu2 Q
theorem g_nninO {X : Cx} {t1 t2 : TE} {ti to : DE} (g2 : GE t1 ti) (g1 : GE t2 to) : GE (tNNotInO X.w t1 t2) (dNinO X.w ti to) := by
  refine fun F al rho mu σ H Q R S q l => g2 F al rho mu σ H _ _ S q fun F1 al1 y mu1 v1 H1 E1 C1 r1 q1 => ?_
  refine g1 F1 al1 rho mu1 σ H1 _ _ (S.of C1 E1.ex E1.pf) q1 fun F2 al2 x mu2 v2 H2 E2 C2 r2 q2 => ?_
  unfold nInO at q2
  rcases q2 with ⟨hn, q2⟩ | q2
  · obtain ⟨p, hp, ew, kf, q3⟩ := onSome_out q2
    obtain ⟨a, us, vs, ev, hH, hl, rk, rl⟩ := ndic_out C2 r2 hp
    rw [ew] at hH
    have ey : v1 = .non := by
      cases y with
      | cel k => cases hn
      | dat d =>
        cases d with
        | non =>
          have r : Rep F1 .non v1 := r1
          rw [Rep] at r
          exact r
        | _ => cases hn
    exact ⟨a, ev, .inr ⟨ey, _, hH, (zip3_key C2.ex rk).1 kf, l F2 al2 _ mu2 _ H2 (E1.trans E2) C2 rv_bl q3⟩⟩
  · unfold nIn at q2
    obtain ⟨d, ed, q3⟩ := onD_out q2
    subst ed
    obtain ⟨p, hp, ew, kf, q3⟩ := onSome_out q3
    obtain ⟨a, us, vs, ev, hH, hl, rk, rl⟩ := ndic_out C2 r2 hp
    rw [ew] at hH
    have r3 := r3_of hl rk rl
    refine ⟨a, ev, .inl ⟨_, ⟨_, _, hH, fit_of C2.ex rk (r1.mono E2.ex E2.pf) kf, rfl⟩, ?_⟩⟩
    rw [← (r3_at r3 (nkD d)).2]
    exact l F2 al2 _ mu2 _ H2 (E1.trans E2) C2 rv_bl q3
theorem ct_nninO {X : Cx} {o i : Expr} {pos : Pos} {ti to : DE} (hu : X.A.units + 64 < cLine) (hi : CE X i ti) (ho : CE X o to) (h1 : behindInMarks .NotIn o = false := by first | exact nobehind _ (by decide) (by decide) | rfl) : CT X (.Compare i [.NotIn] [o] pos) (dTest (dNinO X.w ti to)) :=
  let ⟨_, p1, g1⟩ := ho.ok; let ⟨_, p2, g2⟩ := hi.ok; ⟨_, pt_cmp (pc_nnotinO (by omega) p2 p1) h1, gt_test (g_nninO g2 g1)⟩
theorem nino_run {κ α : Type} [DecidableEq κ] (m : KM κ α) {w : World} {mu : Mu} {l : List (κ × α)} {x : DV} {k : κ} {Q : DQ} (hx : ndic mu x = some (w, (l.map fun p => m.kd p.1), l.map fun p => m.vd p.2)) (q : Q (.dat (.bl (!(alook l k).isSome))) mu) : nInO w (.dat (m.kd k)) x mu Q := by
  unfold nInO
  exact .inr (nin_run m hx q)
theorem nino_none {κ α : Type} [DecidableEq κ] (m : KM κ α) {w : World} {mu : Mu} {l : List (κ × α)} {x : DV} {Q : DQ} (ht : ∀ k, kTup (m.kd k) = true) (hx : ndic mu x = some (w, (l.map fun p => m.kd p.1), l.map fun p => m.vd p.2)) (q : Q (.dat (.bl true)) mu) : nInO w (.dat .non) x mu Q := by
  unfold nInO
  refine .inl ⟨rfl, on_some hx ⟨rfl, ?_, q⟩⟩
  rw [List.all_map]
  exact List.all_eq_true.mpr fun p _ => ht p.1

end Dx

namespace Dx
open PySem PySem.Spec PyProof.Rows L2
open Evl (Ex)
variable [Tb]
/-! #### classes of texts -/
def ClassStep (ws : List (List Nat)) (c k : Nat) (ys : List (List Nat)) : Prop := OrdW ys ∧ ys.Nodup ∧ ∀ w, w ∈ ys ↔ w ∈ ws ∨ ∃ v, v ∈ ws ∧ v.length < k ∧ w = v ++ [c]
theorem ClassStep.uniq {ws : List (List Nat)} {c k : Nat} {ys zs : List (List Nat)} (a : ClassStep ws c k ys) (b : ClassStep ws c k zs) : ys = zs :=
  ordW_uniq a.1 b.1 ((List.perm_ext_iff_of_nodup a.2.1 b.2.1).mpr fun w => (a.2.2 w).trans (b.2.2 w).symm)
open Classical in
noncomputable def stepC (k : Nat) (ws : List (List Nat)) (c : Nat) : Option (List (List Nat)) := if h : ∃ ys, ClassStep ws c k ys then some h.choose else none
theorem stepC_of {ws : List (List Nat)} {c k : Nat} {ys : List (List Nat)} (h : ClassStep ws c k ys) : stepC k ws c = some ys := by
  have h' : ∃ ys, ClassStep ws c k ys := ⟨ys, h⟩
  unfold stepC
  rw [dif_pos h']
  exact congrArg some (ClassStep.uniq h'.choose_spec h)
theorem stepC_out {ws : List (List Nat)} {c k : Nat} {ys : List (List Nat)} (h : stepC k ws c = some ys) : ClassStep ws c k ys := by
  unfold stepC at h
  split at h
  · rename_i h'
    have e := Option.some.inj h
    rw [← e]
    exact h'.choose_spec
  · cases h
noncomputable def clsA (k : Nat) : Aut (List (List Nat)) := ⟨[[]], stepC k⟩
theorem cls_words {k : Nat} (t : List Nat) : ∀ {s : List (List Nat)}, (clsA k).run t = some s → WordsOf t k s := by
  refine snoc_ind (P := fun t => ∀ {s : List (List Nat)}, (clsA k).run t = some s → WordsOf t k s) ?_ ?_ t
  · intro s h
    have e : [[]] = s := Option.some.inj h
    subst e
    refine ⟨List.pairwise_singleton .., by simp, fun w => ?_⟩
    rw [List.mem_singleton, List.sublist_nil]
    exact ⟨fun e => ⟨e, by rw [e]; exact Nat.zero_le _⟩, fun h => h.1⟩
  · intro x e ih s h
    rw [Aut.run_snoc] at h
    cases hx : (clsA k).run x with
    | none => rw [hx] at h; cases h
    | some s' =>
      rw [hx] at h
      obtain ⟨a, b, c⟩ := stepC_out (show stepC k s' e = some s from h)
      obtain ⟨_, _, mem⟩ := ih hx
      refine ⟨a, b, fun w => ?_⟩
      rw [c w, sub_snoc]
      refine ⟨fun h => ?_, fun ⟨h1, h2⟩ => ?_⟩
      · rcases h with z | ⟨v, z1, z2, z3⟩
        · have := (mem w).mp z
          exact ⟨.inl this.1, this.2⟩
        · have := (mem v).mp z1
          exact ⟨.inr ⟨v, this.1, z3⟩, by rw [z3, List.length_append, List.length_singleton]; omega⟩
      · rcases h1 with z | ⟨v, z1, z3⟩
        · exact .inl ((mem w).mpr ⟨z, h2⟩)
        · rw [z3, List.length_append, List.length_singleton] at h2
          exact .inr ⟨v, (mem v).mpr ⟨z1, by omega⟩, by omega, z3⟩
theorem cls_few {k : Nat} {l t : List Nat} {s : List (List Nat)} (hl : l.length ≤ 3) (hk : k ≤ 6) (tc : ∀ c ∈ t, c ∈ l) (h : (clsA k).run t = some s) : s.length ≤ 2187 := by
  obtain ⟨_, nd, mem⟩ := cls_words t h
  exact few_words hl hk nd fun w hw => ⟨((mem w).mp hw).2, fun c hc => tc c (((mem w).mp hw).1.subset hc)⟩
/-! #### how many classes there are at most -/
def bools : Nat → List (List Bool)
  | 0 => [[]]
  | n + 1 => (bools n).map (true :: ·) ++ (bools n).map (false :: ·)
theorem bools_len : ∀ n, (bools n).length = 2 ^ n
  | 0 => rfl
  | n + 1 => by
    unfold bools
    rw [List.length_append, List.length_map, List.length_map, bools_len n, Nat.pow_succ]
    omega
theorem mem_bools : ∀ (bs : List Bool), bs ∈ bools bs.length
  | [] => by simp [bools]
  | b :: bs => by
    have ih := mem_bools bs
    show b :: bs ∈ (bools bs.length).map (true :: ·) ++ (bools bs.length).map (false :: ·)
    rw [List.mem_append]
    cases b
    · exact .inr (List.mem_map.mpr ⟨_, ih, rfl⟩)
    · exact .inl (List.mem_map.mpr ⟨_, ih, rfl⟩)
theorem few_classes {base : List (List Nat)} {ss : List (List (List Nat))} (nd : ss.Nodup) (hs : ∀ s ∈ ss, OrdW s ∧ s.Nodup ∧ ∀ w ∈ s, w ∈ base) : ss.length ≤ 2 ^ base.length := by
  have nd2 : (ss.map fun s => base.map fun w => decide (w ∈ s)).Nodup := by
    show List.Pairwise (· ≠ ·) _
    rw [List.pairwise_map]
    refine List.Pairwise.imp_of_mem (fun {a b} ha hb hne e => hne ?_) nd
    obtain ⟨a1, a2, a3⟩ := hs a ha
    obtain ⟨b1, b2, b3⟩ := hs b hb
    have key : ∀ w ∈ base, decide (w ∈ a) = decide (w ∈ b) := fun w hw => by
      have := List.map_inj_left.mp e
      exact this w hw
    refine ordW_uniq a1 b1 ((List.perm_ext_iff_of_nodup a2 b2).mpr fun w => ⟨fun h => ?_, fun h => ?_⟩)
    · exact of_decide_eq_true ((key w (a3 w h)).symm.trans (decide_eq_true h))
    · exact of_decide_eq_true ((key w (b3 w h)).trans (decide_eq_true h))
  have h := nd2.length_le_of_subset (l₂ := bools base.length) fun bs hb => by
    obtain ⟨s, _, rfl⟩ := List.mem_map.mp hb
    have := mem_bools (base.map fun w => decide (w ∈ s))
    rwa [List.length_map] at this
  rw [List.length_map, bools_len] at h
  exact h
theorem Bfs.few {k : Nat} {L : List Nat} {line : List (List Nat × List (List Nat))} {at' j : Nat} (B : Bfs (clsA k) L line at' j) (h : (allW L k).length ≤ 15) : line.length ≤ 32768 := by
  have h1 := few_classes (base := allW L k) B.nd (fun s hs => by
    obtain ⟨p, hp, rfl⟩ := List.mem_map.mp hs
    obtain ⟨r1, r2⟩ := B.run p hp
    obtain ⟨a, b, c⟩ := cls_words _ r1
    exact ⟨a, b, fun w hw => mem_allW.mpr ⟨((c w).mp hw).2, fun d hd => r2 d (((c w).mp hw).1.subset hd)⟩⟩)
  rw [List.length_map] at h1
  have h2 : 2 ^ (allW L k).length ≤ 2 ^ 15 := Nat.pow_le_pow_right (by omega) h
  have h3 : (2 : Nat) ^ 15 = 32768 := by decide
  omega
/-! #### the readings -/
def t_start_class : DS :=
  (dRet (dTup (aCons (dC (.str (lit ""))) aNil)))
def S_start_class : FS := fun xs mu Q => xs = [] ∧ mu = [] ∧ Q (.dv (.dat (wsK [[]]))) []
theorem len_start_class : ∀ xs mu Q, S_start_class xs mu Q → xs.length = 0 := fun xs mu Q h => by
  obtain ⟨rfl, _⟩ := h
  rfl
theorem rd_start_class : Body t_start_class [] S_start_class := fun xs mu Q h => by
  obtain ⟨rfl, rfl, q⟩ := h
  refine ⟨by show 1 ≤ 1000; omega, ?_⟩
  rw [lit_nil]
  exact q
def t_class_behind : DS :=
  (dSeq (dSet 3 (dNew (fCB fDictW (aCons (dFrz (fLc (iDatT (dVar 0)) (dgN 4) dYes (dTup (aCons (dVar 4) (aCons (dC (.bl true)) aNil))) [4])) aNil))))
  (dSeq (dFor (iDatT (dVar 0)) (dgN 4)
  (dIf (dTest (dOp dLt (dCB dLen (aCons (dVar 4) aNil)) (dVar 2)))
  (dDput (dVar 3) (dOp dAdd (dVar 4) (dVar 1)) (dC (.bl true)))
  dNext))
  (dRet (dCB dTupOf (aCons (dFrz (fSortKey (dVar 3))) aNil)))))
def S_class_behind : FS := fun xs mu Q => ∃ (ws : List (List Nat)) (c k : Nat), xs = [.dat (wsK ws), .dat (.str [c]), .dat (.int (k : Int))] ∧ mu = [] ∧ ws.Nodup ∧ ws.length ≤ 2187 ∧ (∀ w ∈ ws, w.length ≤ 100) ∧ (∀ ys, ClassStep ws c k ys → ys.length ≤ 900) ∧ ∀ ys, ClassStep ws c k ys → Q (.dv (.dat (wsK ys))) []
def S_w_class : FS := S_class_behind
theorem len_class_behind : ∀ xs mu Q, S_class_behind xs mu Q → xs.length = 3 := fun xs mu Q h => by
  obtain ⟨_, _, _, rfl, _⟩ := h
  rfl
theorem len_w_class : ∀ xs mu Q, S_w_class xs mu Q → xs.length = 3 := len_class_behind
theorem rd_class_behind : Body t_class_behind ["words", "letter", "k", "found", "word"] S_class_behind := fun xs mu Q h => by
  obtain ⟨ws, c, k, rfl, rfl, nd, wl, wk, yl, q⟩ := h
  refine comp_list (xs := ws) (gd := D.str) (v := prT) (by omega) (fun w hw G g => ?_) ?_
  · exact ⟨by show 2 ≤ 1000; omega, g⟩
  refine ⟨ws, nd, rfl, ?_⟩
  refine for_inv (fun j rho mu => ∃ us y, mu = [setW us] ∧ rho = [some (.dat (wsK ws)), some (.dat (.str [c])), some (.dat (.int (k : Int))), some (.cel 0), y] ∧ us.Nodup ∧ us.length ≤ ws.length + j ∧ ∀ w, w ∈ us ↔ w ∈ ws ∨ ∃ v, v ∈ ws.take j ∧ v.length < k ∧ w = v ++ [c]) ⟨ws, none, rfl, rfl, nd, Nat.le_refl _, fun w => by simp⟩ (fun j d rho mu K hd hp ke2 => ?_) (fun rho mu hp => ?_)
  · obtain ⟨us, y, rfl, rfl, und, ul, umem⟩ := hp
    obtain ⟨v, rfl, hv⟩ := str_at2 hd
    have hvm := List.mem_of_getElem? hv
    have hj := (List.getElem?_eq_some_iff.mp hv).1
    have e2 : ws.take (j + 1) = ws.take j ++ [v] := by rw [List.take_add_one, hv]; rfl
    have vl := wk v hvm
    refine ⟨by omega, ?_⟩
    refine itD (p := ((v.length : Nat) : Int) < (k : Int)) (fun h1 => ?_) (fun h1 => ?_)
    · refine ⟨by show v.length + 1 ≤ 100000; omega, ?_⟩
      refine ⟨by rw [keysW_len]; omega, ?_⟩
      refine ke2 _ _ ⟨wput us (v ++ [c]), _, ?_, rfl, nodup_wput und, ?_, fun w => ?_⟩
      · show [MC.dk _ _] = _
        exact congrArg (fun m => [m]) (put_W us (v ++ [c]))
      · unfold wput
        split
        · omega
        · rw [List.length_append, List.length_singleton]; omega
      · rw [mem_wput, umem w, e2]
        refine ⟨fun h => ?_, fun h => ?_⟩
        · rcases h with (z | ⟨v', a, b, d⟩) | z
          · exact .inl z
          · exact .inr ⟨v', List.mem_append_left _ a, b, d⟩
          · exact .inr ⟨v, by simp, by omega, z⟩
        · rcases h with z | ⟨v', a, b, d⟩
          · exact .inl (.inl z)
          · rcases List.mem_append.mp a with z | z
            · exact .inl (.inr ⟨v', z, b, d⟩)
            · rw [List.mem_singleton] at z
              subst z
              exact .inr d
    · refine ke2 _ _ ⟨us, _, rfl, rfl, und, by omega, fun w => ?_⟩
      rw [umem w, e2]
      refine ⟨fun h => ?_, fun h => ?_⟩
      · rcases h with z | ⟨v', a, b, d⟩
        · exact .inl z
        · exact .inr ⟨v', List.mem_append_left _ a, b, d⟩
      · rcases h with z | ⟨v', a, b, d⟩
        · exact .inl z
        · rcases List.mem_append.mp a with z | z
          · exact .inr ⟨v', z, b, d⟩
          · rw [List.mem_singleton] at z
            subst z
            omega
  · obtain ⟨us, y, rfl, rfl, und, ul, umem⟩ := hp
    rw [List.length_map, List.take_length] at umem
    rw [List.length_map] at ul
    refine on_some (a := us) (keysS_W us) ?_
    refine ⟨by omega, fun w hw => ?_, fun ys pm so => ?_⟩
    · rcases (umem w).mp hw with z | ⟨v, z1, z2, z3⟩
      · have := wk w z
        omega
      · have := wk v z1
        rw [z3, List.length_append, List.length_singleton]
        omega
    · have cs : ClassStep ws c k ys := ⟨so, pm.nodup_iff.mpr und, fun w => (pm.mem_iff).trans (umem w)⟩
      exact q ys cs
def t_w_class : DS :=
  (dSeq (dSet 3 (dNew (fCB fDictW (aCons (dFrz (fLc (iDatT (dVar 0)) (dgN 4) dYes (dTup (aCons (dVar 4) (aCons (dC (.bl true)) aNil))) [4])) aNil))))
  (dSeq (dFor (iDatT (dVar 0)) (dgN 4)
  (dIf (dTest (dOp dLt (dCB dLen (aCons (dVar 4) aNil)) (dVar 2)))
  (dDput (dVar 3) (dOp dAdd (dVar 4) (dVar 1)) (dC (.bl true)))
  dNext))
  (dRet (dCB dTupOf (aCons (dFrz (fSortKey (dVar 3))) aNil)))))
theorem rd_w_class : Body t_w_class ["_law_words", "_law_letter", "_law_k", "_law_found", "_law_word_here"] S_w_class := rd_class_behind.ren rfl
def t_class_of : DS :=
  (dSeq (dSet 2 (dCall S_start_class aNil))
  (dSeq (dFor (iStrD (dVar 0)) (dgN 3)
  (dSet 2 (dCall S_class_behind (aCons (dVar 2) (aCons (dVar 3) (aCons (dVar 1) aNil))))))
  (dRet (dVar 2))))
def S_class_of : FS := fun xs mu Q => ∃ (t l : List Nat) (k : Nat), xs = [.dat (.str t), .dat (.int (k : Int))] ∧ mu = [] ∧ l.length ≤ 3 ∧ (∀ c ∈ t, c ∈ l) ∧ (allW l k).length ≤ 15 ∧ k ≤ 6 ∧ t.length ≤ 1000 ∧ ∀ s, (clsA k).run t = some s → Q (.dv (.dat (wsK s))) []
theorem len_class_of : ∀ xs mu Q, S_class_of xs mu Q → xs.length = 2 := fun xs mu Q h => by
  obtain ⟨_, _, _, rfl, _⟩ := h
  rfl
/-- a class of a text of few letters, and the next one -/
theorem cls_next {k : Nat} {l x : List Nat} {s : List (List Nat)} {c : Nat} (h15 : (allW l k).length ≤ 15) (hk : k ≤ 6) (xc : ∀ d ∈ x, d ∈ l) (hc : c ∈ l) (h : (clsA k).run x = some s) : s.Nodup ∧ s.length ≤ 15 ∧ (∀ w ∈ s, w.length ≤ 100) ∧ (∀ ys, ClassStep s c k ys → ys.length ≤ 900) ∧ ∀ ys, ClassStep s c k ys → (clsA k).run (x ++ [c]) = some ys := by
  have run2 : ∀ ys, ClassStep s c k ys → (clsA k).run (x ++ [c]) = some ys := fun ys hy => by
    rw [Aut.run_snoc, h]
    exact stepC_of hy
  have len : ∀ {x s}, (∀ d ∈ x, d ∈ l) → (clsA k).run x = some s → s.length ≤ 15 := fun {x s} xc h => by
    obtain ⟨_, nd, mem⟩ := cls_words x h
    have := nd.length_le_of_subset (l₂ := allW l k) fun w hw => mem_allW.mpr ⟨((mem w).mp hw).2, fun d hd => xc d (((mem w).mp hw).1.subset hd)⟩
    omega
  obtain ⟨_, nd, mem⟩ := cls_words x h
  refine ⟨nd, len xc h, fun w hw => by have := ((mem w).mp hw).2; omega, fun ys hy => ?_, run2⟩
  have := len (x := x ++ [c]) (fun d hd => ?_) (run2 ys hy)
  · omega
  · rcases List.mem_append.mp hd with z | z
    · exact xc d z
    · rw [List.mem_singleton] at z
      subst z
      exact hc
theorem rd_class_of : Body t_class_of ["text", "k", "found", "letter"] S_class_of := fun xs mu Q h => by
  obtain ⟨t, l, k, rfl, rfl, hl, tc, h15, hk, ht, q⟩ := h
  refine ⟨rfl, rfl, rfl, ?_⟩
  refine for_inv (fun i rho mu => ∃ s x, mu = [] ∧ (clsA k).run (t.take i) = some s ∧ rho = [some (.dat (.str t)), some (.dat (.int (k : Int))), some (.dat (wsK s)), x]) ⟨_, _, rfl, rfl, rfl⟩ (fun i d rho mu K hd hp ke => ?_) (fun rho mu hp => ?_)
  · obtain ⟨s, x, rfl, hs, rfl⟩ := hp
    obtain ⟨c, hc, rfl⟩ := str_at hd
    have e1 : t.take (i + 1) = t.take i ++ [c] := by rw [List.take_add_one, hc]; rfl
    obtain ⟨a1, a2, a3, a4, a5⟩ := cls_next h15 hk (fun d hd => tc d (List.mem_of_mem_take hd)) (tc c (List.mem_of_getElem? hc)) hs
    refine ⟨rfl, s, c, k, rfl, rfl, a1, by omega, a3, a4, fun ys hy => ?_⟩
    refine ke _ _ ⟨ys, _, rfl, ?_, rfl⟩
    rw [e1]
    exact a5 ys hy
  · obtain ⟨s, x, rfl, hs, rfl⟩ := hp
    rw [List.length_map, List.take_length] at hs
    exact q s hs

end Dx

namespace Dx
open PySem PySem.Spec PyProof.Rows L2
open Evl (Ex)
variable [Tb]
/-! #### the first texts of all classes -/
def fl (line : List (List Nat × List (List Nat))) : List (List (List Nat) × List Nat) := line.map fun p => (p.2, p.1)
theorem fl_keys (line : List (List Nat × List (List Nat))) : (fl line).map (·.1) = line.map (·.2) := by
  unfold fl
  rw [List.map_map]
  rfl
theorem fl_len (line : List (List Nat × List (List Nat))) : (fl line).length = line.length := List.length_map _
theorem fl_has (line : List (List Nat × List (List Nat))) (s : List (List Nat)) : (alook (fl line) s).isSome = decide (s ∈ line.map (·.2)) := by
  by_cases h : s ∈ line.map (·.2)
  · rw [decide_eq_true h]
    exact alook_some.mpr (by rw [fl_keys]; exact h)
  · rw [decide_eq_false h, alook_none.mpr (by rw [fl_keys]; exact h)]
    rfl
theorem fl_look {line : List (List Nat × List (List Nat))} (nd : (line.map (·.2)).Nodup) {p : List Nat × List (List Nat)} (h : p ∈ line) : alook (fl line) p.2 = some p.1 :=
  alook_of (by rw [fl_keys]; exact nd) (List.mem_map.mpr ⟨p, h, rfl⟩)
theorem fl_put {line : List (List Nat × List (List Nat))} {s : List (List Nat)} (w : List Nat) (h : s ∉ line.map (·.2)) : aput (fl line) s w = fl (line ++ [(w, s)]) := by
  rw [aput_new w (by rw [fl_keys]; exact h)]
  unfold fl
  rw [List.map_append]
  rfl
theorem Bfs.word_len {S : Type} {A : Aut S} {L : List Nat} {line : List (List Nat × S)} {at' j : Nat} (B : Bfs A L line at' j) : ∀ (n i : Nat), i < n → ∀ p, line[i]? = some p → p.1.length ≤ i
  | 0, i, h, p, hp => by omega
  | n + 1, i, h, p, hp => by
    rcases B.par i p hp with e | ⟨k, q, c, m, h1, h2, h3, h4⟩
    · subst e
      rw [B.head] at hp
      cases hp
      exact Nat.le_refl _
    · have lt : k < i := B.lt_idx h1 hp (by rw [h2]; exact ltW_app1 _ _)
      have := B.word_len n k (by omega) q h1
      rw [h2, List.length_append, List.length_singleton]
      omega
/-- what is wanted: a class, or None -/
def optK : Option (List (List Nat)) → D
  | none => .non
  | some s => wsK s
theorem nino_opt {E : World} {mu : Mu} {x : DV} {line : List (List Nat × List (List Nat))} {wd : Option (List (List Nat))} {Q : DQ} (hx : ndic mu x = some (E, ((fl line).map fun p => kmC.kd p.1), (fl line).map fun p => kmC.vd p.2)) (h1 : (∃ s, wd = some s ∧ s ∈ line.map (·.2)) → Q (.dat (.bl false)) mu) (h2 : (∀ s, wd = some s → s ∉ line.map (·.2)) → Q (.dat (.bl true)) mu) : nInO E (.dat (optK wd)) x mu Q := by
  cases wd with
  | none => exact nino_none kmC wsK_fit hx (h2 fun s z => nomatch z)
  | some s =>
    refine nino_run kmC (k := s) hx ?_
    rw [fl_has]
    by_cases hin : s ∈ line.map (·.2)
    · rw [decide_eq_true hin]
      exact h1 ⟨s, rfl, hin⟩
    · rw [decide_eq_false hin]
      exact h2 fun s' z => by cases z; exact hin
def S_first_texts (E : World) : FS := fun xs mu Q => ∃ (L : List Nat) (k : Nat) (wd : Option (List (List Nat))), xs = [.dat (.str L), .dat (.int (k : Int)), .dat (optK wd)] ∧ mu = [] ∧ L.Pairwise (· < ·) ∧ (allW L k).length ≤ 15 ∧ k ≤ 6 ∧ L.length ≤ 3 ∧
  ∀ line at', Bfs (clsA k) L line at' 0 → ((∃ s, wd = some s ∧ s ∈ line.map (·.2)) ∨ line.length ≤ at') → Q (.new (dtM kmC E (fl line))) []
theorem len_first_texts {E : World} : ∀ xs mu Q, S_first_texts E xs mu Q → xs.length = 3 := fun xs mu Q h => by
  obtain ⟨_, _, _, rfl, _⟩ := h
  rfl
def t_first_texts (E : World) : DS :=
  (dSeq (dSet 3 (dNew (fDN1 E (dCall S_start_class aNil) (dC (.str (lit ""))))))
  (dSeq (dSet 4 (dNew (fLst (aCons (dCall S_start_class aNil) aNil))))
  (dSeq (dSet 5 (dC (.int 0)))
  (dSeq (dWhile (dAnd (dTest (dOp dLt (dVar 5) (dCB dLen (aCons (dVar 4) aNil)))) (dTest (dNinO E (dVar 2) (dVar 3))))
  (dSeq (dSet 6 (dOp dIx (dVar 4) (dVar 5)))
  (dSeq (dSet 5 (dOp dAdd (dVar 5) (dC (.int 1))))
  (dFor (iStrD (dVar 0)) (dgN 7)
  (dSeq (dSet 8 (dCall S_class_behind (aCons (dVar 6) (aCons (dVar 7) (aCons (dVar 1) aNil)))))
  (dIf (dTest (dNin E true (dVar 8) (dVar 3)))
  (dSeq (dNput E (dVar 3) (dVar 8) (dOp dAdd (dNget E (dVar 3) (dVar 6)) (dVar 7)))
  (dDrop (dBM "list" dAppend (dVar 4) (aCons (dVar 8) aNil))))
  dNext))))))
  (dRet (dVar 3))))))
theorem rd_first_texts {E : World} : Body (t_first_texts E) ["letters", "k", "wanted", "found", "waiting", "at", "words", "letter", "there"] (S_first_texts E) := fun xs mu Q h => by
  obtain ⟨L, k, wd, rfl, rfl, rise, h15, hk, hl, q⟩ := h
  refine ⟨rfl, rfl, rfl, ?_⟩
  refine ⟨wsK_fit _, ?_⟩
  refine ⟨rfl, rfl, rfl, ?_⟩
  refine ⟨by show 1 ≤ 1000; omega, ?_⟩
  refine ⟨fun m rho mu => ∃ (line : List (List Nat × List (List Nat))) (at' : Nat) (x6 x7 x8 : Option DV), Bfs (clsA k) L line at' 0 ∧ at' ≤ line.length ∧ m = 32768 - at' ∧ mu = [dtM kmC E (fl line), .lst (line.map fun p => wsK p.2)] ∧
    rho = [some (.dat (.str L)), some (.dat (.int (k : Int))), some (.dat (optK wd)), some (.cel 0), some (.cel 1), some (.dat (natD at')), x6, x7, x8],
    ⟨_, [([], [[]])], 0, none, none, none, Bfs.start, Nat.zero_le _, rfl, by show [MC.dt E [wsK [[]]] [D.str (lit "")], _] = _; rw [lit_nil]; rfl, rfl⟩, fun m rho mu hw => ?_⟩
  obtain ⟨line, at', x6, x7, x8, B, hat, rfl, rfl, rfl⟩ := hw
  have few := B.few h15
  refine itD (p := (at' : Int) < (((line.map fun p => wsK p.2).length : Nat) : Int)) (fun hlt => ?_) (fun hlt => ?_)
  · rw [List.length_map] at hlt
    have hlt : at' < line.length := by omega
    refine nino_opt (line := line) (ndic_cel (m := kmC) rfl) (fun hin => ?_) (fun hin => ?_)
    · refine ⟨Nat.zero_le _, rfl, ?_⟩
      exact q line at' B (.inl hin)
    · have hq : line[at']? = some line[at'] := List.getElem?_eq_getElem hlt
      generalize line[at'] = e at hq
      have he := List.mem_of_getElem? hq
      refine on_some (a := wsK e.2) (L2.atI_nat (by rw [List.getElem?_map, hq]; rfl)) ?_
      obtain ⟨run0, over0⟩ := B.run e he
      refine for_inv (fun j rho mu => ∃ (line' : List (List Nat × List (List Nat))) (x7 x8 : Option DV), Bfs (clsA k) L line' at' j ∧ line'[at']? = some e ∧ mu = [dtM kmC E (fl line'), .lst (line'.map fun p => wsK p.2)] ∧
        rho = [some (.dat (.str L)), some (.dat (.int (k : Int))), some (.dat (optK wd)), some (.cel 0), some (.cel 1), some (.dat (.int ((at' : Int) + 1))), some (.dat (wsK e.2)), x7, x8]) ⟨line, _, _, B, hq, rfl, rfl⟩ (fun j d rho mu K hd hp ke => ?_) (fun rho mu hp => ?_)
      · obtain ⟨line', x7, x8, B', hq', rfl, rfl⟩ := hp
        have few' := B'.few h15
        obtain ⟨c, hc, rfl⟩ := str_at hd
        have hcm := List.mem_of_getElem? hc
        obtain ⟨a1, a2, a3, a4, a5⟩ := cls_next h15 hk over0 hcm run0
        refine ⟨rfl, e.2, c, k, rfl, rfl, a1, by omega, a3, a4, fun ys hy => ?_⟩
        have stp := stepC_of hy
        refine nin_run kmC (k := ys) (l := fl line') (ndic_cel (m := kmC) rfl) ?_
        rw [fl_has]
        by_cases hin : ys ∈ line'.map (·.2)
        · rw [decide_eq_true hin]
          exact ke _ _ ⟨line', _, _, B'.old hq' hc (fun t ht => by
            have ht : stepC k e.2 c = some t := ht
            rw [stp] at ht
            cases ht
            exact hin), hq', rfl, rfl⟩
        · rw [decide_eq_false hin]
          have wl := B'.word_len (at' + 1) at' (by omega) e hq'
          have fl' : at' < line'.length := (List.getElem?_eq_some_iff.mp hq').1
          refine nget_run kmC (k := e.2) (v := e.1) (l := fl line') (ndic_cel (m := kmC) rfl) (fl_look B'.nd (List.mem_of_getElem? hq')) ?_
          refine ⟨by show e.1.length + 1 ≤ 100000; omega, ?_⟩
          refine nput_run kmC (w := E) (j := 0) (mu := [dtM kmC E (fl line'), .lst (line'.map fun p => wsK p.2)]) (k := ys) (v := e.1 ++ [c]) (l := fl line') rfl (by rw [fl_len]; omega) ?_
          rw [fl_put _ hin]
          refine ⟨rfl, ?_⟩
          refine ⟨by rw [List.length_map]; omega, ?_⟩
          refine ke _ _ ⟨line' ++ [(e.1 ++ [c], ys)], _, _, B'.new rise hq' hc stp hin, ?_, ?_, rfl⟩
          · rw [List.getElem?_append_left fl']
            exact hq'
          · rw [List.map_append]
            rfl
      · obtain ⟨line', x7, x8, B', hq', rfl, rfl⟩ := hp
        rw [List.length_map] at B'
        have few' := B'.few h15
        have fl' : at' < line'.length := (List.getElem?_eq_some_iff.mp hq').1
        exact ⟨32768 - (at' + 1), by omega, line', at' + 1, _, _, _, B'.row (Nat.le_refl _), by omega, rfl, rfl, rfl⟩
  · rw [List.length_map] at hlt
    refine ⟨Nat.zero_le _, rfl, ?_⟩
    exact q line at' B (.inr (by omega))
def FormOf (t : List Nat) (k : Nat) (w : List Nat) : Prop := ∃ s, (clsA k).run t = some s ∧ (clsA k).run w = some s ∧ (∀ c ∈ w, c ∈ t) ∧ ∀ v, (clsA k).run v = some s → (∀ c ∈ v, c ∈ t) → ltW v w = false
def S_form : FS := fun xs mu Q => ∃ (t l : List Nat) (k : Nat), xs = [.dat (.str t), .dat (.int (k : Int))] ∧ mu = [] ∧ l.length ≤ 3 ∧ (∀ c ∈ t, c ∈ l) ∧ (allW l k).length ≤ 15 ∧ k ≤ 6 ∧ t.length ≤ 1000 ∧ ∀ w, FormOf t k w → Q (.dv (.dat (.str w))) []
theorem len_form : ∀ xs mu Q, S_form xs mu Q → xs.length = 2 := fun xs mu Q h => by
  obtain ⟨_, _, _, rfl, _⟩ := h
  rfl
def t_form (E : World) : DS :=
  (dSeq (dSet 2 (dBM "str" dJoin (dC (.str (lit ""))) (aCons (dFrz (fSortSet (dVar 0))) aNil)))
  (dSeq (dSet 3 (dCall S_class_of (aCons (dVar 0) (aCons (dVar 1) aNil))))
  (dRet (dNget E (dCall (S_first_texts E) (aCons (dVar 2) (aCons (dVar 1) (aCons (dVar 3) aNil)))) (dVar 3)))))
theorem rise_nodup {l : List Nat} (h : l.Pairwise (· < ·)) : l.Nodup := h.imp fun {a b} z e => by omega
theorem allW_sub {L l : List Nat} {k : Nat} (nd : L.Nodup) (h : ∀ c ∈ L, c ∈ l) : (allW L k).length ≤ (allW l k).length :=
  (nodup_allW nd k).length_le_of_subset fun w hw => mem_allW.mpr ⟨(mem_allW.mp hw).1, fun c hc => h c ((mem_allW.mp hw).2 c hc)⟩
theorem rd_form {E : World} : Body (t_form E) ["text", "k", "letters", "wanted"] S_form := fun xs mu Q h => by
  obtain ⟨t, l, k, rfl, rfl, hl, tc, h15, hk, ht, q⟩ := h
  refine ⟨rfl, ?_⟩
  refine ⟨by omega, fun L hL => ?_⟩
  have nd := rise_nodup hL.1
  have hLl : ∀ c ∈ L, c ∈ l := fun c hc => tc c ((hL.2 c).mp hc)
  have L3 : L.length ≤ l.length := nd.length_le_of_subset hLl
  have L15 := allW_sub (k := k) nd hLl
  refine join_signs (l := L) (by omega) ?_
  refine ⟨rfl, t, l, k, rfl, rfl, hl, tc, h15, hk, ht, fun s hs => ?_⟩
  refine ⟨rfl, L, k, some s, rfl, rfl, hL.1, by omega, hk, by omega, fun line at' B hw => ?_⟩
  have hin : ∃ p ∈ line, p.2 = s := by
    rcases hw with ⟨s', z', z⟩ | z
    · cases z'
      obtain ⟨p, hp, e⟩ := List.mem_map.mp z
      exact ⟨p, hp, e⟩
    · obtain ⟨p, hp, e, _⟩ := B.all z hs (fun c hc => (hL.2 c).mpr hc)
      exact ⟨p, hp, e⟩
  obtain ⟨p, hp, rfl⟩ := hin
  obtain ⟨r1, r2⟩ := B.run p hp
  refine nget_run kmC (k := p.2) (v := p.1) (l := fl line) rfl (fl_look B.nd hp) ?_
  exact q p.1 ⟨p.2, hs, r1, fun c hc => (hL.2 c).mp (r2 c hc), fun v h1 h2 => B.least p hp v h1 fun c hc => (hL.2 c).mpr (h2 c hc)⟩

end Dx

namespace Dx
open PySem PySem.Spec PyProof.Rows L2
open Evl (Ex)
variable [Tb]
/-! #### the law's first texts, level by level -/
def S_w_first_texts (E : World) : FS := fun xs mu Q => ∃ (L : List Nat) (k : Nat), xs = [.dat (.str L), .dat (.int (k : Int))] ∧ mu = [] ∧ L.Pairwise (· < ·) ∧ (∀ c ∈ L, c < 1114112) ∧ (allW L k).length ≤ 15 ∧ k ≤ 6 ∧ L.length ≤ 3 ∧
  ∀ line at', Bfs (clsA k) L line at' 0 → line.length ≤ at' → Q (.new (dtM kmC E (fl line))) []
theorem len_w_first_texts {E : World} : ∀ xs mu Q, S_w_first_texts E xs mu Q → xs.length = 2 := fun xs mu Q h => by
  obtain ⟨_, _, rfl, _⟩ := h
  rfl
theorem wsK_plain {k : Nat} {L t : List Nat} {s : List (List Nat)} (h15 : (allW L k).length ≤ 15) (lo : ∀ c ∈ L, c < 1114112) (tc : ∀ c ∈ t, c ∈ L) (h : (clsA k).run t = some s) (n : Nat) : plainD (n + 1) (wsK s) = true := by
  obtain ⟨_, nd, mem⟩ := cls_words t h
  have := nd.length_le_of_subset (l₂ := allW L k) fun w hw => mem_allW.mpr ⟨((mem w).mp hw).2, fun d hd => tc d (((mem w).mp hw).1.subset hd)⟩
  unfold wsK
  rw [plainD, words_plain fun w hm c hc => lo c (tc c (((mem w).mp hm).1.subset hc)), Bool.and_true]
  exact decide_eq_true (by rw [List.length_map]; omega)
def t_w_first_texts (E : World) : DS :=
  (dSeq (dSet 2 (dNew (fDN1 E (dTup (aCons (dC (.str (lit ""))) aNil)) (dC (.str (lit ""))))))
  (dSeq (dSet 3 (dFrz (fLst (aCons (dTup (aCons (dC (.str (lit ""))) aNil)) aNil))))
  (dSeq (dWhile (dTest (dOp dNe (dVar 3) (dFrz (fLst aNil))))
  (dScope (dSeq (dSet 4 (dNew (fLst aNil)))
  (dSeq (dFor (iDat (dVar 3)) (dgN 5)
  (dFor (iStrD (dVar 0)) (dgN 6)
  (dSeq (dSet 7 (dCall S_w_class (aCons (dVar 5) (aCons (dVar 6) (aCons (dVar 1) aNil)))))
  (dIf (dTest (dNin E true (dVar 7) (dVar 2)))
  (dSeq (dNput E (dVar 2) (dVar 7) (dOp dAdd (dNget E (dVar 2) (dVar 5)) (dVar 6)))
  (dDrop (dBM "list" dAppend (dVar 4) (aCons (dVar 7) aNil))))
  dNext))))
  (dFz 4 (dSet 3 (dVar 4)))))))
  (dRet (dVar 2)))))
theorem eqD_lst_nil (d : D) (ds : List D) : eqD (.lst (d :: ds)) (.lst []) = false := rfl
theorem rd_w_first_texts {E : World} : Body (t_w_first_texts E) ["_law_letters_here", "_law_k", "_law_found", "_law_level", "_law_further", "_law_words", "_law_letter", "_law_there"] (S_w_first_texts E) := fun xs mu Q h => by
  obtain ⟨L, k, rfl, rfl, rise, lo, h15, hk, hl, q⟩ := h
  refine ⟨by show 1 ≤ 1000; omega, ?_⟩
  refine ⟨wsK_fit [lit ""], ?_⟩
  refine ⟨by show 1 ≤ 1000; omega, ?_⟩
  refine ⟨by show 1 ≤ 1000; omega, ?_⟩
  refine ⟨fun m rho mu => ∃ (line : List (List Nat × List (List Nat))) (a : Nat) (x4 x5 x6 x7 : Option DV), Bfs (clsA k) L line a 0 ∧ a ≤ line.length ∧ m = 32768 - a ∧ mu = [dtM kmC E (fl line)] ∧
    rho = [some (.dat (.str L)), some (.dat (.int (k : Int))), some (.cel 0), some (.dat (.lst ((line.drop a).map fun p => wsK p.2))), x4, x5, x6, x7],
    ⟨_, [([], [[]])], 0, none, none, none, none, Bfs.start, Nat.zero_le _, rfl, by show [MC.dt E [wsK [lit ""]] [D.str (lit "")]] = _; rw [lit_nil]; rfl, by show [_, _, _, some (DV.dat (.lst [wsK [lit ""]])), _, _, _, _] = _; rw [lit_nil]; rfl⟩, fun m rho mu hw => ?_⟩
  obtain ⟨line, a, x4, x5, x6, x7, B, ha, rfl, rfl, rfl⟩ := hw
  have few := B.few h15
  have dl : (line.drop a).length = line.length - a := List.length_drop
  refine ⟨by show 0 ≤ 1000; omega, ?_⟩
  refine ⟨plain_ok 3 60 _ (by omega) ?_, rfl, ?_⟩
  · rw [plainD]
    have h1 : plainDs 2 ((line.drop a).map fun p => wsK p.2) = true := plains_of fun d hd => by
      obtain ⟨p, hp, rfl⟩ := List.mem_map.mp hd
      obtain ⟨r1, r2⟩ := B.run p (List.mem_of_mem_drop hp)
      exact wsK_plain h15 lo r2 r1 1
    rw [h1, Bool.and_true]
    exact decide_eq_true (by rw [List.length_map]; omega)
  by_cases hlt : a < line.length
  · have hne : ∃ d ds, ((line.drop a).map fun p => wsK p.2) = d :: ds := by
      rw [List.drop_eq_getElem_cons hlt]
      exact ⟨_, _, rfl⟩
    have hb : eqD (.lst ((line.drop a).map fun p => wsK p.2)) (MC.lst []).toD = false := by
      obtain ⟨d, ds, e⟩ := hne
      rw [e]
      exact eqD_lst_nil d ds
    rw [hb]
    refine ⟨by show 0 ≤ 1000; omega, ?_⟩
    refine for_inv (fun i rho mu => ∃ (line' : List (List Nat × List (List Nat))) (x5 x6 x7 : Option DV), Bfs (clsA k) L line' (a + i) 0 ∧ (∃ more, line' = line ++ more) ∧ mu = [dtM kmC E (fl line'), .lst ((line'.drop line.length).map fun p => wsK p.2)] ∧
      rho = [some (.dat (.str L)), some (.dat (.int (k : Int))), some (.cel 0), some (.dat (.lst ((line.drop a).map fun p => wsK p.2))), some (.cel 1), x5, x6, x7]) ⟨line, _, _, _, B, ⟨[], by rw [List.append_nil]⟩, by rw [List.drop_length]; rfl, rfl⟩ (fun i d rho mu K hd hp ke => ?_) (fun rho mu hp => ?_)
    · obtain ⟨line', x5, x6, x7, B', ⟨more, rfl⟩, rfl, rfl⟩ := hp
      rw [List.getElem?_map, List.getElem?_drop] at hd
      obtain ⟨e, hq, rfl⟩ := Option.map_eq_some_iff.mp hd
      have hal := (List.getElem?_eq_some_iff.mp hq).1
      have hq' : (line ++ more)[a + i]? = some e := by
        rw [List.getElem?_append_left hal]
        exact hq
      obtain ⟨run0, over0⟩ := B.run e (List.mem_of_getElem? hq)
      refine for_inv (fun j rho mu => ∃ (more' : List (List Nat × List (List Nat))) (x6 x7 : Option DV), Bfs (clsA k) L (line ++ more') (a + i) j ∧ mu = [dtM kmC E (fl (line ++ more')), .lst (((line ++ more').drop line.length).map fun p => wsK p.2)] ∧
        rho = [some (.dat (.str L)), some (.dat (.int (k : Int))), some (.cel 0), some (.dat (.lst ((line.drop a).map fun p => wsK p.2))), some (.cel 1), some (.dat (wsK e.2)), x6, x7]) ⟨more, _, _, B', rfl, rfl⟩ (fun j d rho mu K hd hp ke2 => ?_) (fun rho mu hp => ?_)
      · obtain ⟨more', x6, x7, B', rfl, rfl⟩ := hp
        have few' := B'.few h15
        have hq' : (line ++ more')[a + i]? = some e := by
          rw [List.getElem?_append_left hal]
          exact hq
        obtain ⟨c, hc, rfl⟩ := str_at hd
        have hcm := List.mem_of_getElem? hc
        obtain ⟨a1, a2, a3, a4, a5⟩ := cls_next h15 hk over0 hcm run0
        refine ⟨rfl, e.2, c, k, rfl, rfl, a1, by omega, a3, a4, fun ys hy => ?_⟩
        have stp := stepC_of hy
        refine nin_run kmC (k := ys) (l := fl (line ++ more')) (ndic_cel (m := kmC) rfl) ?_
        rw [fl_has]
        by_cases hin : ys ∈ (line ++ more').map (·.2)
        · rw [decide_eq_true hin]
          exact ke2 _ _ ⟨more', _, _, B'.old hq' hc (fun t ht => by
            have ht : stepC k e.2 c = some t := ht
            rw [stp] at ht
            cases ht
            exact hin), rfl, rfl⟩
        · rw [decide_eq_false hin]
          have wl := B'.word_len (a + i + 1) (a + i) (by omega) e hq'
          refine nget_run kmC (k := e.2) (v := e.1) (l := fl (line ++ more')) (ndic_cel (m := kmC) rfl) (fl_look B'.nd (List.mem_of_getElem? hq')) ?_
          refine ⟨by show e.1.length + 1 ≤ 100000; omega, ?_⟩
          refine nput_run kmC (w := E) (j := 0) (mu := [dtM kmC E (fl (line ++ more')), .lst (((line ++ more').drop line.length).map fun p => wsK p.2)]) (k := ys) (v := e.1 ++ [c]) (l := fl (line ++ more')) rfl (by rw [fl_len]; omega) ?_
          rw [fl_put _ hin]
          have Bn := B'.new rise hq' hc stp hin
          rw [List.append_assoc] at Bn
          have fewn := Bn.few h15
          refine ⟨rfl, ?_⟩
          refine ⟨by rw [List.length_map, List.length_drop]; omega, ?_⟩
          refine ke2 _ _ ⟨more' ++ [(e.1 ++ [c], ys)], _, _, Bn, ?_, rfl⟩
          rw [← List.append_assoc, List.drop_append_of_le_length (l₁ := line ++ more') (by rw [List.length_append]; omega), List.map_append]
          rfl
      · obtain ⟨more', x6, x7, B', rfl, rfl⟩ := hp
        rw [List.length_map] at B'
        exact ke _ _ ⟨line ++ more', _, _, _, B'.row (Nat.le_refl _), ⟨more', rfl⟩, rfl, rfl⟩
    · obtain ⟨line', x5, x6, x7, B', ⟨more, rfl⟩, rfl, rfl⟩ := hp
      rw [List.length_map, dl] at B'
      have e1 : a + (line.length - a) = line.length := by omega
      rw [e1] at B'
      have few' := B'.few h15
      refine ⟨rfl, ?_⟩
      exact ⟨32768 - line.length, by omega, line ++ more, line.length, _, _, _, _, B', by rw [List.length_append]; omega, rfl, rfl, rfl⟩
  · have hb : eqD (.lst ((line.drop a).map fun p => wsK p.2)) (MC.lst []).toD = true := by
      rw [List.drop_eq_nil_of_le (by omega)]
      rfl
    rw [hb]
    refine ⟨Nat.zero_le _, rfl, ?_⟩
    exact q line a B (by omega)
def t_w_letters_and_length : DS :=
  (dSeq (dSet 1 (dOp dIx (dFrz (fLst (aCons (dC (.int 1)) (aCons (dC (.int 2)) (aCons (dC (.int 2)) (aCons (dC (.int 2)) (aCons (dC (.int 3)) aNil))))))) (dCallR S_w_pick (aCons (dVar 0) (aCons (dC (.int 5)) aNil)))))
  (dRet (dTup (aCons (dCallR S_w_letters (aCons (dVar 0) (aCons (dVar 1) aNil))) (aCons (dCallR S_w_pick (aCons (dVar 0) (aCons (dOp dIx (dFrz (fLst (aCons (dC (.int 4)) (aCons (dC (.int 4)) (aCons (dC (.int 3)) aNil))))) (dOp dSub (dVar 1) (dC (.int 1)))) aNil))) aNil)))))
/-- one to three letters and a length, of few words -/
def S_w_letters_and_length : FS := fun xs mu Q => ∃ m, mu = [m] ∧ FlowOk m ∧ xs = [.cel 0] ∧ ∀ (l : List Nat) (k : Nat) m', FlowOk m' → IsLetters l → 0 < l.length → l.length ≤ 3 → k ≤ 3 → (allW l k).length ≤ 15 → Q (.dv (.dat (.tup [.str l, .int (k : Int)]))) [m']
theorem len_w_letters_and_length : ∀ xs mu Q, S_w_letters_and_length xs mu Q → xs.length = 1 := fun xs mu Q h => by
  obtain ⟨m, _, _, rfl, _⟩ := h
  rfl
theorem allW_cnt (l : List Nat) : ∀ k, (allW l k).length = ((List.range (k + 1)).map fun i => l.length ^ i).foldl (· + ·) 0
  | 0 => rfl
  | k + 1 => by
    unfold allW
    rw [List.length_append, allW_cnt l k, len_lev, List.range_succ (n := k + 1), List.map_append, List.foldl_append]
    rfl
theorem allW_15 {l : List Nat} {k : Nat} (h : (l.length = 1 ∧ k ≤ 3) ∨ (l.length = 2 ∧ k ≤ 3) ∨ (l.length = 3 ∧ k ≤ 2)) : (allW l k).length ≤ 15 := by
  rw [allW_cnt]
  rcases h with ⟨e, h⟩ | ⟨e, h⟩ | ⟨e, h⟩
  · rw [e]
    have : k = 0 ∨ k = 1 ∨ k = 2 ∨ k = 3 := by omega
    rcases this with rfl | rfl | rfl | rfl <;> decide
  · rw [e]
    have : k = 0 ∨ k = 1 ∨ k = 2 ∨ k = 3 := by omega
    rcases this with rfl | rfl | rfl | rfl <;> decide
  · rw [e]
    have : k = 0 ∨ k = 1 ∨ k = 2 := by omega
    rcases this with rfl | rfl | rfl <;> decide
theorem rd_w_letters_and_length : Body t_w_letters_and_length ["_law_flow_here", "_law_many"] S_w_letters_and_length := fun xs mu Q h => by
  obtain ⟨m, rfl, fo, rfl, q⟩ := h
  refine ⟨by show 5 ≤ 1000; omega, ?_⟩
  refine ⟨fo.live, rfl, m, 5, rfl, fo, rfl, by omega, by omega, fun r m1 f1 r0 r1 => ?_⟩
  obtain ⟨d, a1, a2⟩ := some_atI (xs := [D.int 1, D.int 2, D.int 2, D.int 2, D.int 3]) (i := r) r0 (by show r < ((5 : Nat) : Int); omega)
  refine on_some a1 ?_
  obtain ⟨n, p, rfl, hp, hn⟩ : ∃ n p : Nat, d = .int (n : Int) ∧ L2.atI [D.int 4, D.int 4, D.int 3] ((n : Int) - 1) = some (.int (p : Int)) ∧ ((n = 1 ∧ p = 4) ∨ (n = 2 ∧ p = 4) ∨ (n = 3 ∧ p = 3)) := by
    have := List.mem_of_getElem? a2
    simp only [List.mem_cons, List.not_mem_nil, or_false] at this
    rcases this with rfl | rfl | rfl | rfl | rfl
    · exact ⟨1, 4, rfl, rfl, .inl ⟨rfl, rfl⟩⟩
    · exact ⟨2, 4, rfl, rfl, .inr (.inl ⟨rfl, rfl⟩)⟩
    · exact ⟨2, 4, rfl, rfl, .inr (.inl ⟨rfl, rfl⟩)⟩
    · exact ⟨2, 4, rfl, rfl, .inr (.inl ⟨rfl, rfl⟩)⟩
    · exact ⟨3, 3, rfl, rfl, .inr (.inr ⟨rfl, rfl⟩)⟩
  refine ⟨f1.live, rfl, m1, (n : Int), rfl, f1, rfl, by omega, by omega, fun l m2 f2 il ll => ?_⟩
  refine ⟨by show 3 ≤ 1000; omega, ?_⟩
  refine on_some hp ?_
  refine ⟨f2.live, rfl, m2, (p : Int), rfl, f2, rfl, by omega, by omega, fun s m3 f3 s0 s1 => ?_⟩
  obtain ⟨k, rfl⟩ := Int.eq_ofNat_of_zero_le s0
  refine ⟨by show 2 ≤ 1000; omega, ?_⟩
  exact q l k m3 f3 il (by omega) (by omega) (by omega) (allW_15 (by omega))

end Dx

namespace Dx
open PySem PySem.Spec PyProof.Rows L2
open Evl (Ex)
variable [Tb]
/-! #### sorted(d.values(), key=f), d with any keys -/
theorem paired_get {α β : Type} {F : α → β → Prop} : ∀ {l : List α} {m : List β}, Paired F l m → ∀ {i : Nat} {a : α} {b : β}, l[i]? = some a → m[i]? = some b → F a b
  | _, _, .nil, i, a, b, h, _ => by cases h
  | _, _, .cons h t, 0, a, b, h1, h2 => by
    cases h1
    cases h2
    exact h
  | _, _, .cons h t, i + 1, a, b, h1, h2 => paired_get t (i := i) h1 h2
def valsO (p d : Addr) : HO := .ext fun h => h.IsValuesView p d
theorem valsO_ok {P : Program} {w : World} {H : Hp} {h : Heap} {p d : Addr} (e : h.get? p = some { cls := .type "dict_values", data := .fields #[.ref d] }) : ObjOk P w H h p (valsO p d) :=
  ⟨⟨_, e, rfl, rfl⟩, ⟨_, e⟩, fun h1 h2 x k => let ⟨o, ho, r⟩ := x; ⟨o, k o ho, r⟩⟩
theorem src_vals {prog : Program} {w : World} {d r : Addr} {es : Array DictEntry} {ep : Nat} : PySem.W.KdlSrc prog w "dict_values" r d es.size (fun i v => ∃ hi : i < es.size, v = es[i].val) (fun h => h.IsValuesView r d ∧ h.DictRaw d es ep) where
  type := fun _ hm => hm.1.typeIs
  there := fun _ hm => ⟨let ⟨_, ho, _⟩ := hm.1; Heap.lt_size ho, let ⟨_, ho, _⟩ := hm.2; Heap.lt_size ho⟩
  keep := fun _ _ hm hk => ⟨let ⟨o, ho, x⟩ := hm.1; ⟨o, hk r (.inl rfl) o ho, x⟩, hm.2.at fun o e => hk d (.inr rfl) o e⟩
  notList := by decide
  notTuple := by decide
  hint := fun _ _ _ _ hm hq => PySem.W.kdl_hint_values hm.1.typeIs hq
  iter := fun _ s hh hm => ⟨_, _, (fun _ _ hq => wpAny_pyIter_values_raw hm.1 hm.2 hq), Walks.rawValues hh _ d (let ⟨_, ho, _⟩ := hm.2; Nat.ne_of_lt (Heap.lt_size ho)) es ep, ⟨⟨_, Heap.get?_push_size _ rfl, rfl, rfl⟩, hm.2.at fun o e => Heap.get?_push_of_some _ e⟩⟩
section
variable {X : Cx} {pins : List (Addr × Obj)} {σ : L2.St} {H : Hp} {s : Shared}
theorem coll_vals (hc : X.calm = true) (I : Inv X pins σ H s) {p a : Addr} {xs : List (NestedKey × V × V)} {ws : List Str} (hp : H p = some (valsO p a)) (ha : H a = some (DicN X.w a xs)) (hv : xs.map (·.2.2) = ws.map V.str) (hz : ws.length ≤ 100000) : Collects X s p ws := fun E Q q => by
  obtain ⟨⟨_, _, _, ys, pr, o, es, ep, h1, h2, h3, h4⟩, _⟩ := (show ObjOk X.prog X.w H s.heap a (DicN X.w a xs) from I.hok a _ ha)
  have view : s.heap.IsValuesView p a := (show ObjOk X.prog X.w H s.heap p (valsO p a) from I.hok p _ hp).1
  have lx : xs.length = ws.length := by
    have e := congrArg List.length hv
    rw [List.length_map, List.length_map] at e
    exact e
  have ly : ys.length = xs.length := (Paired.length pr).symm
  have ls : es.size = ys.length := by rw [← Array.length_toList, h4, List.length_map]
  refine PySem.W.kdu_collect (A := X.A.in1) (src_vals (es := es) (ep := ep)) (I.ok.hd hc) ⟨view, o, h1, h2, h3⟩ (by rw [ls, ly, lx]; exact Evl.sz_of hz) fun h' tk acc hk hacc => ?_
  have hal : acc.toList.length = ws.length := by rw [Array.length_toList, hacc.1, ls, ly, lx]
  have hS : StrsAre acc.toList ws := strs_at hal fun j v e => by
    obtain ⟨hi, e1⟩ := hacc.2 j v (by rw [← Array.getElem?_toList]; exact e)
    have hj : j < ys.length := by omega
    have hx : xs[j]? = some (xs[j]'(by omega)) := List.getElem?_eq_getElem _
    have hy : ys[j]? = some ys[j] := List.getElem?_eq_getElem hj
    obtain ⟨_, _, rv⟩ := paired_get pr hx hy
    have e2 : es[j].val = ys[j].2.2 := by
      have : es.toList[j]? = some es[j] := by rw [Array.getElem?_toList, Array.getElem?_eq_getElem hi]
      rw [h4, List.getElem?_map, hy] at this
      have e3 := Option.some.inj this
      rw [← e3]
    have hw : ws[j]? = some (ws[j]'(by omega)) := List.getElem?_eq_getElem _
    have e4 : (xs[j]'(by omega)).2.2 = V.str (ws[j]'(by omega)) := by
      have := congrArg (fun l => l[j]?) hv
      simp only [List.getElem?_map, hx, hw, Option.map_some] at this
      exact Option.some.inj this
    rw [e4] at rv
    obtain ⟨t, et⟩ := rv
    exact ⟨_, t, hw, by rw [e1, e2]; exact et⟩
  exact q _ _ _ (vals_of_strs hS) hk
def tNVals (w : World) (td : TE) : TE := fun σ H Q => td σ H fun x H1 => ∃ a xs', x = .ref a ∧ H1 a = some (DicN w a xs') ∧ ∀ p, H1 p = none → Q (.ref p) (upd H1 p (valsO p a))
theorem pe_nvals {o : Expr} {td : TE} {apos cpos : Pos} (ho : PE X o td) (hbase : attributeBase o "values" X.env (eval o X.env) = eval o X.env := by rfl) (hline : (apos.endLine == cpos.line) = true := by rfl) :
    PE X (.Call (.Attribute o "values" apos) [] [] cpos) (tNVals X.w td) := by
  refine ⟨fun pins s σ H Q I h => ?_⟩
  refine wpAny_Call_method0_late hbase hline (thn (ho.run pins s σ H _ I h) fun v s1 ⟨x, H1, I1, r1, a, xs', ex, ha, q⟩ => ?_)
  subst ex
  obtain rfl : v = Value.ref a := r1
  obtain ⟨t1, t2⟩ := n_typeIs I1 ha
  obtain ⟨⟨_, hd, _, _, _, o, es, ep, h1, h2, h3, _⟩, _⟩ := (show ObjOk X.prog X.w H1 s1.heap a (DicN X.w a xs') from I1.hok a _ ha)
  have hf : H1 s1.heap.objs.size = none := I1.hok.fresh (Nat.le_refl _)
  refine ⟨"dict", "dict.values", PySem.F.plainAttrs_dict, PySem.F.slot_dict_values, PySem.F.type_dict_values, t1, t2, Calls.callWith_builtin rfl (PySem.evalArgs_none ?_)⟩
  refine call_meetsIn PySem.F.slot_dict_values t1 PySem.F.entry_dict_values (PySem.F.args_dict_values_1 _) (meets_dict_values_raw a hd) ⟨⟨es, ep, o, h1, h2, h3⟩, ?_⟩
  exact ⟨.ref s1.heap.objs.size, upd H1 s1.heap.objs.size (valsO s1.heap.objs.size a), I1.laid (t' := s1.toks) (fun b u e => Heap.get?_push_of_some _ e) (Nat.le_refl _) (valsO_ok (Heap.get?_push_size _ rfl)), rfl, q _ hf⟩
end
def fSortVals (w : World) (te : DE) : DF := fun rho mu Q => te rho mu fun x mu1 => onSome (ndic mu1 x) fun p => p.1 = w ∧ onSome (toSs p.2.2) fun ws => ws.length ≤ 100000 ∧ (∀ w ∈ ws, w.length ≤ 100000) ∧ ∀ ys : List (List Nat), ys.Perm ws → (ys.Pairwise fun a b => ltW b a = false) → Q (.lst (ys.map D.str)) mu1
theorem zip3_vals : ∀ {ks us vs : List V} {ns : List NestedKey}, ns.length = us.length → ns.length = vs.length → (zip3 ns us vs).map (·.2.2) = vs
  | _, [], [], [], _, _ => rfl
  | ks, u :: us, v :: vs, n :: ns, h1, h2 => by
    show v :: (zip3 ns us vs).map (·.2.2) = _
    rw [zip3_vals (ks := ks) (by simpa using h1) (by simpa using h2)]
  | _, [], _ :: _, [], _, h => by cases h
  | _, _ :: _, _, [], h, _ => by cases h
  | _, [], _, _ :: _, h, _ => by cases h
  | _, _, [], _ :: _, _, h => by cases h
theorem nkDs_len : ∀ ks : List D, (nkDs ks).length = ks.length
  | [] => rfl
  | k :: ks => by
    show (nkDs ks).length + 1 = _
    rw [nkDs_len ks]
    rfl
section
variable {X : Cx} {e : Expr} {te : DE} {x : Str} {ps : List Str} {k : Nat} {pos p p2 p3 ap cp : Pos}
theorem cf_sortVals (hc : X.calm = true) (G : Cal X.prog X.w X.K X.mg X.base k x ps S_order) (hr : Room (k + 2) X.A) (hm : X.mg "sorted" = none) (he : CE X e te) (hg : Gl X "sorted" := by rfl) (hgx : Gl X x := by rfl) (hd : (x == ("__debug__" : Str)) = false := by decide)
    (hbase : attributeBase e "values" X.env (eval e X.env) = eval e X.env := by rfl) (hline : (ap.endLine == cp.line) = true := by rfl)
    (hs : starEach [.Call (.Attribute e "values" ap) [] [] cp] X.env = (false, eval (.Call (.Attribute e "values" ap) [] [] cp) X.env) :: starEach [] X.env := by rfl)
    (h1 : backTo pos (starEach [.Call (.Attribute e "values" ap) [] [] cp] X.env) = (false, eval (.Call (.Attribute e "values" ap) [] [] cp) X.env) :: backTo pos (starEach [] X.env) := by rfl) (h2 : (backTo pos (starEach [.Call (.Attribute e "values" ap) [] [] cp] X.env)).any (·.1) = false := by rfl)
    (h3 : (backToKw pos (keywordEach [⟨some "key", .Name x p2, p3⟩] X.env)).all (·.1.isSome) = true := by rfl) (h4 : (backToKw pos (keywordEach [⟨some "key", .Name x p2, p3⟩] X.env)).any (·.1.isNone) = false := by rfl) (h5 : (backToKw pos (keywordEach [⟨some "key", .Name x p2, p3⟩] X.env)).filterMap (·.1) = [Str.ofString "key"] := by rfl) :
    CF X (.Call (.Name "sorted" p) [.Call (.Attribute e "values" ap) [] [] cp] [⟨some "key", .Name x p2, p3⟩] pos) (fSortVals X.w te) := by
  obtain ⟨f, fd, g, m, kp, b⟩ := G.ok
  obtain ⟨t, pe, ge⟩ := he.ok
  refine ⟨_, pe_callBK (ks := [Str.ofString "key"]) (r := fun vs zs H Q => ∃ a ws, vs = [V.ref a] ∧ zs = [V.ref f] ∧ LamX.Tabs Tb.tabs H ∧ (∀ pins s σ, Inv X pins σ H s → Collects X s a (ws.map mkS)) ∧ ws.length ≤ 100000 ∧ (∀ w ∈ ws, w.length ≤ 100000) ∧
      ∀ (D : Addr) (H' : Hp) (ys : List (List Nat)), Kept H H' → H D = none → H' D = some (.lst ((ys.map mkS).map V.str)) → ys.Perm ws → (ys.Pairwise fun a b => ltW b a = false) → Q (.ref D) H')
    (fun pins s σ H xs zs us ws' Q I r1 r2 h => ?_) hg hm (by rfl) (pa_cons (pe_nvals pe hbase hline) pa_nil hs) (pk_cons (pe_glob (v := .ref f) hgx m rfl hd) pk_nil) (by decide) (by decide) h1 h2 h3 h4 h5, fun F al rho mu σ H Q R S q l => ?_⟩
  · obtain ⟨a, ws, rfl, rfl, ht, hcol, hz, hw, q⟩ := h
    have e1 := Vals.ref1 r1
    have e2 := Vals.ref1 r2
    subst e1
    subst e2
    refine call_sorted_key I (ws := ws.map mkS) (hcol _ _ _ I) (by rw [List.length_map]; exact hz) (fun w hm => ?_) fun D H' s' ys J k1 n0 d1 y2 y3 => ?_
    · obtain ⟨w', h', rfl⟩ := List.mem_map.mp hm
      exact key_turn g b hr H ht w' (hw w' h')
    · have ey := unmk ys
      generalize (ys.map fun y => y.cps.toList) = zs at ey
      subst ey
      refine ⟨.ref D, H', J, rfl, q D H' zs k1 n0 d1 ?_ ?_⟩
      · have := y2.map (fun y : Str => y.cps.toList)
        rw [List.map_map, List.map_map] at this
        have id1 : ((fun y : Str => y.cps.toList) ∘ mkS) = id := rfl
        rw [id1, List.map_id, List.map_id] at this
        exact this
      · rw [List.pairwise_map] at y3
        exact y3.imp fun {a b} h => by rw [← ltS_mk]; exact h
  · refine ge F al rho mu σ H _ _ S q fun F1 al1 y mu1 v H1 E1 C1 r1 q1 => ?_
    obtain ⟨pr, hpr, ew, q1⟩ := onSome_out q1
    obtain ⟨ws, hw, hz, hlw, q2⟩ := onSome_out q1
    obtain ⟨a, us, vs, ev, hH, hl, rk, rl⟩ := ndic_out C1 r1 hpr
    rw [ew] at hH
    refine ⟨a, _, ev, hH, fun pv hpv => ?_⟩
    have E2 : Ext F1 al1 H1 F1 al1 (upd H1 pv (valsO pv a)) := Ext.loose hpv
    have C2 : Cels F1 al1 mu1 (upd H1 pv (valsO pv a)) := C1.loose hpv
    have hne : a ≠ pv := fun z => by rw [z, hpv] at hH; cases hH
    have hH2 : upd H1 pv (valsO pv a) a = some (DicN X.w a (zip3 (nkDs pr.2.1) us vs)) := by rw [upd_ne hne]; exact hH
    have hv : (zip3 (nkDs pr.2.1) us vs).map (·.2.2) = (ws.map mkS).map V.str := by
      rw [zip3_vals (ks := us) (by rw [nkDs_len, rk.len]) (by rw [nkDs_len, rl.len, hl])]
      have e := toSs_map hw
      rw [e] at rl
      exact rl.strs
    refine ⟨pv, ws, rfl, rfl, C2.tb, fun pins s σ I => coll_vals hc I upd_same hH2 hv (by rw [List.length_map]; exact hz), hz, hlw, fun D0 H' ys k1 n0 d1 y1 y2 => ?_⟩
    have nF : F1 D0 = none := by
      cases z : F1 D0 with
      | none => rfl
      | some o =>
        have := C2.ex _ _ z
        rw [n0] at this
        cases this
    refine l F1 al1 (.lst (ys.map D.str)) mu1 D0 H' ((E1.trans E2).trans (Ext.up C2 k1)) (C2.up k1) (C2.not_al n0) ?_ rfl ⟨nF, _, d1, repl_strs ys⟩ (q2 ys y1 y2)
    exact none_back ((E1.trans E2).dm D0) n0
end

end Dx

namespace Dx
open PySem PySem.Spec PyProof.Rows L2
open Evl (Ex)
variable [Tb]
/-! #### forms, all of them -/
def FormsOf (L : List Nat) (k : Nat) (ys : List (List Nat)) : Prop := ∃ line at', Bfs (clsA k) L line at' 0 ∧ line.length ≤ at' ∧ ys.Perm (line.map (·.1)) ∧ OrdW ys
theorem Bfs.words_in {k : Nat} {L : List Nat} {l1 l2 : List (List Nat × List (List Nat))} {a1 a2 : Nat} (B1 : Bfs (clsA k) L l1 a1 0) (B2 : Bfs (clsA k) L l2 a2 0) (h2 : l2.length ≤ a2) {w : List Nat} (h : w ∈ l1.map (·.1)) : w ∈ l2.map (·.1) := by
  obtain ⟨p, hp, rfl⟩ := List.mem_map.mp h
  obtain ⟨r1, r2⟩ := B1.run p hp
  obtain ⟨q, hq, e, hl⟩ := B2.all h2 r1 r2
  obtain ⟨s1, s2⟩ := B2.run q hq
  have l3 := B1.least p hp q.1 (by rw [s1, e]) s2
  have e2 : p.1 = q.1 := ltW_tri hl l3
  rw [e2]
  exact List.mem_map.mpr ⟨q, hq, rfl⟩
theorem Bfs.words_nd {k : Nat} {L : List Nat} {l1 : List (List Nat × List (List Nat))} {a1 : Nat} (B1 : Bfs (clsA k) L l1 a1 0) : (l1.map (·.1)).Nodup := by
  show List.Pairwise (· ≠ ·) _
  rw [List.pairwise_map]
  exact B1.sorted.imp fun {a b} h e => by rw [e, ltW_irr] at h; cases h
theorem forms_uniq {L : List Nat} {k : Nat} {ys zs : List (List Nat)} (h : FormsOf L k ys) (h' : FormsOf L k zs) : ys = zs := by
  obtain ⟨l1, a1, B1, c1, p1, o1⟩ := h
  obtain ⟨l2, a2, B2, c2, p2, o2⟩ := h'
  refine ordW_uniq o1 o2 (p1.trans (((List.perm_ext_iff_of_nodup B1.words_nd B2.words_nd).mpr fun w => ⟨B1.words_in B2 c2, B2.words_in B1 c1⟩).trans p2.symm))
theorem forms_in {L : List Nat} {k : Nat} {ys : List (List Nat)} (h15 : (allW L k).length ≤ 15) (h : FormsOf L k ys) : ys.length ≤ 32768 ∧ ∀ w ∈ ys, (∀ c ∈ w, c ∈ L) ∧ w.length ≤ 32768 := by
  obtain ⟨l1, a1, B1, c1, p1, o1⟩ := h
  have few := B1.few h15
  refine ⟨by rw [p1.length_eq, List.length_map]; exact few, fun w hw => ?_⟩
  obtain ⟨p, hp, rfl⟩ := List.mem_map.mp (p1.mem_iff.mp hw)
  obtain ⟨i, hi⟩ := List.mem_iff_getElem?.mp hp
  have := B1.word_len (i + 1) i (by omega) p hi
  have := (List.getElem?_eq_some_iff.mp hi).1
  exact ⟨(B1.run p hp).2, by omega⟩
/-- the walk over a dict of first texts -/
theorem vals_toSs (line : List (List Nat × List (List Nat))) : toSs ((fl line).map fun p => kmC.vd p.2) = some (line.map (·.1)) := by
  have e : ((fl line).map fun p => kmC.vd p.2) = (line.map (·.1)).map D.str := by
    unfold fl
    rw [List.map_map, List.map_map]
    rfl
  rw [e]
  exact toSs_of _
theorem vals_len {L : List Nat} {k : Nat} {line : List (List Nat × List (List Nat))} {a : Nat} (h15 : (allW L k).length ≤ 15) (B : Bfs (clsA k) L line a 0) : (line.map (·.1)).length ≤ 100000 ∧ ∀ w ∈ line.map (·.1), w.length ≤ 100000 := by
  have few := B.few h15
  refine ⟨by rw [List.length_map]; omega, fun w hw => ?_⟩
  obtain ⟨p, hp, rfl⟩ := List.mem_map.mp hw
  obtain ⟨i, hi⟩ := List.mem_iff_getElem?.mp hp
  have := B.word_len (i + 1) i (by omega) p hi
  have := (List.getElem?_eq_some_iff.mp hi).1
  omega
def S_forms : FS := fun xs mu Q => ∃ (L : List Nat) (k : Nat), xs = [.dat (.str L), .dat (.int (k : Int))] ∧ mu = [] ∧ L.Pairwise (· < ·) ∧ (allW L k).length ≤ 15 ∧ k ≤ 6 ∧ L.length ≤ 3 ∧ ∀ ys, FormsOf L k ys → Q (.new (.lst (ys.map D.str))) []
theorem len_forms : ∀ xs mu Q, S_forms xs mu Q → xs.length = 2 := fun xs mu Q h => by
  obtain ⟨_, _, rfl, _⟩ := h
  rfl
def t_forms (E : World) : DS :=
  (dRetF (fSortVals E (dCall (S_first_texts E) (aCons (dVar 0) (aCons (dVar 1) (aCons (dC .non) aNil))))))
theorem rd_forms {E : World} : Body (t_forms E) ["letters", "k"] S_forms := fun xs mu Q h => by
  obtain ⟨L, k, rfl, rfl, rise, h15, hk, hl, q⟩ := h
  refine ⟨rfl, L, k, none, rfl, rfl, rise, h15, hk, hl, fun line at' B hw => ?_⟩
  have hw : line.length ≤ at' := hw.elim (fun ⟨_, z, _⟩ => nomatch z) id
  refine ⟨rfl, ?_⟩
  obtain ⟨v1, v2⟩ := vals_len h15 B
  refine on_some (vals_toSs line) ⟨v1, v2, fun ys pm so => ?_⟩
  exact q ys ⟨line, at', B, hw, pm, so⟩

end Dx

namespace Dx
open PySem PySem.Spec PyProof.Rows L2
open Evl (Ex)
variable [Tb]
/-! #### t > u (a number, a text each), x in a list of any data -/
theorem hu65 {k : Nat} {A : Around} (r : Room k A) : A.units + 65 < cLine := by
  have := r.un
  omega
def dInP : D2 := fun x y mu Q => onSome (rdD mu x) fun d => onSome (rdD mu y) fun e => match e with
  | .lst ds => okD 60 d = true ∧ okD 60 (.lst ds) = true ∧ Q (.dat (.bl (ds.any fun z => eqD z d))) mu
  | _ => False
theorem toPys_map : ∀ ds : List D, toPys ds = ds.map toPy
  | [] => rfl
  | d :: ds => by
    show toPy d :: toPys ds = _
    rw [toPys_map ds]
    rfl
section
variable {X : Cx}
theorem oInP (hu : X.A.units + 65 < cLine) : OpD X (compareOp .In) dInP := ⟨_, op_inD hu, fun F al mu H x y v u Q R c rx ry q l => by
  obtain ⟨d, e1, q⟩ := onSome_out q
  obtain ⟨e, e2, q⟩ := onSome_out q
  cases e with
  | lst ds =>
    obtain ⟨o1, o2, q⟩ := q
    have h := rdD_dp (K := X.K) c ry e2 o2
    have s2 := okD_shaped o2 (by decide)
    rw [toPy] at h s2
    refine ⟨toPy d, _, rdD_dp c rx e1 o1, h, okD_shaped o1 (by decide), s2, ?_⟩
    have e3 : ((toPys ds).any fun z => PyData.eqv z (toPy d)) = ds.any fun z => eqD z d := by
      rw [toPys_map, List.any_map]
      rfl
    rw [e3]
    exact l F al _ mu _ H Ext.refl c rv_bl q
  | _ => exact q.elim⟩
def rGtD (K : PySem.W.Frag) : R2 := fun x y H Q => ∃ d e, Dp K H x d ∧ Dp K H y e ∧ PySem.W.alike d e = true ∧ d ≠ .none ∧ min d.depth e.depth ≤ 60 ∧ Q (.bl (PySem.W.dataLt e d)) H
theorem op_gtD (hu : X.A.units + 64 < cLine) : OpR X (compareOp .Gt) (rGtD X.K) := by
  intro pins s σ H x y v u Q I rx ry h
  obtain ⟨d, e, hd, he, ha, hn, hm, q⟩ := h
  obtain ⟨as, r1⟩ := Dp.reads I d x v hd rx
  obtain ⟨bs, r2⟩ := Dp.reads I e y u he ry
  exact PySem.W.gt_data r1 r2 ha hn (by omega) ⟨.bl _, H, I, rfl, q⟩
def orderD (w : List Nat) : D := .tup [.int ((w.length : Nat) : Int), .str w]
/-- word_order(v) > word_order(w) -/
def dGtO : D2 := fun x y mu Q => ∃ v w, x = .dat (orderD v) ∧ y = .dat (orderD w) ∧ okD 60 (orderD v) = true ∧ okD 60 (orderD w) = true ∧ Q (.dat (.bl (ltW w v))) mu
theorem dataLt_order (a b : List Nat) : PySem.W.dataLt (toPy (orderD a)) (toPy (orderD b)) = ltW a b := by
  have e1 : toPy (orderD a) = .tuple [.int ((a.length : Nat) : Int), .str (mkS a)] := rfl
  have e2 : toPy (orderD b) = .tuple [.int ((b.length : Nat) : Int), .str (mkS b)] := rfl
  rw [e1, e2, PySem.W.dataLt_tuple]
  unfold ltW
  by_cases h : a.length = b.length
  · rw [PySem.W.dataLt_all_yes (x := .int ((a.length : Nat) : Int)) (y := .int ((b.length : Nat) : Int)) rfl (by rw [h]; exact beq_self_eq_true _)]
    rw [decide_eq_false (show ¬ a.length < b.length by omega), decide_eq_true h, Bool.false_or, Bool.true_and]
    by_cases e : a = b
    · subst e
      rw [PySem.W.dataLt_all_yes (x := .str (mkS a)) (y := .str (mkS a)) rfl (by exact beq_self_eq_true _)]
      rw [decide_eq_false (List.lt_irrefl a)]
      rfl
    · rw [PySem.W.dataLt_all_no (x := .str (mkS a)) (y := .str (mkS b)) rfl (by
        show ((mkS a) == (mkS b)) = false
        exact beq_false_of_ne fun z => e (mkS_inj z))]
      rw [PySem.W.dataLt_str]
      rfl
  · rw [PySem.W.dataLt_all_no (x := .int ((a.length : Nat) : Int)) (y := .int ((b.length : Nat) : Int)) rfl (by
      show (((a.length : Nat) : Int) == ((b.length : Nat) : Int)) = false
      exact beq_false_of_ne fun z => h (by omega))]
    rw [PySem.W.dataLt_int, decide_eq_false h, Bool.false_and, Bool.or_false]
    exact decide_eq_decide.mpr (by omega)
theorem oGtO (hu : X.A.units + 64 < cLine) : OpD X (compareOp .Gt) dGtO := ⟨_, op_gtD hu, fun F al mu H x y v u Q R c rx ry q l => by
  obtain ⟨a, b, e1, e2, o1, o2, q⟩ := q
  subst e1
  subst e2
  refine ⟨toPy (orderD a), toPy (orderD b), rdD_dp c rx rfl o1, rdD_dp c ry rfl o2, rfl, (fun z => nomatch z), Nat.le_trans (Nat.min_le_left _ _) (by show 1 ≤ 60; omega), ?_⟩
  rw [dataLt_order]
  exact l F al _ mu _ H Ext.refl c rv_bl q⟩
end

end Dx

namespace Dx
open PySem PySem.Spec PyProof.Rows L2
open Evl (Ex)
variable [Tb]
/-! #### forms and alike texts -/
theorem form_over {t u v : List Nat} {k : Nat} {s : List (List Nat)} (ht : (clsA k).run u = some s) (hv : (clsA k).run v = some s) (least : ltW [] v = false ∨ 0 < k) : ∀ c ∈ v, c ∈ u := by
  by_cases hk : 0 < k
  · intro c hc
    have m1 : [c] ∈ s := ((cls_words v hv).2.2 [c]).mpr ⟨List.singleton_sublist.mpr hc, by show 1 ≤ k; omega⟩
    exact List.singleton_sublist.mp (((cls_words u ht).2.2 [c]).mp m1).1
  · rcases least with h | h
    · have e : v = [] := by
        by_cases z : v = []
        · exact z
        · rw [ltW_nil z] at h
          cases h
      subst e
      exact fun c hc => nomatch hc
    · exact absurd h hk
theorem words_zero (t : List Nat) : WordsOf t 0 [[]] := ⟨List.pairwise_singleton .., by simp, fun w => by
  rw [List.mem_singleton]
  constructor
  · rintro rfl
    exact ⟨List.nil_sublist _, Nat.le_refl _⟩
  · rintro ⟨_, h⟩
    exact List.length_eq_zero_iff.mp (by omega)⟩
theorem form_nil {t v : List Nat} {k : Nat} (h : FormOf t k v) : ltW [] v = false ∨ 0 < k := by
  by_cases hk : 0 < k
  · exact .inr hk
  · have e : k = 0 := by omega
    subst e
    obtain ⟨s, h1, h2, h3, h4⟩ := h
    have e3 : s = [[]] := wordsOf_uniq (cls_words t h1) (words_zero t)
    exact .inl (h4 [] (by rw [e3]; rfl) (fun c hc => nomatch hc))
theorem form_same {t u v w : List Nat} {k : Nat} (h : FormOf t k v) (h' : FormOf u k w) : v = w ↔ AlikeTo t u k := by
  have n1 := form_nil h
  have n2 := form_nil h'
  obtain ⟨s, h1, h2, h3, h4⟩ := h
  obtain ⟨s', g1, g2, g3, g4⟩ := h'
  rw [← words_same (cls_words t h1) (cls_words u g1)]
  constructor
  · intro e
    subst e
    rw [h2] at g2
    exact Option.some.inj g2
  · intro e
    subst e
    exact ltW_tri (g4 v h2 (form_over (t := t) g1 h2 n1)) (h4 w g2 (form_over (t := u) h1 g2 n2))
theorem form_alike {t w : List Nat} {k : Nat} (h : FormOf t k w) : AlikeTo w t k := by
  obtain ⟨s, h1, h2, h3, h4⟩ := h
  exact (words_same (cls_words w h2) (cls_words t h1)).mp rfl
theorem form_len {t w : List Nat} {k : Nat} (h : FormOf t k w) : ltW t w = false ∧ w.length ≤ t.length ∧ ∀ c ∈ w, c ∈ t := by
  obtain ⟨s, h1, h2, h3, h4⟩ := h
  have z := h4 t h1 (fun c hc => hc)
  refine ⟨z, ?_, h3⟩
  by_cases c : t.length < w.length
  · rw [ltW_iff.mpr (.inl c)] at z
    cases z
  · omega
theorem alike_subs {t u : List Nat} {k : Nat} (h : AlikeTo t u k) {w : List Nat} (hw : w.length ≤ k) : w.Sublist t ↔ w.Sublist u := by
  rw [← sub_iff, ← sub_iff, h w hw]
theorem alike_of_subs {t u : List Nat} {k : Nat} (h : ∀ w : List Nat, w.length ≤ k → (w.Sublist t ↔ w.Sublist u)) : AlikeTo t u k := fun w hw => by
  have := h w hw
  rw [← sub_iff, ← sub_iff] at this
  exact eqB_of this
theorem alike_snoc {t u : List Nat} {k c : Nat} (h : AlikeTo t u k) : AlikeTo (t ++ [c]) (u ++ [c]) k := by
  refine alike_of_subs fun w hw => ?_
  rw [sub_snoc, sub_snoc]
  constructor
  · rintro (z | ⟨v, z, e⟩)
    · exact .inl ((alike_subs h hw).mp z)
    · exact .inr ⟨v, (alike_subs h (by rw [e, List.length_append, List.length_singleton] at hw; omega)).mp z, e⟩
  · rintro (z | ⟨v, z, e⟩)
    · exact .inl ((alike_subs h hw).mpr z)
    · exact .inr ⟨v, (alike_subs h (by rw [e, List.length_append, List.length_singleton] at hw; omega)).mpr z, e⟩
theorem sub_cons {w t : List Nat} {c : Nat} : w.Sublist (c :: t) ↔ w.Sublist t ∨ ∃ v, v.Sublist t ∧ w = c :: v := by
  rw [List.sublist_cons_iff]
  constructor
  · rintro (h | ⟨r, e, h⟩)
    · exact .inl h
    · exact .inr ⟨r, h, e⟩
  · rintro (h | ⟨r, h, e⟩)
    · exact .inl h
    · exact .inr ⟨r, e, h⟩
theorem alike_cons {t u : List Nat} {k c : Nat} (h : AlikeTo t u k) : AlikeTo (c :: t) (c :: u) k := by
  refine alike_of_subs fun w hw => ?_
  rw [sub_cons, sub_cons]
  constructor
  · rintro (z | ⟨v, z, e⟩)
    · exact .inl ((alike_subs h hw).mp z)
    · exact .inr ⟨v, (alike_subs h (by rw [e, List.length_cons] at hw; omega)).mp z, e⟩
  · rintro (z | ⟨v, z, e⟩)
    · exact .inl ((alike_subs h hw).mpr z)
    · exact .inr ⟨v, (alike_subs h (by rw [e, List.length_cons] at hw; omega)).mpr z, e⟩
/-- a form stands among all forms -/
theorem form_among {L t w : List Nat} {k : Nat} {ys : List (List Nat)} (hf : FormOf t k w) (tc : ∀ c ∈ t, c ∈ L) (hy : FormsOf L k ys) : w ∈ ys := by
  obtain ⟨line, a, B, ca, pm, _⟩ := hy
  have nl := form_nil hf
  obtain ⟨s, h1, h2, h3, h4⟩ := hf
  obtain ⟨p, hp, e, _⟩ := B.all ca h1 tc
  obtain ⟨r1, r2⟩ := B.run p hp
  rw [e] at r1
  have l1 := B.least p hp w (by rw [e]; exact h2) (fun c hc => tc c (h3 c hc))
  have pn : ltW [] p.1 = false ∨ 0 < k := by
    by_cases hk : 0 < k
    · exact .inr hk
    · have e0 : k = 0 := by omega
      subst e0
      have e3 : s = [[]] := wordsOf_uniq (cls_words t h1) (words_zero t)
      exact .inl (B.least p hp [] (by rw [e, e3]; rfl) (fun c hc => nomatch hc))
  have e5 : w = p.1 := ltW_tri l1 (h4 p.1 r1 (form_over (t := w) h1 r1 pn))
  rw [e5]
  exact pm.mem_iff.mpr (List.mem_map.mpr ⟨p, hp, rfl⟩)
theorem str_flat : ∀ ys : List (List Nat), (ys.map D.str).all flatD = true
  | [] => rfl
  | _ :: ys => by rw [List.map_cons, List.all_cons, str_flat ys]; rfl
theorem inD_str (w : List Nat) : ∀ ys : List (List Nat), w ∈ ys → inD (.str w) (ys.map D.str) = true
  | y :: ys, h => by
    unfold inD
    rw [List.map_cons, List.any_cons]
    rcases List.mem_cons.mp h with e | h
    · subst e
      have : eqF (.str w) (.str w) = true := by
        exact beq_self_eq_true _
      rw [this]
      rfl
    · have ih := inD_str w ys h
      unfold inD at ih
      rw [ih, Bool.or_true]
theorem eq_place (p q : Nat × Nat) : eqD (placeD p) (placeD q) = decide (p = q) := by
  have e : eqD (placeD p) (placeD q) = (eqD (natD p.1) (natD q.1) && (eqD (.str [p.2]) (.str [q.2]) && true)) := rfl
  have e1 : eqD (natD p.1) (natD q.1) = decide (p.1 = q.1) := by
    show eqD (.int _) (.int _) = _
    rw [eqD_int]
    exact decide_eq_decide.mpr (by omega)
  rw [e, e1, eqD_str, Bool.and_true]
  obtain ⟨a, b⟩ := p
  obtain ⟨c, d⟩ := q
  by_cases h1 : a = c
  · subst h1
    rw [decide_eq_true rfl, Bool.true_and]
    refine decide_eq_decide.mpr ?_
    simp
  · rw [decide_eq_false h1, Bool.false_and]
    exact (decide_eq_false fun z => h1 (congrArg Prod.fst z)).symm
theorem any_place (p : Nat × Nat) (l : List (Nat × Nat)) : ((l.map placeD).any fun z => eqD z (placeD p)) = true ↔ p ∈ l := by
  rw [List.any_map, List.any_eq_true]
  constructor
  · rintro ⟨q, hq, e⟩
    have e : eqD (placeD q) (placeD p) = true := e
    rw [eq_place, decide_eq_true_iff] at e
    rw [← e]
    exact hq
  · intro h
    refine ⟨p, h, ?_⟩
    show eqD (placeD p) (placeD p) = true
    rw [eq_place, decide_eq_true rfl]
theorem mem_fillL {l t : List Nat} {k i c : Nat} (hi : i < t.length + 1) (hc : c ∈ l) : (i, c) ∈ fillL l t k ↔ AlikeTo (putIn t i c) t k := by
  unfold fillL
  rw [List.mem_flatMap]
  constructor
  · rintro ⟨j, _, h⟩
    obtain ⟨d, hd, e⟩ := List.mem_map.mp h
    cases e
    exact alikeB_iff.mp (List.mem_filter.mp hd).2
  · intro h
    exact ⟨i, List.mem_range.mpr hi, List.mem_map.mpr ⟨c, List.mem_filter.mpr ⟨hc, alikeB_iff.mpr h⟩, rfl⟩⟩
theorem mem_looseL {t : List Nat} {k i : Nat} (hi : i < t.length) : i ∈ looseL t k ↔ AlikeTo (leftOut t i) t k := by
  unfold looseL
  rw [List.mem_filter, alikeB_iff]
  exact ⟨fun h => h.2, fun h => ⟨List.mem_range.mpr hi, h⟩⟩

end Dx

namespace Dx
open PySem PySem.Spec PyProof.Rows L2
open Evl (Ex)
variable [Tb]
/-! #### arches, told exactly -/
/-- how many letters' words all lie spread: `uni`; a word of one letter more that does not: `lack` -/
structure ArchN (L t : List Nat) (n : Nat) : Prop where
  uni : ∀ w : List Nat, (∀ c ∈ w, c ∈ L) → w.length ≤ n → w.Sublist t
  lack : ∃ w : List Nat, (∀ c ∈ w, c ∈ L) ∧ w.length = n + 1 ∧ ¬ w.Sublist t
theorem ArchN.uniq {L t : List Nat} {m n : Nat} (h : ArchN L t m) (h' : ArchN L t n) : m = n := by
  have key : ∀ {m n : Nat}, ArchN L t m → ArchN L t n → ¬ m < n := fun {m n} h h' hl => by
    obtain ⟨w, w1, w2, w3⟩ := h.lack
    exact w3 (h'.uni w w1 (by omega))
  have := key h h'
  have := key h' h
  omega
theorem take_sub {t : List Nat} {a b : Nat} (h : a ≤ b) : (t.take a).Sublist (t.take b) := by
  have e : t.take a = (t.take b).take a := by rw [List.take_take, Nat.min_eq_left h]
  rw [e]
  exact List.take_sublist _ _
/-- a word and a letter behind it, in the first places of a text -/
theorem sub_take_snoc {u t : List Nat} {c b : Nat} (h : (u ++ [c]).Sublist (t.take b)) : ∃ i, i < b ∧ t[i]? = some c ∧ u.Sublist (t.take i) := by
  induction b with
  | zero =>
    rw [List.take_zero, List.sublist_nil] at h
    simp at h
  | succ b ih =>
    cases hb : t[b]? with
    | none =>
      have e : t.take (b + 1) = t.take b := by
        rw [List.take_add_one, hb]
        simp
      rw [e] at h
      obtain ⟨i, h1, h2, h3⟩ := ih h
      exact ⟨i, by omega, h2, h3⟩
    | some d =>
      have e : t.take (b + 1) = t.take b ++ [d] := by rw [List.take_add_one, hb]; rfl
      rw [e, sub_snoc] at h
      rcases h with h | ⟨v, h1, h2⟩
      · obtain ⟨i, h1, h2, h3⟩ := ih h
        exact ⟨i, by omega, h2, h3⟩
      · obtain ⟨e1, e2⟩ := snoc_inj h2
        subst e1
        subst e2
        exact ⟨b, by omega, hb, h1⟩
/-- where an arch ends -/
def EndsAt (L t : List Nat) (a e : Nat) : Prop := a < e ∧ e ≤ t.length ∧ (∀ c ∈ L, ∃ i, a ≤ i ∧ i < e ∧ t[i]? = some c) ∧ ∃ c ∈ L, ∀ i, a ≤ i → i + 1 < e → t[i]? ≠ some c
def EndsNot (L t : List Nat) (a : Nat) : Prop := ∃ c ∈ L, ∀ i, a ≤ i → t[i]? ≠ some c
def S_arch_end : FS := fun xs mu Q => ∃ (L t : List Nat) (a : Nat), xs = [.dat (.str L), .dat (.str t), .dat (.int (a : Int))] ∧ mu = [] ∧ 0 < L.length ∧ L.length ≤ 26 ∧ t.length ≤ 200 ∧ a ≤ t.length ∧
  (∀ e : Nat, EndsAt L t a e → Q (.dv (.dat (.int (e : Int)))) []) ∧ (EndsNot L t a → Q (.dv (.dat .non)) [])
theorem len_arch_end : ∀ xs mu Q, S_arch_end xs mu Q → xs.length = 3 := fun xs mu Q h => by
  obtain ⟨_, _, _, rfl, _⟩ := h
  rfl
def t_arch_end : DS :=
  (dSeq (dSet 3 (dNew (fLst aNil)))
  (dSeq (dFor (iStrD (dVar 0)) (dgN 4)
  (dSeq (dSet 5 (dBM "str" dFind3 (dVar 1) (aCons (dVar 4) (aCons (dVar 2) aNil))))
  (dSeq (dIf (dTest (dOp dLt (dVar 5) (dC (.int 0))))
  (dRet (dC .non))
  dNext)
  (dDrop (dBM "list" dAppend (dVar 3) (aCons (dOp dAdd (dVar 5) (dC (.int 1))) aNil))))))
  (dRet (dCB dMax (aCons (dVar 3) aNil)))))
theorem rd_arch_end : Body t_arch_end ["letters", "text", "at", "ends", "letter", "there"] S_arch_end := fun xs mu Q h => by
  obtain ⟨L, t, a, rfl, rfl, l0, l26, ht, ha, q1, q2⟩ := h
  refine ⟨by show 0 ≤ 1000; omega, ?_⟩
  refine for_inv (fun j rho mu => ∃ (ns : List Nat) (x4 x5 : Option DV), mu = [.lst (ns.map natD)] ∧ ns.length = j ∧ (∀ n ∈ ns, a < n ∧ n ≤ t.length ∧ ∃ c ∈ L, ∀ i, a ≤ i → i + 1 < n → t[i]? ≠ some c) ∧ (∀ c ∈ L.take j, ∃ n ∈ ns, t[n - 1]? = some c) ∧
    rho = [some (.dat (.str L)), some (.dat (.str t)), some (.dat (.int (a : Int))), some (.cel 0), x4, x5]) ⟨[], none, none, rfl, rfl, by simp, by simp, rfl⟩ (fun j d rho mu K hd hp ke => ?_) (fun rho mu hp => ?_)
  · obtain ⟨ns, x4, x5, rfl, nl, nb, nc, rfl⟩ := hp
    have hj2 := (List.getElem?_eq_some_iff.mp hd).1
    rw [List.length_map] at hj2
    obtain ⟨c, hc, rfl⟩ := str_at hd
    have hcm := List.mem_of_getElem? hc
    refine ⟨rfl, ?_⟩
    refine dFind_run (t := t) (c := c) (k := (a : Int)) (by omega) ?_
    rw [Int.toNat_natCast]
    cases e : findFrom t c a with
    | none =>
      exact q2 ⟨c, hcm, fun i hi => find_none e i hi⟩
    | some i =>
      obtain ⟨f1, f2, f3, f4⟩ := find_some e
      refine ⟨rfl, ?_⟩
      refine ⟨by rw [List.length_map]; omega, ?_⟩
      refine ke _ _ ⟨ns ++ [i + 1], _, _, ?_, by rw [List.length_append, nl]; rfl, fun n hn => ?_, fun d hd => ?_, rfl⟩
      · rw [List.map_append]
        rfl
      · rcases List.mem_append.mp hn with z | z
        · exact nb n z
        · rw [List.mem_singleton] at z
          subst z
          exact ⟨by omega, by omega, c, hcm, fun j h1 h2 => f4 j h1 (by omega)⟩
      · rw [List.take_add_one, hc] at hd
        rcases List.mem_append.mp hd with z | z
        · obtain ⟨n, h1, h2⟩ := nc d z
          exact ⟨n, List.mem_append_left _ h1, h2⟩
        · have z : d = c := by simpa using z
          subst z
          exact ⟨i + 1, List.mem_append_right _ (by simp), by rw [Nat.add_sub_cancel]; exact f3⟩
  · obtain ⟨ns, x4, x5, rfl, nl, nb, nc, rfl⟩ := hp
    rw [List.length_map] at nl nc
    rw [List.take_length] at nc
    show dMax [.cel 0] [.lst (ns.map natD)] _
    unfold dMax
    refine on_some (a := ns.map fun (n : Nat) => (n : Int)) (toIs_nat ns) ⟨by rw [List.length_map]; omega, fun m hm hx => ?_⟩
    obtain ⟨e, he, rfl⟩ := List.mem_map.mp hm
    have eb := nb e he
    refine q1 e ⟨eb.1, eb.2.1, fun c hc => ?_, eb.2.2⟩
    obtain ⟨n, h1, h2⟩ := nc c hc
    have hn := nb n h1
    have hle := hx (n : Int) (List.mem_map.mpr ⟨n, h1, rfl⟩)
    exact ⟨n - 1, by omega, by omega, h2⟩
/-- so many arches end at a place -/
structure ArchTo (L t : List Nat) (n a : Nat) : Prop where
  uni : ∀ w : List Nat, (∀ c ∈ w, c ∈ L) → w.length ≤ n → w.Sublist (t.take a)
  last : ∃ u : List Nat, (∀ c ∈ u, c ∈ L) ∧ u.length = n ∧ ∀ b, u.Sublist (t.take b) → a ≤ b
theorem ArchTo.start (L t : List Nat) : ArchTo L t 0 0 where
  uni := fun w _ hw => by
    rw [List.length_eq_zero_iff.mp (Nat.le_zero.mp hw)]
    exact List.nil_sublist _
  last := ⟨[], by simp, rfl, fun b _ => Nat.zero_le b⟩
theorem ArchTo.next {L t : List Nat} {n a e : Nat} (h : ArchTo L t n a) (he : EndsAt L t a e) : ArchTo L t (n + 1) e where
  uni := fun w hw hl => by
    obtain ⟨e1, e2, e3, e4⟩ := he
    rcases List.eq_nil_or_concat w with z | ⟨v, c, z⟩
    · subst z
      exact List.nil_sublist _
    · rw [List.concat_eq_append] at z
      subst z
      rw [List.length_append, List.length_singleton] at hl
      have hv := h.uni v (fun c hc => hw c (List.mem_append_left _ hc)) (by omega)
      obtain ⟨i, i1, i2, i3⟩ := e3 c (hw c (by simp))
      have h1 : (v ++ [c]).Sublist (t.take (i + 1)) := by
        rw [List.take_add_one, i3]
        exact (hv.trans (take_sub i1)).append (List.Sublist.refl _)
      exact h1.trans (take_sub (by omega))
  last := by
    obtain ⟨e1, e2, e3, c, hc, e4⟩ := he
    obtain ⟨u, u1, u2, u3⟩ := h.last
    refine ⟨u ++ [c], fun d hd => ?_, by rw [List.length_append, u2]; rfl, fun b hb => ?_⟩
    · rcases List.mem_append.mp hd with z | z
      · exact u1 d z
      · rw [List.mem_singleton] at z
        rw [z]
        exact hc
    · obtain ⟨i, h1, h2, h3⟩ := sub_take_snoc hb
      have := u3 i h3
      by_cases z : i + 1 < e
      · exact absurd h2 (e4 i this z)
      · omega
theorem ArchTo.fin {L t : List Nat} {n a : Nat} (h : ArchTo L t n a) (he : EndsNot L t a) : ArchN L t n where
  uni := fun w hw hl => (h.uni w hw hl).trans (List.take_sublist _ _)
  lack := by
    obtain ⟨c, hc, e4⟩ := he
    obtain ⟨u, u1, u2, u3⟩ := h.last
    refine ⟨u ++ [c], fun d hd => ?_, by rw [List.length_append, u2]; rfl, fun hs => ?_⟩
    · rcases List.mem_append.mp hd with z | z
      · exact u1 d z
      · rw [List.mem_singleton] at z
        rw [z]
        exact hc
    · rw [← List.take_length (l := t)] at hs
      obtain ⟨i, h1, h2, h3⟩ := sub_take_snoc hs
      exact e4 i (u3 i h3) h2
def S_arches : FS := fun xs mu Q => ∃ (L t : List Nat), xs = [.dat (.str L), .dat (.str t)] ∧ mu = [] ∧ 0 < L.length ∧ L.length ≤ 26 ∧ t.length ≤ 200 ∧
  ∀ ps : List (List Nat), ps ≠ [] → ArchN L t (ps.length - 1) → ps.length ≤ 201 → Q (.dv (.dat (.tup (ps.map D.str)))) []
theorem len_arches : ∀ xs mu Q, S_arches xs mu Q → xs.length = 2 := fun xs mu Q h => by
  obtain ⟨_, _, rfl, _⟩ := h
  rfl
def t_arches : DS :=
  (dSeq (dSet 2 (dNew (fLst aNil)))
  (dSeq (dSet 3 (dC (.int 0)))
  (dSeq (dSet 4 (dCall S_arch_end (aCons (dVar 0) (aCons (dVar 1) (aCons (dVar 3) aNil)))))
  (dSeq (dWhile (dTest (dOp dNotN (dVar 4) (dC .non)))
  (dSeq (dDrop (dBM "list" dAppend (dVar 2) (aCons (dSl dCut (dVar 1) (oSome (dVar 3)) (oSome (dVar 4))) aNil)))
  (dSeq (dSet 3 (dVar 4))
  (dSet 4 (dCall S_arch_end (aCons (dVar 0) (aCons (dVar 1) (aCons (dVar 3) aNil))))))))
  (dRet (dCB dTupOf (aCons (dFrz (fOp fCat (dVar 2) (dFrz (fLst (aCons (dSl dCut (dVar 1) (oSome (dVar 3)) oNone) aNil))))) aNil)))))))
theorem rd_arches : Body t_arches ["letters", "text", "found", "at", "end"] S_arches := fun xs mu Q h => by
  obtain ⟨L, t, rfl, rfl, l0, l26, ht, q⟩ := h
  refine ⟨by show 0 ≤ 1000; omega, ?_⟩
  let I : Nat → Rho → Mu → Prop := fun m rho mu => ∃ (found : List (List Nat)) (a : Nat) (d : D), a ≤ t.length ∧ found.length ≤ a ∧ m = t.length - a ∧ mu = [.lst (found.map D.str)] ∧ ArchTo L t found.length a ∧
    ((d = .non ∧ EndsNot L t a) ∨ ∃ e : Nat, d = .int (e : Int) ∧ EndsAt L t a e) ∧
    rho = [some (.dat (.str L)), some (.dat (.str t)), some (.cel 0), some (.dat (.int (a : Int))), some (.dat d)]
  have loop : ∀ m rho mu, I m rho mu → dWhile (dTest (dOp dNotN (dVar 4) (dC .non)))
      (dSeq (dDrop (dBM "list" dAppend (dVar 2) (aCons (dSl dCut (dVar 1) (oSome (dVar 3)) (oSome (dVar 4))) aNil)))
      (dSeq (dSet 3 (dVar 4))
      (dSet 4 (dCall S_arch_end (aCons (dVar 0) (aCons (dVar 1) (aCons (dVar 3) aNil)))))))
      { nx := fun rho mu => (dRet (dCB dTupOf (aCons (dFrz (fOp fCat (dVar 2) (dFrz (fLst (aCons (dSl dCut (dVar 1) (oSome (dVar 3)) oNone) aNil))))) aNil))) { nx := fun _ mu' => retQ 0 Q (.dv (.dat .non)) mu', rt := retQ 0 Q } rho mu, rt := retQ 0 Q } rho mu := fun m rho mu hI => by
    refine ⟨I, ⟨m, hI⟩, fun m rho mu hw => ?_⟩
    obtain ⟨found, a, d, ha, fa, rfl, rfl, AT, hd, rfl⟩ := hw
    rcases hd with ⟨rfl, hn⟩ | ⟨e, rfl, he⟩
    · refine ⟨rfl, ?_⟩
      refine ⟨by omega, ?_⟩
      refine ⟨by show 1 ≤ 1000; omega, ?_⟩
      refine ⟨by rw [List.length_map]; show found.length + 1 ≤ _; omega, ?_⟩
      have w := q (found ++ [cut t (some (a : Int)) none]) (by simp) (by rw [List.length_append, List.length_singleton, Nat.add_sub_cancel]; exact AT.fin hn) (by rw [List.length_append, List.length_singleton]; omega)
      rw [List.map_append] at w
      exact w
    · have e1 := he.1
      have e2 := he.2.1
      refine ⟨rfl, ?_⟩
      refine ⟨rfl, ?_⟩
      refine ⟨by omega, ?_⟩
      refine ⟨by rw [List.length_map]; omega, ?_⟩
      have AT2 : ArchTo L t (found ++ [cut t (some (a : Int)) (some (e : Int))]).length e := by
        rw [List.length_append, List.length_singleton]
        exact AT.next he
      refine ⟨rfl, L, t, e, rfl, rfl, l0, l26, ht, e2, fun e' g => ?_, fun g => ?_⟩
      · exact ⟨t.length - e, by omega, found ++ [cut t (some (a : Int)) (some (e : Int))], e, .int (e' : Int), e2, by rw [List.length_append, List.length_singleton]; omega, rfl, by rw [List.map_append]; rfl, AT2, .inr ⟨e', rfl, g⟩, rfl⟩
      · exact ⟨t.length - e, by omega, found ++ [cut t (some (a : Int)) (some (e : Int))], e, .non, e2, by rw [List.length_append, List.length_singleton]; omega, rfl, by rw [List.map_append]; rfl, AT2, .inl ⟨rfl, g⟩, rfl⟩
  refine ⟨rfl, L, t, 0, rfl, rfl, l0, l26, ht, Nat.zero_le _, fun e g => ?_, fun g => ?_⟩
  · exact loop (t.length - 0) _ _ ⟨[], 0, .int (e : Int), Nat.zero_le _, Nat.le_refl _, rfl, rfl, ArchTo.start L t, .inr ⟨e, rfl, g⟩, rfl⟩
  · exact loop (t.length - 0) _ _ ⟨[], 0, .non, Nat.zero_le _, Nat.le_refl _, rfl, rfl, ArchTo.start L t, .inl ⟨rfl, g⟩, rfl⟩

end Dx

namespace Dx
open PySem PySem.Spec PyProof.Rows L2
open Evl (Ex)
variable [Tb]
/-! #### min(i, j) -/
def dMin2 : DCall := fun xs mu Q => match xs with
  | [.dat (.int i), .dat (.int j)] => Q (.dat (.int (if j < i then j else i))) mu
  | _ => False
section
variable {X : Cx}
theorem cMin2 (hc : X.calm = true) : CallD X (.builtin "min") dMin2 := ⟨_, call_min2 hc, fun F al mu H xs vs Q R c r q l => by
  unfold dMin2 at q
  split at q
  · rename_i i j
    cases r with
    | cons r1 r =>
      cases r with
      | cons r2 r =>
        cases r
        have e1 := rv_int_out r1
        have e2 := rv_int_out r2
        subst e1
        subst e2
        exact ⟨i, j, rfl, l F al _ mu _ H Ext.refl c rv_int q⟩
  · exact q.elim⟩
end
theorem b_min : bootBuiltins "min" = some (.builtin "min") := by decide +kernel
/-! #### the first word that does not lie spread -/
/-- the first word of all, in order, that does not lie spread in a text -/
structure AbsentW (L t w : List Nat) : Prop where
  over : ∀ c ∈ w, c ∈ L
  out : ¬ w.Sublist t
  first : ∀ v : List Nat, (∀ c ∈ v, c ∈ L) → ltW v w = true → v.Sublist t
/-- a word so far: all lesser ones, gone on, lie spread; it, gone on, lies so just where the rest lies behind a place -/
structure AbsTo (L t : List Nat) (m j : Nat) (w : List Nat) (a : Nat) : Prop where
  over : ∀ c ∈ w, c ∈ L
  len : w.length = j
  less : ∀ v : List Nat, v.length = j → (∀ c ∈ v, c ∈ L) → ltW v w = true → ∀ x : List Nat, (∀ c ∈ x, c ∈ L) → j + x.length ≤ m → (v ++ x).Sublist t
  on : ∀ x : List Nat, (w ++ x).Sublist t ↔ x.Sublist (t.drop a)
  le : a ≤ t.length
  rest : ArchN L (t.drop a) (m - j - 1)
theorem AbsTo.start {L t : List Nat} {n : Nat} (h : ArchN L t n) : AbsTo L t (n + 1) 0 [] 0 where
  over := by simp
  len := rfl
  less := fun v hv _ hl => by
    rw [List.length_eq_zero_iff.mp hv, ltW_irr] at hl
    cases hl
  on := fun x => by rw [List.nil_append, List.drop_zero]
  le := Nat.zero_le _
  rest := by rw [List.drop_zero]; exact h
/-- a letter ahead of a word, behind a place -/
theorem cons_drop {t x : List Nat} {a c : Nat} : (c :: x).Sublist (t.drop a) ↔ ∃ i, a ≤ i ∧ t[i]? = some c ∧ x.Sublist (t.drop (i + 1)) := by
  generalize hn : t.length - a = n
  induction n generalizing a with
  | zero =>
    rw [List.drop_eq_nil_of_le (by omega), List.sublist_nil]
    constructor
    · intro h
      cases h
    · rintro ⟨i, h1, h2, _⟩
      have := (List.getElem?_eq_some_iff.mp h2).1
      omega
  | succ n ih =>
    have hl : a < t.length := by omega
    rw [List.drop_eq_getElem_cons hl]
    constructor
    · intro h
      cases h with
      | cons _ h =>
        obtain ⟨i, h1, h2, h3⟩ := (ih (a := a + 1) (by omega)).mp h
        exact ⟨i, by omega, h2, h3⟩
      | cons_cons _ h => exact ⟨a, Nat.le_refl _, List.getElem?_eq_getElem hl, h⟩
    · rintro ⟨i, h1, h2, h3⟩
      by_cases z : i = a
      · subst z
        rw [List.getElem?_eq_getElem hl] at h2
        cases h2
        exact h3.cons_cons _
      · exact ((ih (a := a + 1) (by omega)).mpr ⟨i, by omega, h2, h3⟩).cons _
theorem drop_sub {t : List Nat} {a b : Nat} (h : a ≤ b) : (t.drop b).Sublist (t.drop a) := by
  have e : t.drop b = (t.drop a).drop (b - a) := by
    rw [List.drop_drop]
    congr 1
    omega
  rw [e]
  exact List.drop_sublist _ _
/-- by the first such letter -/
theorem cons_first {t x : List Nat} {a c i : Nat} (h : findFrom t c a = some i) : (c :: x).Sublist (t.drop a) ↔ x.Sublist (t.drop (i + 1)) := by
  obtain ⟨f1, f2, f3, f4⟩ := find_some h
  rw [cons_drop]
  constructor
  · rintro ⟨k, h1, h2, h3⟩
    have : i ≤ k := by
      by_cases z : i ≤ k
      · exact z
      · exact absurd h2 (f4 k h1 (by omega))
    exact h3.trans (drop_sub (by omega))
  · intro h3
    exact ⟨i, f1, f3, h3⟩
theorem cons_never {t x : List Nat} {a c : Nat} (h : findFrom t c a = none) : ¬ (c :: x).Sublist (t.drop a) := fun z => by
  obtain ⟨i, h1, h2, _⟩ := cons_drop.mp z
  exact find_none h i h1 h2
/-- whether a letter lacks: it does not come, or too few arches lie behind it -/
def Lacks (L t : List Nat) (r a c : Nat) : Prop := match findFrom t c a with
  | none => True
  | some i => ∃ n, ArchN L (t.drop (i + 1)) n ∧ n + 1 < r
/-- a letter that does not lack, and all of its words -/
theorem AbsTo.held {L t : List Nat} {m j : Nat} {w : List Nat} {a c : Nat} (h : AbsTo L t m j w a) (n : Nat) {i : Nat} (hf : findFrom t c a = some i) (hn : ArchN L (t.drop (i + 1)) n) (hl : ¬ n + 1 < m - j) : ∀ x : List Nat, (∀ d ∈ x, d ∈ L) → j + 1 + x.length ≤ m → (w ++ [c] ++ x).Sublist t := fun x hx hxl => by
  rw [List.append_assoc]
  refine (h.on _).mpr ((cons_first hf).mpr (hn.uni x hx (by omega)))
/-- the next letter: the first that lacks -/
theorem AbsTo.next {L t : List Nat} {m j : Nat} {w : List Nat} {a c : Nat} (h : AbsTo L t m j w a) (hj : j < m) (hc : c ∈ L) {i n : Nat} (hf : findFrom t c a = some i) (hn : ArchN L (t.drop (i + 1)) n) (hlk : n + 1 < m - j)
    (hless : ∀ d ∈ L, d < c → ∀ x : List Nat, (∀ e ∈ x, e ∈ L) → j + 1 + x.length ≤ m → (w ++ [d] ++ x).Sublist t) : AbsTo L t m (j + 1) (w ++ [c]) (i + 1) where
  over := fun d hd => by
    rcases List.mem_append.mp hd with z | z
    · exact h.over d z
    · rw [List.mem_singleton] at z
      rw [z]
      exact hc
  len := by rw [List.length_append, h.len]; rfl
  less := fun v hv vc hl x hx hxl => by
    rcases List.eq_nil_or_concat v with z | ⟨v', d, z⟩
    · subst z
      simp at hv
    · rw [List.concat_eq_append] at z
      subst z
      have v'l : v'.length = j := by rw [List.length_append, List.length_singleton] at hv; omega
      have v'c : ∀ e ∈ v', e ∈ L := fun e he => vc e (List.mem_append_left _ he)
      have hd : d ∈ L := vc d (by simp)
      rcases ltW_snoc.mp hl with z | ⟨z1, z2⟩
      · rw [List.append_assoc]
        refine h.less v' v'l v'c z ([d] ++ x) (fun e he => ?_) (by rw [List.length_append, List.length_singleton]; omega)
        rcases List.mem_append.mp he with z | z
        · rw [List.mem_singleton] at z
          rw [z]
          exact hd
        · exact hx e z
      · subst z1
        exact hless d hd z2 x hx hxl
  on := fun x => by
    rw [List.append_assoc, h.on]
    exact cons_first hf
  le := by
    have := (find_some hf).2.1
    omega
  rest := by
    have e : n = m - (j + 1) - 1 := by
      have h1 : ¬ n < m - j - 2 := fun z => by
        obtain ⟨y, y1, y2, y3⟩ := hn.lack
        refine y3 ((cons_first hf).mp (h.rest.uni (c :: y) (fun d hd => ?_) (by rw [List.length_cons, y2]; omega)))
        rcases List.mem_cons.mp hd with z | z
        · rw [z]; exact hc
        · exact y1 d z
      omega
    rw [← e]
    exact hn
/-- the last letter: one that does not come -/
theorem AbsTo.fin {L t : List Nat} {m j : Nat} {w : List Nat} {a c : Nat} (hu : ArchN L t (m - 1)) (h : AbsTo L t m j w a) (hj : j + 1 = m) (hc : c ∈ L) (hf : findFrom t c a = none)
    (hless : ∀ d ∈ L, d < c → ∀ x : List Nat, (∀ e ∈ x, e ∈ L) → j + 1 + x.length ≤ m → (w ++ [d] ++ x).Sublist t) : AbsentW L t (w ++ [c]) where
  over := fun d hd => by
    rcases List.mem_append.mp hd with z | z
    · exact h.over d z
    · rw [List.mem_singleton] at z
      rw [z]
      exact hc
  out := fun z => cons_never hf ((h.on [c]).mp z)
  first := fun v vc hl => by
    rcases List.eq_nil_or_concat v with z | ⟨v', d, z⟩
    · subst z
      exact List.nil_sublist _
    · rw [List.concat_eq_append] at z
      subst z
      have wl : (w ++ [c]).length = m := by rw [List.length_append, h.len, List.length_singleton]; omega
      by_cases hlen : (v' ++ [d]).length < m
      · exact hu.uni _ vc (by omega)
      · have hvl : (v' ++ [d]).length = m := by
          rcases ltW_iff.mp hl with z | ⟨z, _⟩ <;> omega
        have v'l : v'.length = j := by rw [List.length_append, List.length_singleton] at hvl; omega
        rcases ltW_snoc.mp hl with z | ⟨z1, z2⟩
        · exact h.less v' v'l (fun e he => vc e (List.mem_append_left _ he)) z [d] (fun e he => vc e (List.mem_append_right _ he)) (by rw [List.length_singleton]; omega)
        · subst z1
          have := hless d (vc d (by simp)) z2 [] (by simp) (by simp; omega)
          rwa [List.append_nil] at this
/-- where a letter does not come there is just one letter to go -/
theorem AbsTo.near {L t : List Nat} {m j : Nat} {w : List Nat} {a c : Nat} (h : AbsTo L t m j w a) (hj : j < m) (hc : c ∈ L) (hf : findFrom t c a = none) : j + 1 = m := by
  by_cases z : j + 1 = m
  · exact z
  · exfalso
    exact cons_never (x := []) hf (h.rest.uni [c] (fun d hd => by rw [List.mem_singleton] at hd; rw [hd]; exact hc) (by show 1 ≤ _; omega))

end Dx

namespace Dx
open PySem PySem.Spec PyProof.Rows L2
open Evl (Ex)
variable [Tb]
/-! #### absent -/
def S_absent : FS := fun xs mu Q => ∃ (L t : List Nat), xs = [.dat (.str L), .dat (.str t)] ∧ mu = [] ∧ 0 < L.length ∧ L.length ≤ 26 ∧ L.Pairwise (· < ·) ∧ (∀ c ∈ L, c < 1114112) ∧ t.length ≤ 200 ∧
  ∀ w : List Nat, AbsentW L t w → ArchN L t (w.length - 1) → 0 < w.length → w.length ≤ 201 → Q (.dv (.dat (.str w))) []
theorem len_absent : ∀ xs mu Q, S_absent xs mu Q → xs.length = 2 := fun xs mu Q h => by
  obtain ⟨_, _, rfl, _⟩ := h
  rfl
def t_absent : DS :=
  (dSeq (dSet 2 (dCB dLen (aCons (dCall S_arches (aCons (dVar 0) (aCons (dVar 1) aNil))) aNil)))
  (dSeq (dSet 3 (dC (.str (lit ""))))
  (dSeq (dSet 4 (dC (.int 0)))
  (dSeq (dSet 5 (dC (.int 0)))
  (dSeq (dWhile (dTest (dOp dLt (dCB dLen (aCons (dVar 3) aNil)) (dVar 2)))
  (dSeq (dSet 6 (dVar 3))
  (dSeq (dFor (iStrD (dVar 0)) (dgN 7)
  (dSeq (dSet 8 (dBM "str" dFind3 (dVar 1) (aCons (dVar 7) (aCons (dVar 4) aNil))))
  (dSeq (dSet 9 (dOrV (dOp dLt (dVar 8) (dC (.int 0))) (dOp dLt (dCB dLen (aCons (dCall S_arches (aCons (dVar 0) (aCons (dSl dCut (dVar 1) (oSome (dOp dAdd (dVar 8) (dC (.int 1)))) oNone) aNil))) aNil)) (dOp dSub (dVar 2) (dCB dLen (aCons (dVar 6) aNil))))))
  (dIf (dAnd (dTest (dOp dEq (dVar 3) (dVar 6))) (dTest (dVar 9)))
  (dSeq (dSet 3 (dOp dAdd (dVar 6) (dVar 7)))
  (dSet 5 (dOp dAdd (dVar 8) (dC (.int 1)))))
  dNext))))
  (dSet 4 (dVar 5)))))
  (dRet (dVar 3)))))))
theorem before {L : List Nat} (h : L.Pairwise (· < ·)) {i c d : Nat} (hc : L[i]? = some c) (hd : d ∈ L) (hl : d < c) : d ∈ L.take i := by
  obtain ⟨k, hk⟩ := List.mem_iff_getElem?.mp hd
  obtain ⟨k1, k2⟩ := List.getElem?_eq_some_iff.mp hk
  obtain ⟨i1, i2⟩ := List.getElem?_eq_some_iff.mp hc
  have : k < i := by
    by_cases z : k < i
    · exact z
    · exfalso
      by_cases z2 : i = k
      · subst z2
        rw [hk] at hc
        cases hc
        omega
      · have := List.pairwise_iff_getElem.mp h i k i1 k1 (by omega)
        omega
  exact List.mem_iff_getElem?.mpr ⟨k, by rw [List.getElem?_take_of_lt this]; exact hk⟩
/-- a word that is done, or goes on -/
def AbsSt (L t : List Nat) (M j : Nat) (w : List Nat) (a : Int) : Prop := w.length = j ∧ (∀ c ∈ w, c ∈ L) ∧ ((j < M ∧ ∃ n : Nat, a = (n : Int) ∧ AbsTo L t M j w n) ∨ (j = M ∧ AbsentW L t w))
theorem rd_absent : Body t_absent ["letters", "text", "many", "word", "at", "later", "ahead", "letter", "there", "lacks"] S_absent := fun xs mu Q h => by
  obtain ⟨L, t, rfl, rfl, l0, l26, rise, lo, ht, q⟩ := h
  refine ⟨rfl, L, t, rfl, rfl, l0, l26, ht, fun ps pne an pl => ?_⟩
  have M0 : 0 < ps.length := List.length_pos_iff.mpr pne
  have eM : ((ps.map D.str).length : Int) = ((ps.length : Nat) : Int) := by rw [List.length_map]
  have okw : ∀ {w : List Nat}, (∀ c ∈ w, c ∈ L) → okD 60 (.str w) = true := fun {w} h => okD_str _ fun c hc => lo c (h c hc)
  rw [lit_nil]
  show (dWhile _ _) _ [some (.dat (.str L)), some (.dat (.str t)), some (.dat (.int ((ps.map D.str).length : Int))), some (.dat (.str [])), some (.dat (.int 0)), some (.dat (.int 0)), none, none, none, none] []
  rw [eM]
  generalize hM : ps.length = M at *
  refine ⟨fun m rho mu => ∃ (j : Nat) (w : List Nat) (a : Int) (x6 x7 x8 x9 : Option DV), AbsSt L t M j w a ∧ j ≤ M ∧ m = M - j ∧ mu = [] ∧ rho = [some (.dat (.str L)), some (.dat (.str t)), some (.dat (.int (M : Int))), some (.dat (.str w)), some (.dat (.int a)), some (.dat (.int a)), x6, x7, x8, x9],
    ⟨_, 0, [], 0, none, none, none, none, ⟨rfl, by simp, .inl ⟨M0, 0, rfl, by have := AbsTo.start an; rwa [Nat.sub_add_cancel M0] at this⟩⟩, Nat.zero_le _, rfl, rfl, rfl⟩, fun m rho mu hw => ?_⟩
  obtain ⟨j, w, a, x6, x7, x8, x9, ⟨wl, wc, st⟩, hjM, rfl, rfl, rfl⟩ := hw
  refine ⟨by omega, ?_⟩
  refine itD (p := ((w.length : Nat) : Int) < (M : Int)) (fun hlt => ?_) (fun hlt => ?_)
  · obtain ⟨hj, n, rfl, A⟩ : j < M ∧ ∃ n : Nat, a = (n : Int) ∧ AbsTo L t M j w n := by
      rcases st with h | ⟨h, _⟩
      · exact h
      · omega
    have le := A.le
    refine for_inv (fun i rho mu => ∃ (w' : List Nat) (a' : Int) (x7 x8 x9 : Option DV), mu = [] ∧ ((w' = w ∧ ∀ d ∈ L.take i, ∀ x : List Nat, (∀ e ∈ x, e ∈ L) → j + 1 + x.length ≤ M → (w ++ [d] ++ x).Sublist t) ∨ AbsSt L t M (j + 1) w' a') ∧ (∀ c ∈ w', c ∈ L) ∧
      rho = [some (.dat (.str L)), some (.dat (.str t)), some (.dat (.int (M : Int))), some (.dat (.str w')), some (.dat (.int (n : Int))), some (.dat (.int a')), some (.dat (.str w)), x7, x8, x9]) ⟨w, _, _, _, _, rfl, .inl ⟨rfl, by simp⟩, wc, rfl⟩ (fun i d rho mu K hd hp ke => ?_) (fun rho mu hp => ?_)
    · obtain ⟨w', a', x7, x8, x9, rfl, hs, w'c, rfl⟩ := hp
      obtain ⟨c, hc, rfl⟩ := str_at hd
      have hcm := List.mem_of_getElem? hc
      have e1 : L.take (i + 1) = L.take i ++ [c] := by rw [List.take_add_one, hc]; rfl
      refine ⟨rfl, ?_⟩
      refine dFind_run (t := t) (c := c) (k := (n : Int)) (by omega) ?_
      rw [Int.toNat_natCast]
      have w2c : ∀ d ∈ w ++ [c], d ∈ L := fun d hd => by
        rcases List.mem_append.mp hd with z | z
        · exact wc d z
        · rw [List.mem_singleton] at z
          rw [z]
          exact hcm
      cases e : findFrom t c n with
      | none =>
        refine ⟨okw w'c, okw wc, ?_⟩
        rw [eqD_str]
        rcases hs with ⟨rfl, held⟩ | st2
        · rw [decide_eq_true rfl]
          have hjm := A.near hj hcm e
          refine ⟨by show w'.length + 1 ≤ 100000; omega, ?_⟩
          refine ke _ _ ⟨w' ++ [c], _, _, _, _, rfl, .inr ⟨by rw [List.length_append, wl]; rfl, w2c, .inr ⟨hjm, A.fin an hjm hcm e fun d hd hl => held d (before rise hc hd hl)⟩⟩, w2c, rfl⟩
        · have ne : w' ≠ w := fun z => by
            have := st2.1
            rw [z, wl] at this
            omega
          rw [decide_eq_false ne]
          exact ke _ _ ⟨w', a', _, _, _, rfl, .inr st2, w'c, rfl⟩
      | some i' =>
        obtain ⟨f1, f2, f3, f4⟩ := find_some e
        have ec : cut t (some ((i' : Int) + 1)) none = t.drop (i' + 1) := by rw [show (i' : Int) + 1 = ((i' + 1 : Nat) : Int) by omega]; exact cut_from t (i' + 1)
        refine ⟨by omega, ?_⟩
        refine ⟨rfl, L, cut t (some ((i' : Int) + 1)) none, rfl, rfl, l0, l26, by have := cut_len t (some ((i' : Int) + 1)) none; omega, fun ps2 ne2 an2 pl2 => ?_⟩
        rw [ec] at an2
        have p0 : 0 < ps2.length := List.length_pos_iff.mpr ne2
        refine ⟨by omega, ?_⟩
        refine ⟨okw w'c, okw wc, ?_⟩
        rw [eqD_str]
        rcases hs with ⟨rfl, held⟩ | st2
        · rw [decide_eq_true rfl]
          refine itD (p := (((ps2.map D.str).length : Nat) : Int) < (M : Int) - ((w'.length : Nat) : Int)) (fun hk => ?_) (fun hk => ?_)
          · rw [List.length_map] at hk
            refine ⟨by show w'.length + 1 ≤ 100000; omega, ?_⟩
            have nx := A.next hj hcm e an2 (by omega) fun d hd hl => held d (before rise hc hd hl)
            have hj2 : j + 1 < M := by omega
            refine ke _ _ ⟨w' ++ [c], _, _, _, _, rfl, .inr ⟨by rw [List.length_append, wl]; rfl, w2c, .inl ⟨hj2, i' + 1, rfl, nx⟩⟩, w2c, rfl⟩
          · rw [List.length_map] at hk
            refine ke _ _ ⟨w', a', _, _, _, rfl, .inl ⟨rfl, fun d hd => ?_⟩, w'c, rfl⟩
            rw [e1] at hd
            rcases List.mem_append.mp hd with z | z
            · exact held d z
            · rw [List.mem_singleton] at z
              subst z
              exact A.held _ e an2 (by omega)
        · have ne : w' ≠ w := fun z => by
            have := st2.1
            rw [z, wl] at this
            omega
          rw [decide_eq_false ne]
          exact ke _ _ ⟨w', a', _, _, _, rfl, .inr st2, w'c, rfl⟩
    · obtain ⟨w', a', x7, x8, x9, rfl, hs, w'c, rfl⟩ := hp
      rw [List.length_map, List.take_length] at hs
      rcases hs with ⟨rfl, held⟩ | st2
      · exfalso
        obtain ⟨x, xc, xl, xn⟩ := A.rest.lack
        cases x with
        | nil => simp at xl
        | cons c x =>
          rw [List.length_cons] at xl
          have := held c (xc c (by simp)) x (fun e he => xc e (by simp [he])) (by omega)
          rw [List.append_assoc] at this
          exact xn ((A.on _).mp this)
      · have := st2.2.2
        exact ⟨M - (j + 1), by omega, j + 1, w', a', _, _, _, _, st2, by omega, rfl, rfl, rfl⟩
  · rcases st with ⟨h, _⟩ | ⟨h, ab⟩
    · omega
    · refine q w ab ?_ (by omega) (by omega)
      rw [wl, h]
      exact an

end Dx

namespace Dx
open PySem PySem.Spec PyProof.Rows L2
open Evl (Ex)
variable [Tb]
/-! #### list.remove(text) -/
def eqs (k : Str) (v : Value) : Bool := match v with
  | .str x _ => x.cps.toList == k.cps.toList
  | _ => false
theorem eqs_gives {k : Str} {t : Tok} : ∀ {ws : List Str} {us : List Value}, Vals (ws.map V.str) us → ∀ y ∈ us, MeetsSeq.EqGives y (.str k t) (eqs k y)
  | [], _, .nil => fun y hy => by cases hy
  | w :: ws, _, .cons r h => fun y hy => by
    obtain ⟨u, rfl⟩ := r
    rcases List.mem_cons.mp hy with e | e
    · rw [e]
      exact SeqRoads2.EqGives.str w k u t
    · exact eqs_gives h y e
def rRemS : V → List V → Hp → VK → Prop := fun x xs H Q => ∃ (l : Addr) (ws : List Str) (k : Str) (j : Nat), x = .ref l ∧ xs = [.str k] ∧ H l = some (.lst (ws.map V.str)) ∧ ws[j]? = some k ∧ (∀ m : Nat, m < j → ws[m]? ≠ some k) ∧ Q .non (upd H l (.lst ((ws.eraseIdx j).map V.str)))
theorem erase_mapS : ∀ (l : List Str) (j : Nat), (l.map V.str).eraseIdx j = (l.eraseIdx j).map V.str
  | [], j => by simp
  | a :: r, 0 => by simp
  | a :: r, j + 1 => by
    have ih := erase_mapS r j
    simp [ih]
theorem str_same {a b : Str} (h : (a.cps.toList == b.cps.toList) = true) : a = b := PySem.W.str_of_cps (eq_of_beq h)
section
variable {X : Cx}
theorem mt_removeS : MtM X "list.remove" rRemS := by
  intro pins s σ H x xs v us Q I rx rxs h
  obtain ⟨l, ws, k, j, rfl, rfl, hH, hj, hno, q⟩ := h
  cases rx
  obtain ⟨u, rfl, ru⟩ := rxs.one
  obtain ⟨t, rfl⟩ := ru
  obtain ⟨z, its, n, r, hl, e⟩ := I.lstM hH
  rw [List.length_map] at hl z
  have hjn : j < ws.length := (List.getElem?_eq_some_iff.mp hj).1
  have hjl : j < its.toArray.size := by rw [List.size_toArray]; omega
  have at' : ∀ m (hm : m < its.length) (w : Str), ws[m]? = some w → ∃ u, its[m] = .str w u := fun m hm w hw => by
    obtain ⟨u, hu, ru⟩ := r.get (i := m) (x := .str w) (by rw [List.getElem?_map, hw]; rfl)
    obtain ⟨tk, rfl⟩ := ru
    have := (List.getElem?_eq_some_iff.mp hu).2
    exact ⟨tk, this⟩
  refine call_meets PySem.F.slot_list_remove ⟨_, e, rfl⟩ PySem.F.entry_list_remove (PySem.F.args_list_remove_2 _ _)
    (MeetsSeq.list_remove l its.toArray n (.str k t) (eqs k) (fun y hy => eqs_gives r y (by simpa using hy)) j hjl ?_ ?_ (by rw [List.size_toArray]; omega)) ⟨e, ?_⟩
  · obtain ⟨tj, h2⟩ := at' j (by omega) k hj
    have e1 : its.toArray[j] = .str k tj := by simpa using h2
    rw [e1]
    exact beq_self_eq_true _
  · intro m hm hmj
    have hmn : m < ws.length := by omega
    obtain ⟨tm, h2⟩ := at' m (by omega) ws[m] (List.getElem?_eq_getElem hmn)
    have e1 : its.toArray[m] = .str ws[m] tm := by simpa using h2
    rw [e1]
    refine beq_eq_false_iff_ne.mpr fun e2 => hno m hmj ?_
    rw [List.getElem?_eq_getElem hmn, PySem.W.str_of_cps e2]
  · have rr := r.eraseIdx j
    rw [erase_mapS] at rr
    refine ⟨.non, _, I.lset (its' := its.eraseIdx j) (t' := s.toks) hH e ?_ rr ?_, rfl, q⟩
    · show its.toArray.eraseIdxIfInBounds j = (its.eraseIdx j).toArray
      rw [List.eraseIdxIfInBounds_toArray]
    · rw [List.length_map, List.length_eraseIdx]
      split <;> omega
end
theorem erase_mapK : ∀ (l : List (List Nat)) (j : Nat), (l.map mkS).eraseIdx j = (l.eraseIdx j).map mkS
  | [], j => by simp
  | a :: r, 0 => by simp
  | a :: r, j + 1 => by
    have ih := erase_mapK r j
    simp [ih]
/-- l.remove(s), s a text that is in l, a list of texts -/
def dRemove : DM := fun x xs mu Q => on1 xs fun y => onS y fun s => onLst x mu fun j ds => onSome (toSs ds) fun ws => ∃ i : Nat, ws[i]? = some s ∧ (∀ m : Nat, m < i → ws[m]? ≠ some s) ∧ Q (.dat .non) (mu.set j (.lst ((ws.eraseIdx i).map D.str)))
theorem mRemove {X : Cx} : MtD X "list" "list.remove" dRemove := ⟨_, mt_removeS, fun F al mu H x xs v vs Q R c r rs q l => by
  obtain ⟨y, w, ev, ry, q⟩ := on1_out q rs
  obtain ⟨s, e1, e2, q⟩ := onS_out q ry
  obtain ⟨j, p, ds, us, e3, ha, hm, hn, hp, rl, q⟩ := onLst_out c r q
  obtain ⟨ws, hw, i, hi, hno, q5⟩ := onSome_out q
  have e4 := toSs_map hw
  subst e4
  have e5 := rl.strs
  subst e5
  subst e2
  obtain ⟨c2, e6⟩ := c.put (m' := .lst ((ws.eraseIdx i).map D.str)) (o := .lst (((ws.map mkS).eraseIdx i).map V.str)) ha hm rfl ⟨hn, _, upd_same, by
    have e7 := erase_mapK ws i
    rw [e7]
    exact repl_strs _⟩
  refine ⟨p, ws.map mkS, mkS s, i, e3, ev, hp, by rw [List.getElem?_map, hi]; rfl, fun m hm => ?_, l F al _ _ _ _ e6 c2 rv_non q5⟩
  intro z
  rw [List.getElem?_map] at z
  obtain ⟨a, ha2, hb⟩ := Option.map_eq_some_iff.mp z
  rw [mkS_inj hb] at ha2
  exact hno m hm ha2⟩

end Dx

namespace Dx
open PySem PySem.Spec PyProof.Rows PyProof.Rows.G L2
open Evl (Ex)
variable [Tb]
/-! ### sorted(texts, key=lambda a: (len(a), a)) -/
/-- a lambda of one name that stands for its parameter -/
structure LamOk (a : Str) (params : Arguments) (scope : Scope) : Prop where
  sc : FnScope [a] [a] scope
  bind : ∀ (q : Str) (body : Expr) (pm cdv ct u : Value), bindArgs (PySem.W.kla_fn "<lambda>" q params body scope [] pm cdv ct) ⟨[u], []⟩ = pure [(a, u)]
  def0 : ∀ (env : Env), defaultsOf params env = ([], [])
  clo : ∀ cells : List (Str × Addr), cloFrom cells scope.names [] = []
theorem lam_run {P : Program} {w : World} {K : PySem.W.Frag} {mg : Str → Option Value} {base : Heap} {A : Around} {outer : List Env} {s : Shared} {H : Hp} {k : Nat} {f c' : Addr} {q a : Str} {params : Arguments} {body : Expr} {scope : Scope} {pm ctv u : Value} {v : V} {Q : VK}
    (e0 : Env0 P w K mg base A outer s H) (hr : Room (k + 1) A) (L : LamOk a params scope) (hf : s.heap.get? f = some (PySem.W.kla_obj "<lambda>" q params body scope [] pm c' ctv)) (hc : H c' = some (LamX.CodeO c' q)) (rv : RelV v u)
    (hbody : Room k (A.deeper (envOfC q scope s.heap.objs.size f (.ref c'))) → ∃ t, PE (cxOf CX0 P w K mg base [a] q scope f (.ref c') A outer s H E0).nox body t ∧ t (L2.start [a] [v]) H Q) :
    codeAny (model P w) A (.call (.ref f) ⟨[u], []⟩) (CR CX0 outer P w H s Q E0) s := by
  have lim : s.heap.NoLimit := e0.mod.nolimit.keeps fun b o e => (e0.bs b o e).1
  obtain ⟨⟨oc, vs, t, hoc, hdc, hvc⟩, _, _⟩ := e0.hok c' _ hc
  refine PySem.W.kla_callFunE hr.depth hf rfl L.sc.co L.sc.gen rfl ⟨c', oc, vs, t, rfl, hoc, hdc, hvc⟩ ?_
  rw [L.bind]
  refine wpAny_pure (wpAny_newFunctionEnv_cells L.sc.kind ?_ fun env he s1 x => ?_)
  · intro y hy
    have ey : y = (a, u) := by simpa using hy
    subst ey
    rcases L.sc.par a (by simp) with z | z
    · exact .inl z
    · exact .inr ⟨z, PySem.W.cellsFrom_some _ _ _ (.inl z)⟩
  subst he
  refine ⟨lim.keeps x.toInCall.keep, ?_⟩
  obtain ⟨te, ht, hq⟩ := hbody (hr.deeper _)
  have I : Inv (cxOf CX0 P w K mg base [a] q scope f (.ref c') A outer s H E0) [] (L2.start [a] [v]) H s1 := inv_start L.sc hr.hd e0 rfl (.cons rv .nil) x
  refine PySem.W.kla_codeExpr (wpAny_mono (ht.nox.run [] s1 _ H Q I hq) (fun z s' hz => ?_) fun e s' he => he)
  obtain ⟨v', H', J, rz, qz⟩ := hz
  exact ⟨v', H', J.os, J.bare, J.base, J.hok, rz, qz⟩
section
variable {X : Cx} {pins : List (Addr × Obj)} {σ : L2.St} {H : Hp} {s : Shared}
/-- a function without free names is made from a lambda; what stood in the heap stands -/
theorem lam_new {a : Str} {c P : Addr} {params : Arguments} {body : Expr} {scope : Scope} {lp : Pos} {E Q : Value → Shared → Prop} (J : Inv X pins σ H s) (L : LamOk a params scope) (tb : LamX.TabB X.base X.mg c P) (cd : X.env.code = .ref c)
    (inT : (P, X.env.qual ++ "<lambda>") ∈ Tb.tabs) (uq : ∀ p ∈ Tb.tabs, p.1 = P → p.2 = X.env.qual ++ "<lambda>") (tabs : LamX.Tabs Tb.tabs H)
    (go : ∀ (f d : Addr) (pm ctv : Value) (H' : Hp) (s' : Shared), Inv X pins σ H' s' → Kept H H' → LamX.Tabs Tb.tabs H' →
      s'.heap.get? f = some (PySem.W.kla_obj "<lambda>" (X.env.qual ++ "<lambda>") params body scope [] pm d ctv) → H' f = none → f ∉ frs X.stack → H' d = some (LamX.CodeO d (X.env.qual ++ "<lambda>")) → Q (.ref f) s') :
    wpAny (model X.prog X.w) X.A (eval (.Lambda params body scope lp) X.env) Q E s := by
  obtain ⟨tps, tP, tok, tAll⟩ := tabs _ inT
  have clo : closureFor scope X.env = pure [] := by
    have e := closure_ok (env := X.env) (scope := scope) (fun y hy e => absurd e (L.sc.nofree y hy))
    rw [L.clo] at e
    exact e
  have inB := tb.bm.keeps J.bk
  have atP := J.hok P _ tP
  have off : ∀ f, s.heap.objs.size ≤ f → f ∉ frs X.stack := fun f lf z => (List.mem_cons.mp (J.stkSub _ z)).elim (fun e => absurd (Nat.lt_of_lt_of_le (e ▸ J.lt) lf) (Nat.lt_irrefl _)) (J.nofs lf)
  refine PySem.W.kla_eval (L.def0 _) ?_
  cases look : codeAmong lp tps.toList with
  | some cv =>
    obtain ⟨d, ed, hd⟩ := tAll lp cv look
    subst ed
    refine PySem.W.kla_makeFunctionHit (c := c) (P := P) (mg := X.mg) (ps := tps) clo J.ok.glob (J.mod.glob.keeps J.bk) cd (tb.code.keeps J.bk) atP tok look inB fun ctv g tk ext big => ?_
    have J2 : Inv X pins σ H { s with heap := g.push (PySem.W.kla_obj "<lambda>" (X.env.qual ++ "<lambda>") params body scope [] ((X.mg "__name__").getD .none) d ctv), toks := tk } := J.kept fun b o e => Heap.get?_push_of_some _ (ext b o e)
    exact go _ d _ ctv H _ J2 (Kept.refl H) tabs (Heap.get?_push_size _ rfl) (J.hok.fresh big) (off _ big) hd
  | none =>
    refine PySem.W.kla_makeFunction (c := c) (P := P) (mg := X.mg) (ps := tps) clo J.ok.glob (J.mod.glob.keeps J.bk) cd (tb.code.keeps J.bk) atP tok look tb.gP inB fun d ctv g tk ext lo hi rec grown => ?_
    obtain ⟨d2, oc, fs, tq, ed, od, fd, nm⟩ := rec
    cases ed
    have big : s.heap.objs.size ≤ g.objs.size := Nat.le_trans lo (Nat.le_of_lt hi)
    have nD : H d = none := J.hok.fresh lo
    have neP : P ≠ d := ne_of_none tP nD
    have J2 := LamX.inv_table (t' := tk) (more := #[rawInt lp.line, rawInt lp.col, .ref d]) (h' := g.push (PySem.W.kla_obj "<lambda>" (X.env.qual ++ "<lambda>") params body scope [] ((X.mg "__name__").getD .none) d ctv)) J tP
      (fun b o nb e => Heap.get?_push_of_some _ (ext b o nb e)) (Heap.get?_push_of_some _ grown) lo ⟨oc, fs, tq, Heap.get?_push_of_some _ od, fd, nm⟩
    have keepN : LamX.ExtN H (upd (upd H P (.tbl (tps ++ #[rawInt lp.line, rawInt lp.col, .ref d]))) d (LamX.CodeO d (X.env.qual ++ "<lambda>"))) := fun b o e nt => by
      have n1 : b ≠ P := fun z => by
        subst z
        rw [tP] at e
        exact nt tps (Option.some.inj e).symm
      rw [upd_ne (ne_of_none e nD), upd_ne n1]
      exact e
    have tabs2 : LamX.Tabs Tb.tabs (upd (upd H P (.tbl (tps ++ #[rawInt lp.line, rawInt lp.col, .ref d]))) d (LamX.CodeO d (X.env.qual ++ "<lambda>"))) := fun p hp => by
      by_cases same : p.1 = P
      · refine ⟨_, by rw [same, upd_ne neP, upd_same], by rw [Array.toList_append]; exact PySem.TriplesOk_snoc _ _ _ _ tok, fun at' cv found => ?_⟩
        rw [Array.toList_append] at found
        rw [uq p hp same]
        rcases LamX.among_app _ tok found with old | new
        · obtain ⟨d0, e1, e2⟩ := tAll at' cv old
          exact ⟨d0, e1, keepN _ _ e2 fun ps => LamX.codeO_ne ps⟩
        · exact ⟨d, new, upd_same⟩
      · obtain ⟨ps', b1, b2, b3⟩ := tabs p hp
        refine ⟨ps', by rw [upd_ne (ne_of_none b1 nD), upd_ne same]; exact b1, b2, fun at' cv found => ?_⟩
        obtain ⟨d0, e1, e2⟩ := b3 at' cv found
        exact ⟨d0, e1, keepN _ _ e2 fun ps => LamX.codeO_ne ps⟩
    have nF : upd (upd H P (.tbl (tps ++ #[rawInt lp.line, rawInt lp.col, .ref d]))) d (LamX.CodeO d (X.env.qual ++ "<lambda>")) g.objs.size = none := by
      rw [upd_ne (Nat.ne_of_gt hi), upd_ne (Nat.ne_of_gt (Nat.lt_of_lt_of_le (Heap.lt_size atP) big))]
      exact J.hok.fresh big
    refine go g.objs.size d _ ctv _ _ J2 ⟨keepN, fun b hb => ?_, fun _ => tabs2⟩ tabs2 (Heap.get?_push_size _ rfl) nF (off _ big) upd_same
    by_cases e1 : b = d
    · rw [e1, upd_same]
      exact fun z => nomatch z
    · rw [upd_ne e1]
      by_cases e2 : b = P
      · rw [e2, upd_same]
        exact fun z => nomatch z
      · rw [upd_ne e2]
        exact hb
end
/-- the body (len(a), a) -/
def keyBody (a : Str) (p1 p2 p3 p4 p5 : Pos) (n : Nat) : Expr := .Tuple [.Call (.Name "len" p1) [.Name a p2] [] p3, .Name a p4] n p5
def lenTup : DE := dTup (aCons (dCB dLen (aCons (dVar 0) aNil)) (aCons (dVar 0) aNil))
section
variable {X : Cx} {pins : List (Addr × Obj)} {σ : L2.St}
theorem lam_turn {k : Nat} {f c' : Addr} {q a : Str} {params : Arguments} {scope : Scope} {pm ctv : Value} {p1 p2 p3 p4 p5 : Pos} {n : Nat} (L : LamOk a params scope) (hlen : scope.names.lookup ("len" : Str) = some .globalImplicit) (ha : scope.names.lookup a = some .local)
    (hd : (a == ("__debug__" : Str)) = false) (hcd : (a == ("__classdict__" : Str)) = false) (hm : X.mg "len" = none) (hpin : (f, PySem.W.kla_obj "<lambda>" q params (keyBody a p1 p2 p3 p4 p5 n) scope [] pm c' ctv) ∈ pins)
    (hr : Room (k + 3) X.A) (H0 : Hp) (t0 : LamX.Tabs Tb.tabs H0) (hc0 : H0 c' = some (LamX.CodeO c' q)) (w : List Nat) (hw : w.length ≤ 100000) : KeyTurn X pins σ H0 X.A.in1.in1 (.ref f) (mkS w) := fun u H' s' I k0 => by
  have e1 := I.env0.in1.in1
  have hf := (I.pin _ (List.mem_append_right _ hpin)).1
  have hc : H' c' = some (LamX.CodeO c' q) := k0.kp _ _ hc0 fun ps => LamX.codeO_ne ps
  have rc := lam_run (u := .str (mkS w) u) (v := .str (mkS w)) (Q := fun r H'' => Kept H' H'' ∧ ∃ t, r = .ref t ∧ H'' t = some (.tup [.int ((mkS w).length : Int), .str (mkS w)])) e1 hr.in1.in1 L hf hc ⟨u, rfl⟩ fun hr' => by
    have hx : ∀ p, CE (cxOf CX0 X.prog X.w X.K X.mg X.base [a] q scope f (.ref c') X.A.in1.in1 X.stack s' H' E0).nox (.Name a p) (dVar 0) := fun p => cv 0 rfl (show Vis scope a from .inl ha) hd hcd
    have ce : CE (cxOf CX0 X.prog X.w X.K X.mg X.base [a] q scope f (.ref c') X.A.in1.in1 X.stack s' H' E0).nox (keyBody a p1 p2 p3 p4 p5 n) lenTup :=
      ce_tup (ca_cons (ce_callB cLen hlen hm rfl (ca_cons (hx p2) ca_nil)) (ca_cons (hx p4) ca_nil))
    obtain ⟨te, pe, ge⟩ := ce.ok
    have rv : RepVs (noT H') [] [.dat (.str w)] [V.str (mkS w)] := .cons (show Rep (noT H') (.str w) _ by rw [Rep]; rfl) .nil
    have C0 : Cels (noT H') [] [] H' := Cels.empt noT_ex noT_nt (k0.tb t0)
    refine ⟨te, pe, ge (noT H') [] (startD [a] [.dat (.str w)]) [] _ H' (fun x mu => x = .dat (.tup [.int ((w.length : Nat) : Int), .str w])) _ (sim_start C0 rv) ⟨hw, by show 2 ≤ 1000; decide, rfl⟩ fun F' al' z mu' v H2 E C r q => ?_⟩
    subst q
    refine ⟨⟨fun b o e n => E.kp b o (by simp) e n, E.dm, fun _ => C.tb⟩, ?_⟩
    obtain ⟨t, vs, ev, ht, rl⟩ := rv_tup_out r
    obtain ⟨v1, r1, e1, a1, a2⟩ := rl.uncons
    subst e1
    obtain ⟨v2, r2, e2, b1, b2⟩ := a2.uncons
    subst e2
    have c := b2.unnil
    subst c
    have a1 := rv_int_out (F := F') (al := []) a1
    have b1 := rv_str_out (F := F') (al := []) b1
    subst a1
    subst b1
    refine ⟨t, ev, ?_⟩
    rw [C.ex _ _ ht, mkS_len]
  refine wpAny_call (codeAny_mono rc fun rr s2 hrr => ?_)
  cases rr with
  | error e => exact False.elim hrr
  | ok fl =>
    cases fl with
    | next => exact False.elim hrr
    | brk => exact False.elim hrr
    | cont => exact False.elim hrr
    | ret v =>
      obtain ⟨v', H2, os, bare, un, hok, rv', kp, t, ev, ht⟩ := (show L2.CE X.stack X.prog X.w H' s' _ v s2 from hrr)
      subst ev
      have ev : v = .ref t := rv'
      subst ev
      exact ⟨H2, t, I.call' os un hok bare (fun b y => absurd y List.not_mem_nil), kp, rfl, ht⟩
end
section
variable {X : Cx} {e : Expr} {te : DE} {a : Str} {k n : Nat} {pos p p1 p2 p3 p4 p5 lpos kp : Pos} {params : Arguments} {scope : Scope} {c P : Addr}
def SLr (x : V) (H1 : Hp) (Q : VK) : Prop := ∃ a ws, x = V.ref a ∧ LamX.Tabs Tb.tabs H1 ∧ H1 a = some (.lst ((ws.map mkS).map V.str)) ∧ ws.length ≤ 100000 ∧ (∀ w ∈ ws, w.length ≤ 100000) ∧
  ∀ (D : Addr) (H' : Hp) (ys : List (List Nat)), Kept H1 H' → H1 D = none → H' D = some (.lst ((ys.map mkS).map V.str)) → ys.Perm ws → (ys.Pairwise fun a b => ltW b a = false) → Q (.ref D) H'
/-- the texts of a list -/
def fSortL (te : DE) : DF := fun rho mu Q => te rho mu fun x mu1 => onSome (seqL mu1 x) fun ds => onSome (toSs ds) fun ws => ws.length ≤ 100000 ∧ (∀ w ∈ ws, w.length ≤ 100000) ∧ ∀ ys : List (List Nat), ys.Perm ws → (ys.Pairwise fun a b => ltW b a = false) → Q (.lst (ys.map D.str)) mu1
theorem cf_sortLam (hc : X.calm = true) (TB : LamX.TabB X.base X.mg c P) (hcode : X.env.code = .ref c) (hmT : (P, X.env.qual ++ "<lambda>") ∈ Tb.tabs) (hu : ∀ p ∈ Tb.tabs, p.1 = P → p.2 = X.env.qual ++ "<lambda>") (L : LamOk a params scope)
    (hlen : scope.names.lookup ("len" : Str) = some .globalImplicit) (ha : scope.names.lookup a = some .local) (hr : Room (k + 3) X.A) (hm : X.mg "sorted" = none) (hml : X.mg "len" = none) (he : CE X e te) (hg : Gl X "sorted" := by rfl)
    (hd : (a == ("__debug__" : Str)) = false := by decide) (hcd : (a == ("__classdict__" : Str)) = false := by decide) (hs : starEach [e] X.env = (false, eval e X.env) :: starEach [] X.env := by rfl)
    (h1 : backTo pos (starEach [e] X.env) = (false, eval e X.env) :: backTo pos (starEach [] X.env) := by rfl) (h2 : (backTo pos (starEach [e] X.env)).any (·.1) = false := by rfl)
    (h3 : (backToKw pos (keywordEach [⟨some "key", .Lambda params (keyBody a p1 p2 p3 p4 p5 n) scope lpos, kp⟩] X.env)).all (·.1.isSome) = true := by rfl) (h4 : (backToKw pos (keywordEach [⟨some "key", .Lambda params (keyBody a p1 p2 p3 p4 p5 n) scope lpos, kp⟩] X.env)).any (·.1.isNone) = false := by rfl)
    (h5 : (backToKw pos (keywordEach [⟨some "key", .Lambda params (keyBody a p1 p2 p3 p4 p5 n) scope lpos, kp⟩] X.env)).filterMap (·.1) = [Str.ofString "key"] := by rfl) :
    CF X (.Call (.Name "sorted" p) [e] [⟨some "key", .Lambda params (keyBody a p1 p2 p3 p4 p5 n) scope lpos, kp⟩] pos) (fSortL te) := by
  obtain ⟨t, pe, ge⟩ := he.ok
  refine ⟨fun σ H Q => tCons t tNil σ H fun vs H1 => ∃ x, vs = [x] ∧ SLr x H1 Q, ⟨fun pins s σ H Q I h => ?_⟩, fun F al rho mu σ H Q R S q l => ?_⟩
  · refine wpAny_Call_Name_kw (ld_blt I hg hm (by rfl) ?_ (by decide) (by decide))
    refine PyProof.Rows.callWith_kw (thn ((pa_cons pe pa_nil hs).run pos pins s σ H (fun vs H1 => ∃ x, vs = [x] ∧ SLr x H1 Q) I ?_) fun us s1 ⟨vs, H1, I1, r1, x, ev, q1⟩ => ?_) h1 h2 h3 h4
    · exact h
    · obtain ⟨l, ws, ex, ht, hl, hz, hw, q⟩ := q1
      subst ex
      subst ev
      have e1 := Vals.ref1 r1
      subst e1
      rw [h5]
      show wpAny _ _ (evalAll ((do let v ← eval (.Lambda params (keyBody a p1 p2 p3 p4 p5 n) scope lpos) X.env; standAt pos; pure v) :: [])) _ _ s1
      refine wpAny_evalAll_cons (wpAny_bind (lam_new I1 L TB hcode hmT hu ht fun f c' pm ctv H2 s2 I2 kN T2 hf hfn hfr hco => wpAny_bind (wpAny_standAt (wpAny_pure ?_))))
      refine wpAny_evalAll_nil ?_
      have I3 : Inv X (pins ++ [(f, PySem.W.kla_obj "<lambda>" (X.env.qual ++ "<lambda>") params (keyBody a p1 p2 p3 p4 p5 n) scope [] pm c' ctv)]) σ H2 s2 := I2.pins_of fun p hp => by
        rcases List.mem_append.mp hp with z | z
        · exact I2.pin p (List.mem_append_right _ z)
        · have ep := List.mem_singleton.mp z
          subst ep
          refine ⟨hf, hfn, fun z => ?_, fun z => hfr ?_, fun v z => by cases z⟩
          · obtain ⟨m, ⟨o, es, ep, ho, hd2, _⟩, _⟩ := I2.loc
            have z : f = X.env.locals := z
            rw [← z, hf] at ho
            cases ho
            cases hd2
          · rcases I2.ok.stk with e | ⟨e, _⟩
            · rw [e]
              exact z
            · rw [e]
              unfold frs
              rw [List.filterMap_cons]
              split
              · exact z
              · exact List.mem_cons_of_mem _ z
      have hl2 : H2 l = some (.lst ((ws.map mkS).map V.str)) := kN.kp _ _ hl fun ps z => by cases z
      refine wpAny_mono (call_sorted_key I3 (ws := ws.map mkS) (coll_list I3 (.inl (.inl hl2))) (by rw [List.length_map]; exact hz) (fun w hm => ?_) (Q := EP X pins σ Q) fun D H' s' ys J k1 n0 d1 y2 y3 => ?_) (fun _ _ h => h) fun _ _ h => h
      · obtain ⟨w', h', rfl⟩ := List.mem_map.mp hm
        exact lam_turn L hlen ha hd hcd hml (List.mem_append_right _ (List.mem_singleton.mpr rfl)) hr H2 T2 hco w' (hw w' h')
      · have ey := unmk ys
        generalize (ys.map fun y => y.cps.toList) = zs at ey
        subst ey
        refine ⟨.ref D, H', J.unpinned, rfl, q D H' zs (kN.trans k1) (none_back (kN.dm D) n0) d1 ?_ ?_⟩
        · have := y2.map (fun y : Str => y.cps.toList)
          rw [List.map_map, List.map_map] at this
          have id1 : ((fun y : Str => y.cps.toList) ∘ mkS) = id := rfl
          rw [id1, List.map_id, List.map_id] at this
          exact this
        · rw [List.pairwise_map] at y3
          exact y3.imp fun {a b} h => by rw [← ltS_mk]; exact h
  · refine ge F al rho mu σ H _ _ S q fun F1 al1 y mu1 v H1 E1 C1 r1 q1 => ?_
    obtain ⟨ds, hds, q1⟩ := onSome_out q1
    obtain ⟨ws, hw, hz, hlw, q2⟩ := onSome_out q1
    obtain ⟨l2, vs, ev, hp, rl⟩ := seqL_out C1 r1 hds
    have e := toSs_map hw
    subst e
    have e := rl.strs
    subst e
    refine ⟨v, rfl, l2, ws, ev, C1.tb, hp, hz, hlw, fun p H' ys k1 n0 d1 y1 y2 => ?_⟩
    have nF : F1 p = none := by
      cases z : F1 p with
      | none => rfl
      | some o =>
        have := C1.ex _ _ z
        rw [n0] at this
        cases this
    refine l F1 al1 (.lst (ys.map D.str)) mu1 p H' (E1.trans (Ext.up C1 k1)) (C1.up k1) (C1.not_al n0) ?_ rfl ⟨nF, _, d1, repl_strs ys⟩ (q2 ys y1 y2)
    exact none_back (E1.dm p) n0
end
/-! ### a def that makes lambdas: its code object is known -/
structure FunC (K : PySem.W.Frag) (x qual : Str) (st : Stmt) (f : Addr) (fd : FuncData) (c : Addr) : Prop where
  ex : ∃ (oc : Value) (od : Option Addr) (dV kV doc pm : Value) (an : Option Addr) (ct : Value) (osl : Array (Option Value)),
    fd = PySem.W.fnOf x qual (defArgs st) (defBody st) (defScope st) dV kV doc pm an (.ref c) ct ∧ K.lookup f = some ⟨oc, od, .func fd, osl⟩ ∧ PySem.W.codeIn K (.ref c) qual = true
theorem dfnC {P : Program} {w : World} {K : PySem.W.Frag} {mg : Str → Option Value} {base : Heap} {x qual : Str} {st : Stmt} {f c : Addr} {fd : FuncData} {N ps : List Str} {k : Nat} {S : FS} (F : FunC K x qual st f fd c) (sc : FnScope N ps (defScope st))
    (len : ∀ xs mu Q, S xs mu Q → xs.length = ps.length)
    (body : ∀ (A : Around) (outer : List Env) (s : Shared) (H : Hp) (E : XK), Room k (A.deeper (envOfC qual (defScope st) s.heap.objs.size f (.ref c))) →
      ∃ t, CSs (cxOf CX0 P w K mg base N qual (defScope st) f (.ref c) A outer s H E).nox (defBody st) t ∧ ∀ xs mu Q, S xs mu Q → t { nx := fun _ mu' => retQ mu.length Q (.dv (.dat .non)) mu', rt := retQ mu.length Q } (startD N xs) mu) :
    FnOk P w K mg base CX0 (k + 1) f fd ps (spOf S) := by
  obtain ⟨oc, od, dV, kV, doc, pm, an, ct, osl, rfl, lk, hcd⟩ := F.ex
  refine fn_of lk hcd sc (fun vs H Q E h => ?_) fun A outer s H vs Q E hr h => ?_
  · obtain ⟨F0, al, xs, mu, Qd, C, r, q, _⟩ := h
    rw [r.len]
    exact len _ _ _ q
  · obtain ⟨F0, al, xs, mu, Qd, C, r, q, l⟩ := h
    obtain ⟨t, hc, hq⟩ := body A outer s H E hr
    obtain ⟨ts, hp, g⟩ := hc.ok
    refine ⟨ts, hp.nox, g F0 al (startD N xs) mu (L2.start N vs) H _ _ (sim_start C r) (hq xs mu Qd q) ?_⟩
    have rt : ∀ F' al' mu' rv v H', Ext F0 al H F' al' H' → Cels F' al' mu' H' → RetV F' al' H' rv v → Fresh H rv v → retQ mu.length Qd rv mu' → Q v H' := fun F' al' mu' rv v H' E' C' rr fr q' => by
      obtain ⟨C2, E2⟩ := C'.cutTo E'
      rw [C.len] at C2
      cases rv with
      | dv x =>
        cases x with
        | dat d => exact l F' _ (.dv (.dat d)) v H' E2 C2 rr fr q'
        | cel j =>
          obtain ⟨a, ha, ev⟩ := rr
          have q2 : (match mu'[j]? with
            | some m => mu.length ≤ j ∧ isDead m = false ∧ Qd (.new m) (mu'.take mu.length)
            | none => False) := q'
          cases hm : mu'[j]? with
          | none =>
            rw [hm] at q2
            exact q2.elim
          | some m =>
            rw [hm] at q2
            obtain ⟨hj, dd, q2⟩ := q2
            have na : a ∉ al := fun z => by
              obtain ⟨i, hi, ei⟩ := List.getElem_of_mem z
              obtain ⟨t, et⟩ := E'.pf
              have e1 : al'[i]? = some a := by
                rw [← et, List.getElem?_append_left hi, List.getElem?_eq_getElem hi, ei]
              have e2 := List.getElem?_eq_some_iff.mp e1
              have e3 := List.getElem?_eq_some_iff.mp ha
              have e4 := (List.getElem_inj C'.nd).mp (e2.2.trans e3.2.symm)
              have := C.len
              omega
            refine l F' _ (.new m) v H' E2 C2 ⟨a, ev, na, dd, C'.cel j a m ha hm⟩ (fun p ep => ?_) q2
            rw [ev] at ep
            cases ep
            rcases E'.nc a (List.mem_of_getElem? ha) with z | z
            · exact absurd z na
            · exact z
      | new m =>
        obtain ⟨p, ev, na, dd, ok⟩ := rr
        exact l F' _ (.new m) v H' E2 C2 ⟨p, ev, fun z => na (E'.pf.subset z), dd, ok⟩ fr q'
    exact ⟨fun F' al' rho' mu' σ' H' E' S' q' => rt F' al' mu' (.dv (.dat .non)) .non H' E' S'.toCels (rv_non (F := F') (al := al')) trivial q', rt, fun _ _ _ _ _ _ _ _ z => z.elim, fun _ _ _ _ _ _ _ _ z => z.elim⟩
structure DfC (K : PySem.W.Frag) (mg : Str → Option Value) (x : Str) (st : Stmt) (ps : List Str) (c : Addr) : Prop where
  ok : ∃ f fd, FunC K x x st f fd c ∧ mg x = some (.ref f) ∧ Binds K fd ps [] ∧ PySem.W.keepIn K (.ref f) = true
theorem DfC.cal {P : Program} {w : World} {K : PySem.W.Frag} {mg : Str → Option Value} {base : Heap} {x : Str} {st : Stmt} {N ps : List Str} {S : FS} {t : DS} {c : Addr} (k : Nat) (D : DfC K mg x st ps c) (sc : FnScope N ps (defScope st))
    (len : ∀ xs mu Q, S xs mu Q → xs.length = ps.length) (rd : Body t N S)
    (body : ∀ (f : Addr) (A : Around) (outer : List Env) (s : Shared) (H : Hp) (E : XK), Room k (A.deeper (envOfC x (defScope st) s.heap.objs.size f (.ref c))) →
      CSs (cxOf CX0 P w K mg base N x (defScope st) f (.ref c) A outer s H E).nox (defBody st) t) : Cal P w K mg base (k + 1) x ps S := by
  obtain ⟨f, fd, F, m, b, kp⟩ := D.ok
  exact ⟨f, fd, dfnC F sc len fun A outer s H E hr => ⟨t, body f A outer s H E hr, rd⟩, m, kp, b⟩
theorem df_mkC {K : PySem.W.Frag} {mg : Str → Option Value} {h : Heap} {x : Str} {st : Stmt} {ps : List Str} {f c : Addr} {oc : Value} {od an : Option Addr} {osl : Array (Option Value)} {kV doc pm ct : Value} (X : K.In h) (G : h.Ns mainGlobals mg)
    (a : PySem.W.nsIn K mainGlobals x = some (some (.ref f))) (l : K.lookup f = some ⟨oc, od, .func (PySem.W.fnOf x x (defArgs st) (defBody st) (defScope st) .none kV doc pm an (.ref c) ct), osl⟩) (cd : PySem.W.codeIn K (.ref c) x = true) (k : PySem.W.keepIn K (.ref f) = true)
    (hb : ∀ (kV doc pm : Value) (an : Option Addr) (cdv ct : Value) (us : List Value), us.length = ps.length → bindArgs (PySem.W.fnOf x x (defArgs st) (defBody st) (defScope st) .none kV doc pm an cdv ct) ⟨us, []⟩ = pure (ps.zip us)) : DfC K mg x st ps c := by
  have F := fun_mk (st := st) l cd k
  exact ⟨f, _, ⟨oc, od, _, kV, doc, pm, an, ct, osl, rfl, l, cd⟩, PySem.W.mg_of X G a, F.binds hb, k⟩
/-- what a def that makes lambdas knows of its table -/
structure LamIn (mg : Str → Option Value) (base : Heap) (x : Str) (c P : Addr) : Prop where
  tb : LamX.TabB base mg c P
  inT : (P, x ++ ".<locals>." ++ "<lambda>") ∈ Tb.tabs
  uq : ∀ p ∈ Tb.tabs, p.1 = P → p.2 = x ++ ".<locals>." ++ "<lambda>"
section
variable {X : Cx} {e : Expr} {te : DE} {a x : Str} {k n : Nat} {pos p p1 p2 p3 p4 p5 lpos kp : Pos} {params : Arguments} {scope : Scope} {c P : Addr}
theorem cfLam (hc : X.calm = true) (G : LamIn X.mg X.base x c P) (hcode : X.env.code = .ref c) (hq : X.env.qual = x ++ ".<locals>.") (L : LamOk a params scope)
    (hlen : scope.names.lookup ("len" : Str) = some .globalImplicit) (ha : scope.names.lookup a = some .local) (hr : Room (k + 3) X.A) (hm : X.mg "sorted" = none) (hml : X.mg "len" = none) (he : CE X e te) (hg : Gl X "sorted" := by rfl)
    (hd : (a == ("__debug__" : Str)) = false := by decide) (hcd : (a == ("__classdict__" : Str)) = false := by decide) (hs : starEach [e] X.env = (false, eval e X.env) :: starEach [] X.env := by rfl)
    (h1 : backTo pos (starEach [e] X.env) = (false, eval e X.env) :: backTo pos (starEach [] X.env) := by rfl) (h2 : (backTo pos (starEach [e] X.env)).any (·.1) = false := by rfl)
    (h3 : (backToKw pos (keywordEach [⟨some "key", .Lambda params (keyBody a p1 p2 p3 p4 p5 n) scope lpos, kp⟩] X.env)).all (·.1.isSome) = true := by rfl) (h4 : (backToKw pos (keywordEach [⟨some "key", .Lambda params (keyBody a p1 p2 p3 p4 p5 n) scope lpos, kp⟩] X.env)).any (·.1.isNone) = false := by rfl)
    (h5 : (backToKw pos (keywordEach [⟨some "key", .Lambda params (keyBody a p1 p2 p3 p4 p5 n) scope lpos, kp⟩] X.env)).filterMap (·.1) = [Str.ofString "key"] := by rfl) :
    CF X (.Call (.Name "sorted" p) [e] [⟨some "key", .Lambda params (keyBody a p1 p2 p3 p4 p5 n) scope lpos, kp⟩] pos) (fSortL te) :=
  cf_sortLam hc G.tb hcode (by rw [hq]; exact G.inT) (by rw [hq]; exact G.uq) L hlen ha hr hm hml he hg hd hcd hs h1 h2 h3 h4 h5
end
end Dx

namespace Dx
open PySem PySem.Spec PyProof.Rows L2
open Evl (Ex)
variable [Tb]
/-! ### the parts of a wish, its words -/
def sizes (ws : List Wish) : Nat := (ws.map Wish.size).sum
theorem size_pos (W : Wish) : 0 < W.size := by
  cases W <;> simp [Wish.size]
theorem sizes_app (a b : List Wish) : sizes (a ++ b) = sizes a + sizes b := by
  unfold sizes
  rw [List.map_append, List.sum_append]
theorem len_sizes : ∀ ws : List Wish, ws.length ≤ sizes ws
  | [] => Nat.le_refl _
  | w :: r => by
    have h1 := len_sizes r
    have h2 := size_pos w
    show r.length + 1 ≤ w.size + sizes r
    omega
/-- all parts of a wish: as many as it has, each word in one of them -/
structure PartsOf (W : Wish) (ps : List Wish) : Prop where
  len : ps.length = W.size
  mem : ∀ w, Wish.has w ∈ ps ↔ w ∈ W.words
def S_parts_of : FS := fun xs mu Q => ∃ W : Wish, xs = [.dat W.toD] ∧ mu = [] ∧ W.size ≤ 1000 ∧ ∀ ps : List Wish, PartsOf W ps → Q (.new (.lst (ps.map Wish.toD))) []
theorem len_parts_of : ∀ xs mu Q, S_parts_of xs mu Q → xs.length = 1 := fun xs mu Q h => by
  obtain ⟨W, rfl, _⟩ := h
  rfl
def t_parts_of : DS :=
  (dSeq (dSet 1 (dNew (fLst aNil)))
  (dSeq (dSet 2 (dNew (fLst (aCons (dVar 0) aNil))))
  (dSeq (dWhile (dTest (dOp dGt (dCB dLen (aCons (dVar 2) aNil)) (dC (.int 0))))
  (dSeq (dSet 3 (dBM "list" dPop (dVar 2) aNil))
  (dSeq (dDrop (dBM "list" dAppend (dVar 1) (aCons (dVar 3) aNil)))
  (dIf (dTest (dOp (dInQ false) (dOp dIx (dVar 3) (dC (.int 0))) (dTup (aCons (dC (.str (lit "not"))) (aCons (dC (.str (lit "and"))) (aCons (dC (.str (lit "or"))) aNil))))))
  (dDrop (dBM "list" dExtend (dVar 2) (aCons (dFrz (fCB fListOf (aCons (dSl dCut (dVar 3) (oSome (dC (.int 1))) oNone) aNil))) aNil)))
  dNext))))
  (dRet (dVar 1)))))
theorem rd_parts_of : Body t_parts_of ["wish", "found", "waiting", "part"] S_parts_of := fun xs mu Q h => by
  obtain ⟨W, rfl, rfl, hs, q⟩ := h
  refine ⟨by decide, by show 1 ≤ 1000; omega, ?_⟩
  refine ⟨fun m rho mu => ∃ (fs ws : List Wish) (x : Option DV), rho = [some (.dat W.toD), some (.cel 0), some (.cel 1), x] ∧ mu = [.lst (fs.map Wish.toD), .lst (ws.map Wish.toD)] ∧ fs.length + sizes ws = W.size ∧ m = sizes ws ∧ ∀ w, (Wish.has w ∈ fs ∨ ∃ v ∈ ws, w ∈ v.words) ↔ w ∈ W.words, ⟨_, [], [W], _, rfl, rfl, by simp [sizes], rfl, fun w => by simp⟩, fun m rho mu hw => ?_⟩
  obtain ⟨fs, ws, x, rfl, rfl, hl, rfl, mem⟩ := hw
  refine itD (p := ((0 : Int) < (((ws.map Wish.toD).length : Nat) : Int))) (fun h1 => ?_) (fun h1 => ?_)
  · rw [List.length_map] at h1
    rcases List.eq_nil_or_concat ws with e | ⟨vs, v, e⟩
    · subst e
      simp at h1
    rw [List.concat_eq_append] at e
    subst e
    rw [sizes_app] at hl ⊢
    have hv : sizes [v] = v.size := by simp [sizes]
    have hp := size_pos v
    refine ⟨rfl, rfl, ?_⟩
    refine on_some (a := v.toD) (by simp) ?_
    rw [show ((vs ++ [v]).map Wish.toD).dropLast = vs.map Wish.toD by simp]
    refine ⟨rfl, ?_⟩
    refine ⟨by rw [List.length_map]; omega, ?_⟩
    have mv : ∀ w, (Wish.has w ∈ fs ++ [v] ∨ ∃ u ∈ vs, w ∈ u.words) ∨ ((∀ u, v ≠ .has u) ∧ w ∈ v.words) ↔ w ∈ W.words := fun w => by
      rw [← mem w]
      constructor
      · rintro ((h | ⟨u, h1, h2⟩) | ⟨h1, h2⟩)
        · rcases List.mem_append.mp h with h | h
          · exact .inl h
          · rw [List.mem_singleton] at h
            exact .inr ⟨v, by simp, by rw [← h]; simp [Wish.words]⟩
        · exact .inr ⟨u, by simp [h1], h2⟩
        · exact .inr ⟨v, by simp, h2⟩
      · rintro (h | ⟨u, h1, h2⟩)
        · exact .inl (.inl (by simp [h]))
        · rcases List.mem_append.mp h1 with h1 | h1
          · exact .inl (.inr ⟨u, h1, h2⟩)
          · rw [List.mem_singleton] at h1
            subst h1
            cases u with
            | has x =>
              simp only [Wish.words, List.mem_singleton] at h2
              subst h2
              exact .inl (.inl (by simp))
            | always => exact .inr ⟨fun _ z => (by cases z), h2⟩
            | never => exact .inr ⟨fun _ z => (by cases z), h2⟩
            | neg a => exact .inr ⟨fun _ z => (by cases z), h2⟩
            | con a b => exact .inr ⟨fun _ z => (by cases z), h2⟩
            | dis a b => exact .inr ⟨fun _ z => (by cases z), h2⟩
    have eM : ∀ us : List Wish, (fs.map Wish.toD ++ [v.toD]) = (fs ++ [v]).map Wish.toD := fun us => by simp
    have next : ∀ (us : List Wish), sizes us < v.size → (∀ w, (∃ u ∈ us, w ∈ u.words) ↔ ((∀ u, v ≠ .has u) ∧ w ∈ v.words)) → sizes us + 1 = v.size →
        ∃ m', m' < sizes vs + sizes [v] ∧ ∃ (fs' ws : List Wish) (x : Option DV), [some (DV.dat W.toD), some (.cel 0), some (.cel 1), some (.dat v.toD)] = [some (.dat W.toD), some (.cel 0), some (.cel 1), x] ∧ [MC.lst (fs.map Wish.toD ++ [v.toD]), .lst (vs.map Wish.toD ++ us.map Wish.toD)] = [.lst (fs'.map Wish.toD), .lst (ws.map Wish.toD)] ∧ fs'.length + sizes ws = W.size ∧ m' = sizes ws ∧ ∀ w, (Wish.has w ∈ fs' ∨ ∃ v ∈ ws, w ∈ v.words) ↔ w ∈ W.words := fun us h1 h2 h3 => by
      refine ⟨sizes vs + sizes us, by omega, fs ++ [v], vs ++ us, _, rfl, by rw [List.map_append, List.map_append]; rfl, by rw [List.length_append, sizes_app, List.length_singleton]; omega, by rw [sizes_app], fun w => ?_⟩
      rw [← mv w, ← h2 w]
      constructor
      · rintro (h | ⟨u, h, h'⟩)
        · exact .inl (.inl h)
        · rcases List.mem_append.mp h with h | h
          · exact .inl (.inr ⟨u, h, h'⟩)
          · exact .inr ⟨u, h, h'⟩
      · rintro ((h | ⟨u, h, h'⟩) | ⟨u, h, h'⟩)
        · exact .inl h
        · exact .inr ⟨u, by simp [h], h'⟩
        · exact .inr ⟨u, by simp [h], h'⟩
    have none : v.size = 1 → (∀ w, ((∀ u, v ≠ .has u) ∧ w ∈ v.words) ↔ False) → _ := fun h1 h2 => next [] (by simp [sizes]; omega) (fun w => by rw [h2 w]; simp) (by simp [sizes]; omega)
    rw [List.map_nil, List.append_nil] at none
    cases v with
    | always =>
      refine ⟨by decide, rfl, rfl, ?_⟩
      exact none rfl fun w => by simp [Wish.words]
    | never =>
      refine ⟨by decide, rfl, rfl, ?_⟩
      exact none rfl fun w => by simp [Wish.words]
    | has x =>
      refine ⟨by decide, rfl, rfl, ?_⟩
      exact none rfl fun w => ⟨fun h => absurd rfl (h.1 x), False.elim⟩
    | neg a =>
      refine ⟨by decide, rfl, rfl, ?_⟩
      refine ⟨rfl, ?_⟩
      refine ⟨by show ¬(HT.sIx 2 0 (some 1) = 0 ∧ HT.sIx 2 2 Option.none = 2); decide, ?_⟩
      refine ⟨by rw [List.length_map]; have := len_sizes vs; show vs.length + 1 ≤ 100000; omega, ?_⟩
      exact next [a] (by simp [sizes, Wish.size]) (fun w => by simp [Wish.words]) (by simp [sizes, Wish.size])
    | con a b =>
      refine ⟨by decide, rfl, rfl, ?_⟩
      refine ⟨rfl, ?_⟩
      refine ⟨by show ¬(HT.sIx 3 0 (some 1) = 0 ∧ HT.sIx 3 3 Option.none = 3); decide, ?_⟩
      refine ⟨by rw [List.length_map]; have := len_sizes vs; show vs.length + 2 ≤ 100000; omega, ?_⟩
      exact next [a, b] (by simp [sizes, Wish.size]) (fun w => by simp [Wish.words]) (by simp [sizes, Wish.size])
    | dis a b =>
      refine ⟨by decide, rfl, rfl, ?_⟩
      refine ⟨rfl, ?_⟩
      refine ⟨by show ¬(HT.sIx 3 0 (some 1) = 0 ∧ HT.sIx 3 3 Option.none = 3); decide, ?_⟩
      refine ⟨by rw [List.length_map]; have := len_sizes vs; show vs.length + 2 ≤ 100000; omega, ?_⟩
      exact next [a, b] (by simp [sizes, Wish.size]) (fun w => by simp [Wish.words]) (by simp [sizes, Wish.size])
  · have hw0 : ws = [] := by
      cases ws with
      | nil => rfl
      | cons a r => simp at h1
    subst hw0
    have hq := q fs ⟨by simp [sizes] at hl; exact hl, fun w => by rw [← mem w]; simp⟩
    exact ⟨Nat.le_refl _, rfl, hq⟩
/-- the words of a wish, in order, each once -/
structure WordsIn (W : Wish) (ws : List (List Nat)) : Prop where
  ord : OrdW ws
  nd : ws.Nodup
  mem : ∀ w, w ∈ ws ↔ w ∈ W.words
theorem WordsIn.uniq {W : Wish} {a b : List (List Nat)} (h : WordsIn W a) (g : WordsIn W b) : a = b :=
  ordW_uniq h.ord g.ord ((List.perm_ext_iff_of_nodup h.nd g.nd).mpr fun w => (h.mem w).trans (g.mem w).symm)
theorem nodup_map {α β : Type} {f : α → β} : ∀ {l : List α}, l.Nodup → (∀ a ∈ l, ∀ b ∈ l, f a = f b → a = b) → (l.map f).Nodup
  | [], _, _ => List.nodup_nil
  | a :: l, nd, h => by
    have nd := List.nodup_cons.mp nd
    rw [List.map_cons, List.nodup_cons]
    refine ⟨fun hm => ?_, nodup_map nd.2 fun x hx y hy => h x (List.mem_cons_of_mem _ hx) y (List.mem_cons_of_mem _ hy)⟩
    obtain ⟨b, hb, e⟩ := List.mem_map.mp hm
    have := h b (List.mem_cons_of_mem _ hb) a (List.mem_cons_self ..) e
    subst this
    exact nd.1 hb
theorem sub_le {α : Type} [DecidableEq α] : ∀ {l m : List α}, l.Nodup → l.Subset m → l.length ≤ m.length
  | [], m, _, _ => Nat.zero_le _
  | a :: l, m, nd, h => by
    have nd := List.nodup_cons.mp nd
    have h1 : l.Subset (m.erase a) := fun x hx => (List.mem_erase_of_ne (fun z => nd.1 (by rw [← z]; exact hx))).mpr (h (List.mem_cons_of_mem _ hx))
    have h2 := sub_le nd.2 h1
    have h3 : a ∈ m := h (List.mem_cons_self ..)
    rw [List.length_erase_of_mem h3] at h2
    have := List.length_pos_of_mem h3
    rw [List.length_cons]
    omega
def S_words_in : FS := fun xs mu Q => ∃ W : Wish, xs = [.dat W.toD] ∧ mu = [] ∧ W.size ≤ 1000 ∧ (∀ w ∈ W.words, w.length ≤ 1000) ∧ ∀ ws, WordsIn W ws → Q (.new (.lst (ws.map D.str))) []
theorem len_words_in : ∀ xs mu Q, S_words_in xs mu Q → xs.length = 1 := fun xs mu Q h => by
  obtain ⟨W, rfl, _⟩ := h
  rfl
def t_words_in : DS :=
  (dSeq (dSet 1 (dNew fDK0))
  (dSeq (dFor (iDat (dCall S_parts_of (aCons (dVar 0) aNil))) (dgN 2)
  (dIf (dTest (dOp dEq (dOp dIx (dVar 2) (dC (.int 0))) (dC (.str (lit "has")))))
  (dDput (dVar 1) (dOp dIx (dVar 2) (dC (.int 1))) (dC (.bl true)))
  dNext))
  (dRetF (fSortL (dFrz (fCB fListD (aCons (dVar 1) aNil)))))))
theorem rd_words_in : Body t_words_in ["wish", "found", "part"] S_words_in := fun xs mu Q h => by
  obtain ⟨W, rfl, rfl, hs, hw, q⟩ := h
  refine ⟨rfl, W, rfl, rfl, hs, fun ps hp => ?_⟩
  have lp := hp.len
  refine for_inv (fun i rho mu => ∃ us x, mu = [setW us] ∧ rho = [some (.dat W.toD), some (.cel 0), x] ∧ us.Nodup ∧ ∀ w, w ∈ us ↔ Wish.has w ∈ ps.take i) ⟨[], _, rfl, rfl, List.nodup_nil, fun w => by simp⟩ (fun i d rho mu K' hd hq ke => ?_) (fun rho mu hq => ?_)
  · obtain ⟨us, x, rfl, rfl, nd, mem⟩ := hq
    have hd : (ps.map Wish.toD)[i]? = some d := hd
    rw [List.getElem?_map] at hd
    cases hv : ps[i]? with
    | none => rw [hv] at hd; cases hd
    | some v =>
    rw [hv] at hd
    cases hd
    have e1 : ps.take (i + 1) = ps.take i ++ [v] := by rw [List.take_add_one, hv]; rfl
    have lu : us.length ≤ 1000 := by
      haveI : DecidableEq Wish := fun a b => Classical.propDecidable _
      have h1 := sub_le (l := us.map Wish.has) (m := ps) (nodup_map nd fun a _ b _ e => by cases e; rfl) (fun w hm => by
        obtain ⟨u, h1, h2⟩ := List.mem_map.mp hm
        rw [← h2]
        exact List.mem_of_mem_take ((mem u).mp h1))
      rw [List.length_map] at h1
      omega
    cases v with
    | always =>
      refine ⟨ok_alwaysT _, ok_hasT _, ?_⟩
      rw [e_always_has]
      exact ke _ _ ⟨us, _, rfl, rfl, nd, fun u => by rw [mem u, e1]; simp⟩
    | never =>
      refine ⟨ok_neverT _, ok_hasT _, ?_⟩
      rw [e_never_has]
      exact ke _ _ ⟨us, _, rfl, rfl, nd, fun u => by rw [mem u, e1]; simp⟩
    | has w =>
      refine ⟨ok_hasT _, ok_hasT _, ?_⟩
      rw [e_has_has]
      refine ⟨by rw [keysW_len]; omega, ?_⟩
      refine ke _ _ ⟨wput us w, _, congrArg (fun m => [m]) (put_W us w), rfl, nodup_wput nd, fun u => ?_⟩
      rw [mem_wput, mem u, e1]
      simp
    | neg a =>
      refine ⟨ok_notT _, ok_hasT _, ?_⟩
      rw [e_not_has]
      exact ke _ _ ⟨us, _, rfl, rfl, nd, fun u => by rw [mem u, e1]; simp⟩
    | con a b =>
      refine ⟨ok_andT _, ok_hasT _, ?_⟩
      rw [e_and_has]
      exact ke _ _ ⟨us, _, rfl, rfl, nd, fun u => by rw [mem u, e1]; simp⟩
    | dis a b =>
      refine ⟨ok_orT _, ok_hasT _, ?_⟩
      rw [e_or_has]
      exact ke _ _ ⟨us, _, rfl, rfl, nd, fun u => by rw [mem u, e1]; simp⟩
  · obtain ⟨us, x, rfl, rfl, nd, mem⟩ := hq
    have mem : ∀ w, w ∈ us ↔ w ∈ W.words := fun w => by
      have h1 : w ∈ us ↔ Wish.has w ∈ ps.take (ps.map Wish.toD).length := mem w
      rw [List.length_map, List.take_length, hp.mem] at h1
      exact h1
    have lu : us.length ≤ 1000 := by
      haveI : DecidableEq Wish := fun a b => Classical.propDecidable _
      have h1 := sub_le (l := us.map Wish.has) (m := ps) (nodup_map nd fun a _ b _ e => by cases e; rfl) (fun w hm => by
        obtain ⟨u, h1, h2⟩ := List.mem_map.mp hm
        rw [← h2]
        exact (hp.mem u).mpr ((mem u).mp h1))
      rw [List.length_map] at h1
      omega
    refine on_some (a := us) (by rw [keyV_W]; exact toSs_of us) ?_
    refine ⟨by omega, fun w hm => by have := hw w ((mem w).mp hm); omega, fun ys pm so => ?_⟩
    exact q ys ⟨so, pm.nodup_iff.mpr nd, fun w => (pm.mem_iff).trans (mem w)⟩
/-! ### a wish by its parts -/
theorem atI_head {α : Type} (a : α) (l : List α) : L2.atI (a :: l) 0 = some a := atI_of (Int.le_refl 0) rfl
theorem cut_tail {α : Type} (a : α) (l : List α) : cut (a :: l) (some 1) none = l := by
  have e : HT.sIx (a :: l).length 0 (some 1) = 1 := by
    rw [show (1 : Int) = ((1 : Nat) : Int) from rfl, HT.sIx_nat, List.length_cons]
    omega
  unfold cut
  rw [e, HT.sIx_none, List.drop_one, List.tail_cons, List.length_cons, List.take_of_length_le (by omega)]
theorem cut_part {α : Type} (a : α) (l : List α) : ¬ (HT.sIx (a :: l).length 0 (some 1) = 0 ∧ HT.sIx (a :: l).length (a :: l).length none = (a :: l).length) := fun h => by
  have e : HT.sIx (a :: l).length 0 (some 1) = 1 := by
    rw [show (1 : Int) = ((1 : Nat) : Int) from rfl, HT.sIx_nat, List.length_cons]
    omega
  rw [e] at h
  omega
structure Shape (W : Wish) (tag : List Nat) (ks : List Wish) : Prop where
  toD : W.toD = .tup (.str tag :: ks.map Wish.toD)
  deep : ∀ k ∈ ks, k.deep < W.deep
  size : ∀ k ∈ ks, k.size < W.size
  words : W.words = ks.flatMap Wish.words
  few : ks.length ≤ 2
  ok : ∀ n, okD n (.str tag) = true
  has : eqD (.str tag) (.str (lit "has")) = false
theorem Wish.shape (W : Wish) : (∃ w, W = .has w) ∨ ∃ tag ks, Shape W tag ks := by
  cases W with
  | always => exact .inr ⟨_, [], rfl, by simp, by simp, rfl, by simp, ok_alwaysT, e_always_has⟩
  | never => exact .inr ⟨_, [], rfl, by simp, by simp, rfl, by simp, ok_neverT, e_never_has⟩
  | has w => exact .inl ⟨w, rfl⟩
  | neg a => exact .inr ⟨_, [a], rfl, by simp [Wish.deep], by simp [Wish.size], by simp [Wish.words], by simp, ok_notT, e_not_has⟩
  | con a b => exact .inr ⟨_, [a, b], rfl, by simp [Wish.deep]; omega, by simp [Wish.size]; omega, by simp [Wish.words], by simp, ok_andT, e_and_has⟩
  | dis a b => exact .inr ⟨_, [a, b], rfl, by simp [Wish.deep]; omega, by simp [Wish.size]; omega, by simp [Wish.words], by simp, ok_orT, e_or_has⟩
theorem Wish.words_len : ∀ W : Wish, W.words.length ≤ W.size
  | .always => Nat.zero_le _
  | .never => Nat.zero_le _
  | .has _ => Nat.le_refl _
  | .neg a => by
    have := a.words_len
    simp only [Wish.words, Wish.size]
    omega
  | .con a b => by
    have := a.words_len
    have := b.words_len
    simp only [Wish.words, Wish.size, List.length_append]
    omega
  | .dis a b => by
    have := a.words_len
    have := b.words_len
    simp only [Wish.words, Wish.size, List.length_append]
    omega
def S_w_words_in : Nat → FS
  | 0 => fun _ _ _ => False
  | n + 1 => fun xs mu Q => ∃ W : Wish, xs = [.dat W.toD] ∧ mu = [] ∧ W.deep ≤ n ∧ W.size ≤ 1000 ∧ (∀ w ∈ W.words, w.length ≤ 1000) ∧ ∀ ws, WordsIn W ws → Q (.new (.lst (ws.map D.str))) []
theorem len_w_words_in {n : Nat} : ∀ xs mu Q, S_w_words_in n xs mu Q → xs.length = 1 := fun xs mu Q h => by
  cases n with
  | zero => exact h.elim
  | succ n =>
    obtain ⟨W, rfl, _⟩ := h
    rfl
def t_w_words_in (n : Nat) : DS :=
  (dSeq (dIf (dTest (dOp dEq (dOp dIx (dVar 0) (dC (.int 0))) (dC (.str (lit "has")))))
  (dRetF (fLst (aCons (dOp dIx (dVar 0) (dC (.int 1))) aNil)))
  dNext)
  (dSeq (dSet 1 (dNew fDK0))
  (dSeq (dFor (iDatT (dSl dCut (dVar 0) (oSome (dC (.int 1))) oNone)) (dgN 2)
  (dFor (iDat (dCall (S_w_words_in n) (aCons (dVar 2) aNil))) (dgN 3)
  (dDput (dVar 1) (dVar 3) (dC (.bl true)))))
  (dRetF (fSortKey (dFrz (fCB fListD (aCons (dVar 1) aNil))))))))
theorem rd_w_words_in {n : Nat} : Body (t_w_words_in n) ["_law_wish_here", "_law_found", "_law_part", "_law_word"] (S_w_words_in (n + 1)) := fun xs mu Q h => by
  obtain ⟨W, rfl, rfl, hd, hs, hw, q⟩ := h
  rcases W.shape with ⟨w, rfl⟩ | ⟨tag, ks, S⟩
  · refine ⟨ok_hasT _, ok_hasT _, ?_⟩
    rw [e_has_has]
    exact ⟨by show 1 ≤ 1000; omega, q [w] ⟨by simp [OrdW], by simp, fun u => by simp [Wish.words]⟩⟩
  · rw [S.toD]
    refine on_some (a := .str tag) (atI_head _ _) ?_
    refine ⟨S.ok _, ok_hasT _, ?_⟩
    rw [S.has]
    refine ⟨cut_part _ _, ?_⟩
    rw [cut_tail]
    refine for_inv (fun i rho mu => ∃ us x y, mu = [setW us] ∧ rho = [some (.dat (.tup (.str tag :: ks.map Wish.toD))), some (.cel 0), x, y] ∧ us.Nodup ∧ ∀ w, w ∈ us ↔ ∃ k ∈ ks.take i, w ∈ k.words) ⟨[], _, _, rfl, rfl, List.nodup_nil, fun w => by simp⟩ (fun i d rho mu K' hd' hq ke => ?_) (fun rho mu hq => ?_)
    · obtain ⟨us, x, y, rfl, rfl, nd, mem⟩ := hq
      rw [List.getElem?_map] at hd'
      cases hv : ks[i]? with
      | none => rw [hv] at hd'; cases hd'
      | some v =>
      rw [hv] at hd'
      cases hd'
      have hm := List.mem_of_getElem? hv
      have e1 : ks.take (i + 1) = ks.take i ++ [v] := by rw [List.take_add_one, hv]; rfl
      have vw : ∀ w ∈ v.words, w ∈ W.words := fun w h => by rw [S.words]; exact List.mem_flatMap.mpr ⟨v, hm, h⟩
      have h1 := S.deep v hm
      have h2 := S.size v hm
      cases n with
      | zero => omega
      | succ n =>
      refine ⟨rfl, v, rfl, rfl, by omega, by omega, fun w h => hw w (vw w h), fun ws hws => ?_⟩
      refine for_inv (fun j rho mu => ∃ us' y, mu = [setW us'] ∧ rho = [some (.dat (.tup (.str tag :: ks.map Wish.toD))), some (.cel 0), some (.dat v.toD), y] ∧ us'.Nodup ∧ ∀ w, w ∈ us' ↔ w ∈ us ∨ w ∈ ws.take j) ⟨us, _, rfl, rfl, nd, fun w => by simp⟩ (fun j d rho mu K2 hd2 hq ke2 => ?_) (fun rho mu hq => ?_)
      · obtain ⟨us', y, rfl, rfl, nd', mem'⟩ := hq
        obtain ⟨u, rfl, hu⟩ := str_at2 hd2
        have e2 : ws.take (j + 1) = ws.take j ++ [u] := by rw [List.take_add_one, hu]; rfl
        have lu : us'.length ≤ 1000 := by
          have h3 := sub_le (m := W.words) nd' fun w h => by
            rcases (mem' w).mp h with z | z
            · obtain ⟨k, hk, z⟩ := (mem w).mp z
              rw [S.words]
              exact List.mem_flatMap.mpr ⟨k, List.mem_of_mem_take hk, z⟩
            · exact vw w ((hws.mem w).mp (List.mem_of_mem_take z))
          have h4 := W.words_len
          omega
        refine ⟨by rw [keysW_len]; omega, ?_⟩
        refine ke2 _ _ ⟨wput us' u, _, congrArg (fun m => [m]) (put_W us' u), rfl, nodup_wput nd', fun w => ?_⟩
        rw [mem_wput, mem' w, e2, List.mem_append, List.mem_singleton, or_assoc]
      · obtain ⟨us', y, rfl, rfl, nd', mem'⟩ := hq
        refine ke _ _ ⟨us', _, _, rfl, rfl, nd', fun w => ?_⟩
        have h3 : w ∈ us' ↔ w ∈ us ∨ w ∈ ws.take (ws.map D.str).length := mem' w
        rw [List.length_map, List.take_length, hws.mem, mem w] at h3
        rw [h3, e1]
        simp [or_comm, List.mem_append]
    · obtain ⟨us, x, y, rfl, rfl, nd, mem⟩ := hq
      have mem : ∀ w, w ∈ us ↔ w ∈ W.words := fun w => by
        have h1 : w ∈ us ↔ ∃ k ∈ ks.take (ks.map Wish.toD).length, w ∈ k.words := mem w
        rw [List.length_map, List.take_length] at h1
        rw [h1, S.words, List.mem_flatMap]
      have lu : us.length ≤ 1000 := by
        have h3 := sub_le (m := W.words) nd fun w h => (mem w).mp h
        have h4 := W.words_len
        omega
      refine on_some (a := us) (by rw [keyV_W]; exact toSs_of us) ?_
      refine ⟨by omega, fun w hm => by have := hw w ((mem w).mp hm); omega, fun ys pm so => ?_⟩
      exact q ys ⟨so, pm.nodup_iff.mpr nd, fun w => (pm.mem_iff).trans (mem w)⟩

end Dx

namespace Lw
open PySem PySem.Spec PyProof.Rows L2 Dx
open Evl (Ex)
variable [Tb]
def t_law (K : PySem.W.Frag) : DS :=
  (dSeq (dSet 1 (dCallN (S_w_flow K) (aCons (dVar 0) aNil)))
  (dSeq (dSet 2 (dCallR S_w_some_letters (aCons (dVar 1) aNil)))
  (dSeq (dSet 3 (dFrz (fLc (iRg1 (aCons (dC (.int 3)) aNil)) (dgN 7) dYes (dCallR S_w_any_wish (aCons (dVar 1) (aCons (dVar 2) aNil))) [7])))
  (dSeq (dFor (iDat (dFrz (fOp fCat (dVar 3) (dFrz (fSl (dVar 3) oNone (oSome (dC (.int 1)))))))) (dgN 4)
  (dScope (dSeq (dSet 5 (dCall (S_w_words_in 7) (aCons (dVar 4) aNil)))
  (dSeq (dSet 6 (dCallN S_words_in (aCons (dVar 4) aNil)))
  (dSeq (dIf (dNot (dTest (dCallS (S_w_alike 6) (aCons (dVar 6) (aCons (dVar 5) aNil)))))
  (dRet (dC (.bl false)))
  dNext)
  (dSeq (dDrop (dBM "list" dAppend (dVar 6) (aCons (dC (.str (lit "zz"))) aNil)))
  (dSeq (dDrop (dBM "list" dReverse (dVar 6) aNil))
  (dIf (dNot (dTest (dCall (S_w_alike 6) (aCons (dCall S_words_in (aCons (dVar 4) aNil)) (aCons (dVar 5) aNil)))))
  (dRet (dC (.bl false)))
  dNext))))))))
  (dRet (dC (.bl true)))))))
theorem abc_ok {l w : List Nat} (h : ∀ c ∈ w, c ∈ l) (hl : ∀ c ∈ l, c ∈ abc) : ∀ c ∈ w, c < 1114112 := fun c hc => by
  have := abc_small (hl c (h c hc))
  omega
theorem cut_mem {α : Type} {s : List α} {lo hi : Option Int} {c : α} (h : c ∈ cut s lo hi) : c ∈ s := by
  unfold cut at h
  exact List.mem_of_mem_drop (List.mem_of_mem_take h)
theorem rd_law {K : PySem.W.Frag} : Body (t_law K) ["_law_script", "_law_flow_here", "_law_letters_here", "_law_some", "_law_wish_here", "_law_due", "_law_found", "_law_k"] (S_law K) := fun xs mu Q h => by
  obtain ⟨ns, rfl, h63, rfl, q⟩ := h
  refine ⟨rfl, ns, rfl, h63, rfl, ?_⟩
  have fo0 : FlowOk (.lst [.lst (ns.map D.int), .int 0, .int 0, .int 1, .int 0]) := ⟨ns, 0, 0, 1, 0, rfl, by omega, h63, by omega, by omega, by omega⟩
  generalize (MC.lst [.lst (ns.map D.int), .int 0, .int 0, .int 1, .int 0]) = m0 at fo0 ⊢
  refine ⟨fo0.live, rfl, m0, rfl, fo0, rfl, fun l m1 f1 hl l0 l3 => ?_⟩
  refine ⟨by decide, by decide, ?_⟩
  refine comp_inv (fun j acc mu => ∃ (m' : MC) (Ws : List Wish), mu = [m'] ∧ FlowOk m' ∧ acc = Ws.map Wish.toD ∧ Ws.length = j ∧ ∀ W ∈ Ws, W.deep ≤ 5 ∧ W.size ≤ 10 ∧ WishOk l 3 W) ⟨m1, [], rfl, f1, rfl, rfl, by simp⟩ (fun j d acc mu K' hd hp ke => ?_) (fun acc mu hp => ?_)
  · obtain ⟨m2, Ws, rfl, f2, rfl, wl, hW⟩ := hp
    obtain ⟨rfl, hj⟩ := rng_at hd
    have hj : j < 3 := hj
    refine ⟨f2.live, rfl, m2, l, rfl, f2, rfl, l0, by omega, fun W m3 f3 wd ws ww => ?_⟩
    refine ⟨by rw [List.length_map]; omega, ke _ _ ⟨m3, Ws ++ [W], rfl, f3, by rw [List.map_append]; rfl, by rw [List.length_append, wl]; rfl, fun V hV => ?_⟩⟩
    rcases List.mem_append.mp hV with z | z
    · exact hW V z
    · rw [List.mem_singleton] at z
      subst z
      exact ⟨wd, ws, ww⟩
  · obtain ⟨m2, Ws, rfl, f2, rfl, wl, hW⟩ := hp
    have e3 : (rngD 0 (3 : Int).toNat).length = 3 := rfl
    rw [e3] at wl
    have cl := cut_len (Ws.map Wish.toD) none (some 1)
    rw [List.length_map] at cl
    refine ⟨by rw [List.length_map]; omega, ?_⟩
    refine for_inv (fun i rho mu => ∃ x4 x5 x6 x7, mu = [m2] ∧ rho = [some (.dat (.scr K ns)), some (.cel 0), some (.dat (.str l)), some (.dat (.lst (Ws.map Wish.toD))), x4, x5, x6, x7]) ⟨_, _, _, _, rfl, rfl⟩ (fun i d rho mu K' hd hp ke => ?_) (fun rho mu hp => ?_)
    · obtain ⟨x4, x5, x6, x7, rfl, rfl⟩ := hp
      have hB : ∃ W ∈ Ws, d = W.toD := by
        have hm := List.mem_of_getElem? hd
        have h2 : d ∈ Ws.map Wish.toD := by
          rcases List.mem_append.mp hm with z | z
          · exact z
          · exact cut_mem z
        obtain ⟨W, h1, h2⟩ := List.mem_map.mp h2
        exact ⟨W, h1, h2.symm⟩
      obtain ⟨W, hm, rfl⟩ := hB
      obtain ⟨wd, wz, ww⟩ := hW W hm
      have w1 : ∀ w ∈ W.words, w.length ≤ 1000 := fun w hw => by have := (ww w hw).1; omega
      refine ⟨rfl, W, rfl, rfl, Nat.le_trans wd (by decide), by omega, w1, fun ws h1 => ?_⟩
      refine ⟨rfl, W, rfl, rfl, by omega, w1, fun us h2 => ?_⟩
      have e := h2.uniq h1
      subst e
      have few : us.length ≤ 10 := by
        have h3 := sub_le (m := W.words) h2.nd fun w h => (h2.mem w).mp h
        have h4 := W.words_len
        omega
      have pl : plainD 5 (.lst (us.map D.str)) = true := by
        rw [plainD, words_plain fun w hm c hc => abc_ok (ww w ((h2.mem w).mp hm)).2 hl.2 c hc, Bool.and_true]
        exact decide_eq_true (by rw [List.length_map]; omega)
      refine ⟨.lst (us.map D.str), rfl, rfl, by decide, pl, rfl, ?_⟩
      refine ⟨rfl, ?_⟩
      refine ⟨by rw [List.length_map]; omega, ?_⟩
      refine ⟨rfl, ?_⟩
      refine ⟨rfl, ?_⟩
      refine ⟨rfl, W, rfl, rfl, by omega, w1, fun us' h2' => ?_⟩
      have e := h2'.uniq h1
      subst e
      refine ⟨rfl, .lst (us'.map D.str), rfl, rfl, by decide, pl, ?_⟩
      exact ke _ _ ⟨_, _, _, _, rfl, rfl⟩
    · obtain ⟨x4, x5, x6, x7, rfl, rfl⟩ := hp
      exact q

end Lw

namespace Lw
open PySem PySem.Spec PyProof.Rows L2 Dx
open Evl (Ex)
def topS (i : Nat) : Stmt := PySem.Challenge.pw_spreadwords_k29_words_in_wishes.main.body.getD i (.Pass ⟨0, 0, 0, 0⟩)
section
variable [Tb]
abbrev s_parts_of : Stmt := topS 1
theorem sc_parts_of : FnScope ["wish", "found", "waiting", "part"] ["wish"] (defScope s_parts_of) := ⟨rfl, rfl, rfl, by decide +kernel, rfl, by decide +kernel, by decide +kernel⟩
abbrev s_words_in : Stmt := topS 2
theorem sc_words_in : FnScope ["wish", "found", "part"] ["wish"] (defScope s_words_in) := ⟨rfl, rfl, rfl, by decide +kernel, rfl, by decide +kernel, by decide +kernel⟩
abbrev s_w_flow : Stmt := topS 4
theorem sc_w_flow : FnScope ["_law_script"] ["_law_script"] (defScope s_w_flow) := ⟨rfl, rfl, rfl, by decide +kernel, rfl, by decide +kernel, by decide +kernel⟩
abbrev s_w_pick : Stmt := topS 5
theorem sc_w_pick : FnScope ["_law_flow_here", "_law_many", "_law_cell", "_law_digit"] ["_law_flow_here", "_law_many"] (defScope s_w_pick) := ⟨rfl, rfl, rfl, by decide +kernel, rfl, by decide +kernel, by decide +kernel⟩
abbrev s_w_alike : Stmt := topS 6
theorem sc_w_alike : FnScope ["_law_found", "_law_due", "_law_k"] ["_law_found", "_law_due"] (defScope s_w_alike) := ⟨rfl, rfl, rfl, by decide +kernel, rfl, by decide +kernel, by decide +kernel⟩
abbrev s_w_letters : Stmt := topS 7
theorem sc_w_letters : FnScope ["_law_flow_here", "_law_many", "_law_left", "_law_k"] ["_law_flow_here", "_law_many"] (defScope s_w_letters) := ⟨rfl, rfl, rfl, by decide +kernel, rfl, by decide +kernel, by decide +kernel⟩
abbrev s_w_order : Stmt := topS 8
theorem sc_w_order : FnScope ["_law_word"] ["_law_word"] (defScope s_w_order) := ⟨rfl, rfl, rfl, by decide +kernel, rfl, by decide +kernel, by decide +kernel⟩
theorem rd_w_order : Body t_w_order ["_law_word"] S_order := Body.ren rfl Dx.rd_w_order
abbrev s_w_wish : Stmt := topS 9
theorem sc_w_wish : FnScope ["_law_flow_here", "_law_letters_here", "_law_room", "_law_deep", "_law_most", "_law_way", "_law_drawn", "_law_first", "_law_one", "_law_other", "_law_k"] ["_law_flow_here", "_law_letters_here", "_law_room", "_law_deep", "_law_most"] (defScope s_w_wish) := ⟨rfl, rfl, rfl, by decide +kernel, rfl, by decide +kernel, by decide +kernel⟩
abbrev s_w_words_in : Stmt := topS 10
theorem sc_w_words_in : FnScope ["_law_wish_here", "_law_found", "_law_part", "_law_word"] ["_law_wish_here"] (defScope s_w_words_in) := ⟨rfl, rfl, rfl, by decide +kernel, rfl, by decide +kernel, by decide +kernel⟩
abbrev s_w_any_wish : Stmt := topS 11
theorem sc_w_any_wish : FnScope ["_law_flow_here", "_law_letters_here"] ["_law_flow_here", "_law_letters_here"] (defScope s_w_any_wish) := ⟨rfl, rfl, rfl, by decide +kernel, rfl, by decide +kernel, by decide +kernel⟩
abbrev s_w_some_letters : Stmt := topS 12
theorem sc_w_some_letters : FnScope ["_law_flow_here"] ["_law_flow_here"] (defScope s_w_some_letters) := ⟨rfl, rfl, rfl, by decide +kernel, rfl, by decide +kernel, by decide +kernel⟩
abbrev s_law : Stmt := topS 13
theorem sc_law : FnScope ["_law_script", "_law_flow_here", "_law_letters_here", "_law_some", "_law_wish_here", "_law_due", "_law_found", "_law_k"] ["_law_script"] (defScope s_law) := ⟨rfl, rfl, rfl, by decide +kernel, rfl, by decide +kernel, by decide +kernel⟩
section
variable {P : Program} {w : World} {K : PySem.W.Frag} {mg : Str → Option Value} {base : Heap}
theorem ok_parts_of (D : Df K mg "parts_of" s_parts_of ["wish"]) (z_len : mg "len" = none) (z_list : mg "list" = none) : Cal P w K mg base 1 "parts_of" ["wish"] S_parts_of :=
  D.cal 0 sc_parts_of len_parts_of rd_parts_of fun f cdv A outer s H E hr =>
    (css_cons (cs_set 1 sc_parts_of.nd (ce_new (cf_lst ca_nil)))
      (css_cons (cs_set 2 sc_parts_of.nd (ce_new (cf_lst (ca_cons (cv 0) ca_nil))))
      (css_cons (cs_while PassesOwn.never (ct_cmp oGt (ce_callB (cLen) rfl z_len b_len (ca_cons (cv 2) ca_nil)) ce_int)
      (css_cons (cs_set 3 sc_parts_of.nd (ce_bm0 mPop PySem.F.plainAttrs_list PySem.F.slot_list_pop PySem.F.type_list_pop (cv 2)))
      (css_cons (cs_expr (ce_bm mAppend PySem.F.plainAttrs_list PySem.F.slot_list_append PySem.F.type_list_append (cv 1) (ca_cons (cv 3) ca_nil)))
      (css_one (cs_if (ct_cmp oIn (cix (cv 3) ce_int) (ce_tup (ca_cons ce_str (ca_cons ce_str (ca_cons ce_str ca_nil))))) (css_one (cs_expr (ce_bm mExtend PySem.F.plainAttrs_list PySem.F.slot_list_extend PySem.F.type_list_extend (cv 2) (ca_cons (ce_frz (cf_callTy cListOf rfl z_list b_list (ca_cons (ce_cut (cv 3) (co_some ce_int) co_none) ca_nil))) ca_nil)))) css_nil)))))
      (css_one (cs_ret (cv 1))))))
theorem ok_words_in {cC cP : Addr} (D : DfC K mg "words_in" s_words_in ["wish"] cC) (gl : LamIn mg base "words_in" cC cP) (c_parts_of : Cal P w K mg base 1 "parts_of" ["wish"] S_parts_of) (z_len : mg "len" = none) (z_list : mg "list" = none) (z_sorted : mg "sorted" = none) : Cal P w K mg base 4 "words_in" ["wish"] S_words_in :=
  D.cal 3 sc_words_in len_words_in rd_words_in fun f A outer s H E hr =>
    (css_cons (cs_set 1 sc_words_in.nd (ce_new cf_dK0))
      (css_cons (cs_for PassesOwn.never rfl (ci_list (cc c_parts_of (hr.mono (by decide)) (ca_cons (cv 0) ca_nil))) (cg_name 2 sc_words_in.nd)
      (css_one (cs_if (ct_cmp (oEq hr.units) (cix (cv 2) ce_int) ce_str) (css_one (cs_dput (hu_of hr) (cv 1) (cix (cv 2) ce_int) ce_bl)) css_nil)))
      (css_one (cs_retF (cfLam (k := 0) rfl gl rfl rfl ⟨⟨rfl, rfl, rfl, by decide +kernel, rfl, by decide +kernel, by decide +kernel⟩, fun _ _ _ _ _ _ => rfl, fun _ => rfl, fun _ => rfl⟩ rfl rfl (hr.mono (by decide)) z_sorted z_len (ce_frz (cf_callTy (cListD rfl) rfl z_list b_list (ca_cons (cv 1) ca_nil))))))))
theorem ok_w_flow (D : Df K mg "_law_flow" s_w_flow ["_law_script"]) (z_list : mg "list" = none) : Cal P w K mg base 1 "_law_flow" ["_law_script"] (S_w_flow K) :=
  D.cal 0 sc_w_flow len_w_flow rd_w_flow fun f cdv A outer s H E hr =>
    (css_one (cs_retF (cf_lst (ca_cons (ce_frz (cf_callTy cListScr rfl z_list b_list (ca_cons (cv 0) ca_nil))) (ca_cons ce_int (ca_cons ce_int (ca_cons ce_int (ca_cons ce_int ca_nil))))))))
theorem ok_w_pick (D : Df K mg "_law_pick" s_w_pick ["_law_flow_here", "_law_many"]) (z_len : mg "len" = none) : Cal P w K mg base 1 "_law_pick" ["_law_flow_here", "_law_many"] S_w_pick :=
  D.cal 0 sc_w_pick len_w_pick rd_w_pick fun f cdv A outer s H E hr =>
    (css_cons (cs_if (ct_w (cw_and (ct_cmp (oEq hr.units) (cix (cv 0) ce_int) ce_int) (cw_and1 (ct_cmp oLt (cix (cv 0) ce_int) (ce_callB (cLen) rfl z_len b_len (ca_cons (cix (cv 0) ce_int) ca_nil)))))) (css_cons (cs_set 2 sc_w_pick.nd (cix (cix (cv 0) ce_int) (cix (cv 0) ce_int)))
      (css_cons (cs_putL (ce_op oAdd (cix (cv 0) ce_int) ce_int) (cv 0) ce_int)
      (css_one (cs_if (ct_cmp oGe (cv 2) (ce_op oPow ce_int ce_int)) (css_one (cs_putL (cv 2) (cv 0) ce_int)) (css_one (cs_putL (ce_op oMod (ce_op oAdd (ce_op oAdd (ce_op oMul (cix (cv 0) ce_int) ce_int) (ce_op oMod (cv 2) ce_int)) ce_int) ce_int) (cv 0) ce_int)))))) css_nil)
      (css_cons (cs_if (ct_cmp oGt (cix (cv 0) ce_int) ce_int) (css_cons (cs_set 3 sc_w_pick.nd (ce_op oMod (cix (cv 0) ce_int) (cv 1)))
      (css_cons (cs_putL (ce_op oFdiv (cix (cv 0) ce_int) (cv 1)) (cv 0) ce_int)
      (css_one (cs_ret (cv 3))))) css_nil)
      (css_cons (cs_putL (ce_op oAdd (cix (cv 0) ce_int) ce_int) (cv 0) ce_int)
      (css_cons (cs_putL (ce_op oMod (ce_op oAdd (ce_op oAdd (ce_op oMul (cix (cv 0) ce_int) ce_int) ce_int) (cix (cv 0) ce_int)) ce_int) (cv 0) ce_int)
      (css_one (cs_ret (ce_op oMod (ce_op oFdiv (ce_op oMod (ce_op oMul (ce_op oAdd (ce_op oMod (cix (cv 0) ce_int) ce_int) ce_int) (ce_op oAdd (ce_op oFdiv (cix (cv 0) ce_int) ce_int) ce_int)) ce_int) ce_int) (cv 1))))))))
theorem ok_w_alike (D : Df K mg "_law_alike" s_w_alike ["_law_found", "_law_due"]) (z_all : mg "all" = none) (z_bool : mg "bool" = none) (z_isinstance : mg "isinstance" = none) (z_len : mg "len" = none) (z_list : mg "list" = none) (z_range : mg "range" = none) (z_tuple : mg "tuple" = none) : ∀ n : Nat, Cal P w K mg base (n) "_law_alike" ["_law_found", "_law_due"] (S_w_alike n)
  | 0 => D.never fun _ _ _ h => h
  | n + 1 => D.cal (n) sc_w_alike len_w_alike rd_w_alike fun f cdv A outer s H E hr =>
    (css_cons (cs_if (ct_val (ce_isi2 (T := "list") (T' := "tuple") z_isinstance z_list z_tuple b_list b_tuple (cv 1))) (css_cons (cs_if (ct_cmp (oNe hr.units) (ce_isi (T := "list") z_isinstance z_list b_list (cv 0)) (ce_isi (T := "list") z_isinstance z_list b_list (cv 1))) (css_one (cs_ret ce_bl)) css_nil)
      (css_cons (cs_if (ct_cmp (oNe hr.units) (ce_isi (T := "tuple") z_isinstance z_tuple b_tuple (cv 0)) (ce_isi (T := "tuple") z_isinstance z_tuple b_tuple (cv 1))) (css_one (cs_ret ce_bl)) css_nil)
      (css_cons (cs_if (ct_cmp (oNe hr.units) (ce_callB (cLen) rfl z_len b_len (ca_cons (cv 0) ca_nil)) (ce_callB (cLen) rfl z_len b_len (ca_cons (cv 1) ca_nil))) (css_one (cs_ret ce_bl)) css_nil)
      (css_one (cs_ret (ce_callB (cAll rfl) rfl z_all b_all (ca_cons (ce_frz (cf_lc [("_law_k", 2)] rfl sc_w_alike.nd (show blkC ["_law_found", "_law_due", "_law_k"] (defScope s_w_alike) _ [("_law_k", 2)] = true by decide +kernel) (ci_rg1 z_range (ca_cons (ce_callB (cLen) rfl z_len b_len (ca_cons (cv 1) ca_nil)) ca_nil)) (fun _ _ _ _ _ => (cg_name 2 sc_w_alike.nd)) (fun _ _ _ _ _ => cts_nil) (fun _ _ _ _ _ => (cc (ok_w_alike D z_all z_bool z_isinstance z_len z_list z_range z_tuple n) hr (ca_cons (cix (cv 0) (cv 2)) (ca_cons (cix (cv 1) (cv 2)) ca_nil)))))) ca_nil))))))) css_nil)
      (css_one (cs_ret (ce_and (ce_cmp (oEq hr.units) (ce_isi (T := "bool") z_isinstance z_bool b_bool (cv 0)) (ce_isi (T := "bool") z_isinstance z_bool b_bool (cv 1))) (ce_one (ce_cmp (oEq hr.units) (cv 0) (cv 1)))))))
theorem ok_w_letters (D : Df K mg "_law_letters" s_w_letters ["_law_flow_here", "_law_many"]) (c_w_pick : Cal P w K mg base 1 "_law_pick" ["_law_flow_here", "_law_many"] S_w_pick) (z_len : mg "len" = none) (z_list : mg "list" = none) (z_range : mg "range" = none) (z_sorted : mg "sorted" = none) : Cal P w K mg base 2 "_law_letters" ["_law_flow_here", "_law_many"] S_w_letters :=
  D.cal 1 sc_w_letters len_w_letters rd_w_letters fun f cdv A outer s H E hr =>
    (css_cons (cs_set 2 sc_w_letters.nd (ce_new (cf_callTy (cListS rfl) rfl z_list b_list (ca_cons ce_str ca_nil))))
      (css_one (cs_ret (ce_bm mJoin PySem.F.plainAttrs_str PySem.F.slot_str_join PySem.F.type_str_join ce_str (ca_cons (ce_frz (cf_callB cSortedS rfl z_sorted b_sorted (ca_cons (ce_frz (cf_lc [("_law_k", 3)] rfl sc_w_letters.nd (show blkC ["_law_flow_here", "_law_many", "_law_left", "_law_k"] (defScope s_w_letters) _ [("_law_k", 3)] = true by decide +kernel) (ci_rg1 z_range (ca_cons (cv 1) ca_nil)) (fun _ _ _ _ _ => (cg_name 3 sc_w_letters.nd)) (fun _ _ _ _ _ => cts_nil) (fun _ _ _ _ _ => (ce_bm mPopAt PySem.F.plainAttrs_list PySem.F.slot_list_pop PySem.F.type_list_pop (cv 2) (ca_cons (ccR c_w_pick (hr.mono (by decide)) (ca_cons (cv 0) (ca_cons (ce_callB (cLen) rfl z_len b_len (ca_cons (cv 2) ca_nil)) ca_nil))) ca_nil))))) ca_nil))) ca_nil)))))
theorem ok_w_order (D : Df K mg "_law_order" s_w_order ["_law_word"]) (z_len : mg "len" = none) : Cal P w K mg base 1 "_law_order" ["_law_word"] S_order :=
  D.cal 0 sc_w_order len_w_order rd_w_order fun f cdv A outer s H E hr =>
    (css_one (cs_ret (ce_tup (ca_cons (ce_callB (cLen) rfl z_len b_len (ca_cons (cv 0) ca_nil)) (ca_cons (cv 0) ca_nil)))))
theorem ok_w_wish (D : Df K mg "_law_wish" s_w_wish ["_law_flow_here", "_law_letters_here", "_law_room", "_law_deep", "_law_most"]) (c_w_pick : Cal P w K mg base 1 "_law_pick" ["_law_flow_here", "_law_many"] S_w_pick) (z_len : mg "len" = none) (z_range : mg "range" = none) : ∀ n : Nat, Cal P w K mg base (n + 1) "_law_wish" ["_law_flow_here", "_law_letters_here", "_law_room", "_law_deep", "_law_most"] (S_w_wish n)
  | 0 => D.never fun _ _ _ h => h
  | n + 1 => D.cal (n + 1) sc_w_wish len_w_wish rd_w_wish fun f cdv A outer s H E hr =>
    (css_cons (cs_set 5 sc_w_wish.nd (ccR c_w_pick (hr.mono (by omega)) (ca_cons (cv 0) (ca_cons ce_int ca_nil))))
      (css_cons (cs_if (ct_w (cw_or (ct_cmp oLt (cv 2) ce_int) (cw_or (ct_cmp (oEq hr.units) (cv 3) ce_int) (cw_or1 (ct_cmp (oEq hr.units) (cv 5) ce_int))))) (css_cons (cs_set 6 sc_w_wish.nd (ccR c_w_pick (hr.mono (by omega)) (ca_cons (cv 0) (ca_cons ce_int ca_nil))))
      (css_cons (cs_if (ct_cmp oLt (cv 6) ce_int) (css_one (cs_ret (cix (ce_frz (cf_lst (ca_cons (ce_tup (ca_cons ce_str ca_nil)) (ca_cons (ce_tup (ca_cons ce_str ca_nil)) ca_nil)))) (cv 6)))) css_nil)
      (css_one (cs_ret (ce_tup (ca_cons ce_str (ca_cons (ce_bm mJoin PySem.F.plainAttrs_str PySem.F.slot_str_join PySem.F.type_str_join ce_str (ca_cons (ce_frz (cf_lc [("_law_k", 10)] rfl sc_w_wish.nd (show blkC ["_law_flow_here", "_law_letters_here", "_law_room", "_law_deep", "_law_most", "_law_way", "_law_drawn", "_law_first", "_law_one", "_law_other", "_law_k"] (defScope s_w_wish) _ [("_law_k", 10)] = true by decide +kernel) (ci_rg1 z_range (ca_cons (ccR c_w_pick (hr.mono (by omega)) (ca_cons (cv 0) (ca_cons (ce_op oAdd (cv 4) ce_int) ca_nil))) ca_nil)) (fun _ _ _ _ _ => (cg_name 10 sc_w_wish.nd)) (fun _ _ _ _ _ => cts_nil) (fun _ _ _ _ _ => (cix (cv 1) (ccR c_w_pick (hr.mono (by omega)) (ca_cons (cv 0) (ca_cons (ce_callB (cLen) rfl z_len b_len (ca_cons (cv 1) ca_nil)) ca_nil))))))) ca_nil)) ca_nil))))))) css_nil)
      (css_cons (cs_if (ct_w (cw_or (ct_cmp oLt (cv 5) ce_int) (cw_or1 (ct_cmp oLt (cv 2) ce_int)))) (css_one (cs_ret (ce_tup (ca_cons ce_str (ca_cons (ccR (ok_w_wish D c_w_pick z_len z_range n) hr (ca_cons (cv 0) (ca_cons (cv 1) (ca_cons (ce_op oSub (cv 2) ce_int) (ca_cons (ce_op oSub (cv 3) ce_int) (ca_cons (cv 4) ca_nil)))))) ca_nil))))) css_nil)
      (css_cons (cs_set 7 sc_w_wish.nd (ce_op oAdd ce_int (ccR c_w_pick (hr.mono (by omega)) (ca_cons (cv 0) (ca_cons (ce_op oSub (cv 2) ce_int) ca_nil)))))
      (css_cons (cs_set 8 sc_w_wish.nd (ccR (ok_w_wish D c_w_pick z_len z_range n) hr (ca_cons (cv 0) (ca_cons (cv 1) (ca_cons (cv 7) (ca_cons (ce_op oSub (cv 3) ce_int) (ca_cons (cv 4) ca_nil)))))))
      (css_cons (cs_set 9 sc_w_wish.nd (ccR (ok_w_wish D c_w_pick z_len z_range n) hr (ca_cons (cv 0) (ca_cons (cv 1) (ca_cons (ce_op oSub (ce_op oSub (cv 2) ce_int) (cv 7)) (ca_cons (ce_op oSub (cv 3) ce_int) (ca_cons (cv 4) ca_nil)))))))
      (css_one (cs_ret (ce_tup (ca_cons (cix (ce_frz (cf_lst (ca_cons ce_str (ca_cons ce_str ca_nil)))) (ccR c_w_pick (hr.mono (by omega)) (ca_cons (cv 0) (ca_cons ce_int ca_nil)))) (ca_cons (cv 8) (ca_cons (cv 9) ca_nil))))))))))))
theorem ok_w_words_in (D : Df K mg "_law_words_in" s_w_words_in ["_law_wish_here"]) (c_w_order : Cal P w K mg base 1 "_law_order" ["_law_word"] S_order) (z_list : mg "list" = none) (z_sorted : mg "sorted" = none) : ∀ n : Nat, Cal P w K mg base (n + 3) "_law_words_in" ["_law_wish_here"] (S_w_words_in n)
  | 0 => D.never fun _ _ _ h => h
  | n + 1 => D.cal (n + 3) sc_w_words_in len_w_words_in rd_w_words_in fun f cdv A outer s H E hr =>
    (css_cons (cs_if (ct_cmp (oEq hr.units) (cix (cv 0) ce_int) ce_str) (css_one (cs_retF (cf_lst (ca_cons (cix (cv 0) ce_int) ca_nil)))) css_nil)
      (css_cons (cs_set 1 sc_w_words_in.nd (ce_new cf_dK0))
      (css_cons (cs_for PassesOwn.never rfl (ci_tup (ce_cut (cv 0) (co_some ce_int) co_none)) (cg_name 2 sc_w_words_in.nd)
      (css_one (cs_for PassesOwn.never rfl (ci_list (cc (ok_w_words_in D c_w_order z_list z_sorted n) hr (ca_cons (cv 2) ca_nil))) (cg_name 3 sc_w_words_in.nd)
      (css_one (cs_dput (hu_of hr) (cv 1) (cv 3) ce_bl)))))
      (css_one (cs_retF (cf_sortKey rfl c_w_order (hr.mono (by omega)) z_sorted (ce_frz (cf_callTy (cListD rfl) rfl z_list b_list (ca_cons (cv 1) ca_nil)))))))))
theorem ok_w_any_wish (D : Df K mg "_law_any_wish" s_w_any_wish ["_law_flow_here", "_law_letters_here"]) (c_w_wish : Cal P w K mg base 8 "_law_wish" ["_law_flow_here", "_law_letters_here", "_law_room", "_law_deep", "_law_most"] (S_w_wish 7)) (c_w_pick : Cal P w K mg base 1 "_law_pick" ["_law_flow_here", "_law_many"] S_w_pick) : Cal P w K mg base 9 "_law_any_wish" ["_law_flow_here", "_law_letters_here"] S_w_any_wish :=
  D.cal 8 sc_w_any_wish len_w_any_wish rd_w_any_wish fun f cdv A outer s H E hr =>
    (css_one (cs_ret (ccR c_w_wish (hr.mono (by decide)) (ca_cons (cv 0) (ca_cons (cv 1) (ca_cons (cix (ce_frz (cf_lst (ca_cons ce_int (ca_cons (ce_op oAdd ce_int (ccR c_w_pick (hr.mono (by decide)) (ca_cons (cv 0) (ca_cons ce_int ca_nil)))) ca_nil)))) (ccR c_w_pick (hr.mono (by decide)) (ca_cons (cv 0) (ca_cons ce_int ca_nil)))) (ca_cons ce_int (ca_cons ce_int ca_nil))))))))
theorem ok_w_some_letters (D : Df K mg "_law_some_letters" s_w_some_letters ["_law_flow_here"]) (c_w_letters : Cal P w K mg base 2 "_law_letters" ["_law_flow_here", "_law_many"] S_w_letters) (c_w_pick : Cal P w K mg base 1 "_law_pick" ["_law_flow_here", "_law_many"] S_w_pick) : Cal P w K mg base 3 "_law_some_letters" ["_law_flow_here"] S_w_some_letters :=
  D.cal 2 sc_w_some_letters len_w_some_letters rd_w_some_letters fun f cdv A outer s H E hr =>
    (css_one (cs_ret (ccR c_w_letters (hr.mono (by decide)) (ca_cons (cv 0) (ca_cons (cix (ce_frz (cf_lst (ca_cons ce_int (ca_cons ce_int (ca_cons ce_int (ca_cons ce_int (ca_cons ce_int ca_nil))))))) (ccR c_w_pick (hr.mono (by decide)) (ca_cons (cv 0) (ca_cons ce_int ca_nil)))) ca_nil)))))
theorem fn_law {f : Addr} {fd : FuncData} (F : Fun K "law" "law" s_law f fd) (c_w_flow : Cal P w K mg base 1 "_law_flow" ["_law_script"] (S_w_flow K)) (c_w_some_letters : Cal P w K mg base 3 "_law_some_letters" ["_law_flow_here"] S_w_some_letters) (c_w_any_wish : Cal P w K mg base 9 "_law_any_wish" ["_law_flow_here", "_law_letters_here"] S_w_any_wish) (c_w_words_in : Cal P w K mg base 10 "_law_words_in" ["_law_wish_here"] (S_w_words_in 7)) (c_words_in : Cal P w K mg base 4 "words_in" ["wish"] S_words_in) (c_w_alike : Cal P w K mg base 6 "_law_alike" ["_law_found", "_law_due"] (S_w_alike 6)) (z_range : mg "range" = none) : FnOk P w K mg base CX0 11 f fd ["_law_script"] (spOf (S_law K)) :=
  dfn F sc_law len_law fun cdv A outer s H E hr => ⟨t_law K,
    (css_cons (cs_set 1 sc_law.nd (ccN c_w_flow (hr.mono (by decide)) (ca_cons (cv 0) ca_nil)))
      (css_cons (cs_set 2 sc_law.nd (ccR c_w_some_letters (hr.mono (by decide)) (ca_cons (cv 1) ca_nil)))
      (css_cons (cs_setLc 3 [("_law_k", 7)] rfl sc_law.nd (show blkC ["_law_script", "_law_flow_here", "_law_letters_here", "_law_some", "_law_wish_here", "_law_due", "_law_found", "_law_k"] (defScope s_law) _ [("_law_k", 7)] = true by decide +kernel) (ci_rg1 z_range (ca_cons ce_int ca_nil)) (fun _ _ _ _ _ => (cg_name 7 sc_law.nd)) (fun _ _ _ _ _ => cts_nil) (fun _ _ _ _ _ => (ccR c_w_any_wish (hr.mono (by decide)) (ca_cons (cv 1) (ca_cons (cv 2) ca_nil)))))
      (css_cons (cs_for PassesOwn.never rfl (ci_list (ce_frz (cf_cat (cv 3) (ce_frz (cf_cut (cv 3) co_none (co_some ce_int)))))) (cg_name 4 sc_law.nd)
      (css_scope (css_cons (cs_set 5 sc_law.nd (cc c_w_words_in (hr.mono (by decide)) (ca_cons (cv 4) ca_nil)))
      (css_cons (cs_set 6 sc_law.nd (ccN c_words_in (hr.mono (by decide)) (ca_cons (cv 4) ca_nil)))
      (css_cons (cs_if (ct_not (ct_val (ccS c_w_alike (hr.mono (by decide)) (ca_cons (cv 6) (ca_cons (cv 5) ca_nil))))) (css_one (cs_ret ce_bl)) css_nil)
      (css_cons (cs_expr (ce_bm mAppend PySem.F.plainAttrs_list PySem.F.slot_list_append PySem.F.type_list_append (cv 6) (ca_cons ce_str ca_nil)))
      (css_cons (cs_expr (ce_bm0 mReverse PySem.F.plainAttrs_list PySem.F.slot_list_reverse PySem.F.type_list_reverse (cv 6)))
      (css_one (cs_if (ct_not (ct_val (cc c_w_alike (hr.mono (by decide)) (ca_cons (cc c_words_in (hr.mono (by decide)) (ca_cons (cv 4) ca_nil)) (ca_cons (cv 5) ca_nil))))) (css_one (cs_ret ce_bl)) css_nil)))))))))
      (css_one (cs_ret ce_bl)))))), rd_law⟩
end
end
theorem all_mk {lw : PySem.W.OpenLaw} {w : World} {K : PySem.W.Frag} {h : Heap} {mg : Str → Option Value} {fa : Addr} (X : K.In h) (G : h.Ns mainGlobals mg) (hfa : mg "law" = some (.ref fa))
    {f0 : Addr} {od0 an0 : Option Addr} {sl0 : Array (Option Value)} {oc0 kV0 dc0 pm0 cd0 ct0 : Value} (a0 : PySem.W.nsIn K mainGlobals "parts_of" = some (some (.ref f0))) (l0 : K.lookup f0 = some ⟨oc0, od0, .func (PySem.W.fnOf "parts_of" "parts_of" (defArgs s_parts_of) (defBody s_parts_of) (defScope s_parts_of) .none kV0 dc0 pm0 an0 cd0 ct0), sl0⟩) (c0 : PySem.W.codeIn K cd0 "parts_of" = true) (k0 : PySem.W.keepIn K (.ref f0) = true)
    {f1 : Addr} {od1 an1 : Option Addr} {sl1 : Array (Option Value)} {oc1 kV1 dc1 pm1 ct1 : Value} {cC1 cP1 : Addr} (a1 : PySem.W.nsIn K mainGlobals "words_in" = some (some (.ref f1))) (l1 : K.lookup f1 = some ⟨oc1, od1, .func (PySem.W.fnOf "words_in" "words_in" (defArgs s_words_in) (defBody s_words_in) (defScope s_words_in) .none kV1 dc1 pm1 an1 (.ref cC1) ct1), sl1⟩) (c1 : PySem.W.codeIn K (.ref cC1) "words_in" = true) (k1 : PySem.W.keepIn K (.ref f1) = true) (h1 : PySem.W.codeHdIn K cC1 cP1 = true) (n1 : K.lookup cP1 = none) (t1 : h.get? cP1 = some { cls := .none, data := .fields #[] })
    {f2 : Addr} {od2 an2 : Option Addr} {sl2 : Array (Option Value)} {oc2 kV2 dc2 pm2 cd2 ct2 : Value} (a2 : PySem.W.nsIn K mainGlobals "_law_flow" = some (some (.ref f2))) (l2 : K.lookup f2 = some ⟨oc2, od2, .func (PySem.W.fnOf "_law_flow" "_law_flow" (defArgs s_w_flow) (defBody s_w_flow) (defScope s_w_flow) .none kV2 dc2 pm2 an2 cd2 ct2), sl2⟩) (c2 : PySem.W.codeIn K cd2 "_law_flow" = true) (k2 : PySem.W.keepIn K (.ref f2) = true)
    {f3 : Addr} {od3 an3 : Option Addr} {sl3 : Array (Option Value)} {oc3 kV3 dc3 pm3 cd3 ct3 : Value} (a3 : PySem.W.nsIn K mainGlobals "_law_pick" = some (some (.ref f3))) (l3 : K.lookup f3 = some ⟨oc3, od3, .func (PySem.W.fnOf "_law_pick" "_law_pick" (defArgs s_w_pick) (defBody s_w_pick) (defScope s_w_pick) .none kV3 dc3 pm3 an3 cd3 ct3), sl3⟩) (c3 : PySem.W.codeIn K cd3 "_law_pick" = true) (k3 : PySem.W.keepIn K (.ref f3) = true)
    {f4 : Addr} {od4 an4 : Option Addr} {sl4 : Array (Option Value)} {oc4 kV4 dc4 pm4 cd4 ct4 : Value} (a4 : PySem.W.nsIn K mainGlobals "_law_alike" = some (some (.ref f4))) (l4 : K.lookup f4 = some ⟨oc4, od4, .func (PySem.W.fnOf "_law_alike" "_law_alike" (defArgs s_w_alike) (defBody s_w_alike) (defScope s_w_alike) .none kV4 dc4 pm4 an4 cd4 ct4), sl4⟩) (c4 : PySem.W.codeIn K cd4 "_law_alike" = true) (k4 : PySem.W.keepIn K (.ref f4) = true)
    {f5 : Addr} {od5 an5 : Option Addr} {sl5 : Array (Option Value)} {oc5 kV5 dc5 pm5 cd5 ct5 : Value} (a5 : PySem.W.nsIn K mainGlobals "_law_letters" = some (some (.ref f5))) (l5 : K.lookup f5 = some ⟨oc5, od5, .func (PySem.W.fnOf "_law_letters" "_law_letters" (defArgs s_w_letters) (defBody s_w_letters) (defScope s_w_letters) .none kV5 dc5 pm5 an5 cd5 ct5), sl5⟩) (c5 : PySem.W.codeIn K cd5 "_law_letters" = true) (k5 : PySem.W.keepIn K (.ref f5) = true)
    {f6 : Addr} {od6 an6 : Option Addr} {sl6 : Array (Option Value)} {oc6 kV6 dc6 pm6 cd6 ct6 : Value} (a6 : PySem.W.nsIn K mainGlobals "_law_order" = some (some (.ref f6))) (l6 : K.lookup f6 = some ⟨oc6, od6, .func (PySem.W.fnOf "_law_order" "_law_order" (defArgs s_w_order) (defBody s_w_order) (defScope s_w_order) .none kV6 dc6 pm6 an6 cd6 ct6), sl6⟩) (c6 : PySem.W.codeIn K cd6 "_law_order" = true) (k6 : PySem.W.keepIn K (.ref f6) = true)
    {f7 : Addr} {od7 an7 : Option Addr} {sl7 : Array (Option Value)} {oc7 kV7 dc7 pm7 cd7 ct7 : Value} (a7 : PySem.W.nsIn K mainGlobals "_law_wish" = some (some (.ref f7))) (l7 : K.lookup f7 = some ⟨oc7, od7, .func (PySem.W.fnOf "_law_wish" "_law_wish" (defArgs s_w_wish) (defBody s_w_wish) (defScope s_w_wish) .none kV7 dc7 pm7 an7 cd7 ct7), sl7⟩) (c7 : PySem.W.codeIn K cd7 "_law_wish" = true) (k7 : PySem.W.keepIn K (.ref f7) = true)
    {f8 : Addr} {od8 an8 : Option Addr} {sl8 : Array (Option Value)} {oc8 kV8 dc8 pm8 cd8 ct8 : Value} (a8 : PySem.W.nsIn K mainGlobals "_law_words_in" = some (some (.ref f8))) (l8 : K.lookup f8 = some ⟨oc8, od8, .func (PySem.W.fnOf "_law_words_in" "_law_words_in" (defArgs s_w_words_in) (defBody s_w_words_in) (defScope s_w_words_in) .none kV8 dc8 pm8 an8 cd8 ct8), sl8⟩) (c8 : PySem.W.codeIn K cd8 "_law_words_in" = true) (k8 : PySem.W.keepIn K (.ref f8) = true)
    {f9 : Addr} {od9 an9 : Option Addr} {sl9 : Array (Option Value)} {oc9 kV9 dc9 pm9 cd9 ct9 : Value} (a9 : PySem.W.nsIn K mainGlobals "_law_any_wish" = some (some (.ref f9))) (l9 : K.lookup f9 = some ⟨oc9, od9, .func (PySem.W.fnOf "_law_any_wish" "_law_any_wish" (defArgs s_w_any_wish) (defBody s_w_any_wish) (defScope s_w_any_wish) .none kV9 dc9 pm9 an9 cd9 ct9), sl9⟩) (c9 : PySem.W.codeIn K cd9 "_law_any_wish" = true) (k9 : PySem.W.keepIn K (.ref f9) = true)
    {f10 : Addr} {od10 an10 : Option Addr} {sl10 : Array (Option Value)} {oc10 kV10 dc10 pm10 cd10 ct10 : Value} (a10 : PySem.W.nsIn K mainGlobals "_law_some_letters" = some (some (.ref f10))) (l10 : K.lookup f10 = some ⟨oc10, od10, .func (PySem.W.fnOf "_law_some_letters" "_law_some_letters" (defArgs s_w_some_letters) (defBody s_w_some_letters) (defScope s_w_some_letters) .none kV10 dc10 pm10 an10 cd10 ct10), sl10⟩) (c10 : PySem.W.codeIn K cd10 "_law_some_letters" = true) (k10 : PySem.W.keepIn K (.ref f10) = true)
    {f11 : Addr} {od11 an11 : Option Addr} {sl11 : Array (Option Value)} {oc11 kV11 dc11 pm11 cd11 ct11 : Value} (a11 : PySem.W.nsIn K mainGlobals "law" = some (some (.ref f11))) (l11 : K.lookup f11 = some ⟨oc11, od11, .func (PySem.W.fnOf "law" "law" (defArgs s_law) (defBody s_law) (defScope s_law) .none kV11 dc11 pm11 an11 cd11 ct11), sl11⟩) (c11 : PySem.W.codeIn K cd11 "law" = true) (k11 : PySem.W.keepIn K (.ref f11) = true)
    (y_all : PySem.W.nsIn K mainGlobals "all" = some none)
    (y_bool : PySem.W.nsIn K mainGlobals "bool" = some none)
    (y_isinstance : PySem.W.nsIn K mainGlobals "isinstance" = some none)
    (y_len : PySem.W.nsIn K mainGlobals "len" = some none)
    (y_list : PySem.W.nsIn K mainGlobals "list" = some none)
    (y_range : PySem.W.nsIn K mainGlobals "range" = some none)
    (y_sorted : PySem.W.nsIn K mainGlobals "sorted" = some none)
    (y_tuple : PySem.W.nsIn K mainGlobals "tuple" = some none) :
    LamX.LawAtS lw w K CX0 11 63 "_law_script" mg fa h := by
  letI : Tb := ⟨[(cP1, "words_in" ++ ".<locals>." ++ "<lambda>")]⟩
  have e := hfa.symm.trans (PySem.W.mg_of X G a11)
  cases e
  have d_parts_of : Df K mg "parts_of" s_parts_of ["wish"] := df_mk X G a0 l0 c0 k0 fun _ _ _ _ _ _ us hl => match us, hl with | [_], _ => rfl
  have d_words_in : DfC K mg "words_in" s_words_in ["wish"] cC1 := df_mkC X G a1 l1 c1 k1 fun _ _ _ _ _ _ us hl => match us, hl with | [_], _ => rfl
  have d_w_flow : Df K mg "_law_flow" s_w_flow ["_law_script"] := df_mk X G a2 l2 c2 k2 fun _ _ _ _ _ _ us hl => match us, hl with | [_], _ => rfl
  have d_w_pick : Df K mg "_law_pick" s_w_pick ["_law_flow_here", "_law_many"] := df_mk X G a3 l3 c3 k3 fun _ _ _ _ _ _ us hl => match us, hl with | [_, _], _ => rfl
  have d_w_alike : Df K mg "_law_alike" s_w_alike ["_law_found", "_law_due"] := df_mk X G a4 l4 c4 k4 fun _ _ _ _ _ _ us hl => match us, hl with | [_, _], _ => rfl
  have d_w_letters : Df K mg "_law_letters" s_w_letters ["_law_flow_here", "_law_many"] := df_mk X G a5 l5 c5 k5 fun _ _ _ _ _ _ us hl => match us, hl with | [_, _], _ => rfl
  have d_w_order : Df K mg "_law_order" s_w_order ["_law_word"] := df_mk X G a6 l6 c6 k6 fun _ _ _ _ _ _ us hl => match us, hl with | [_], _ => rfl
  have d_w_wish : Df K mg "_law_wish" s_w_wish ["_law_flow_here", "_law_letters_here", "_law_room", "_law_deep", "_law_most"] := df_mk X G a7 l7 c7 k7 fun _ _ _ _ _ _ us hl => match us, hl with | [_, _, _, _, _], _ => rfl
  have d_w_words_in : Df K mg "_law_words_in" s_w_words_in ["_law_wish_here"] := df_mk X G a8 l8 c8 k8 fun _ _ _ _ _ _ us hl => match us, hl with | [_], _ => rfl
  have d_w_any_wish : Df K mg "_law_any_wish" s_w_any_wish ["_law_flow_here", "_law_letters_here"] := df_mk X G a9 l9 c9 k9 fun _ _ _ _ _ _ us hl => match us, hl with | [_, _], _ => rfl
  have d_w_some_letters : Df K mg "_law_some_letters" s_w_some_letters ["_law_flow_here"] := df_mk X G a10 l10 c10 k10 fun _ _ _ _ _ _ us hl => match us, hl with | [_], _ => rfl
  have z_all := PySem.W.mg_none_of X G y_all
  have z_bool := PySem.W.mg_none_of X G y_bool
  have z_isinstance := PySem.W.mg_none_of X G y_isinstance
  have z_len := PySem.W.mg_none_of X G y_len
  have z_list := PySem.W.mg_none_of X G y_list
  have z_range := PySem.W.mg_none_of X G y_range
  have z_sorted := PySem.W.mg_none_of X G y_sorted
  have z_tuple := PySem.W.mg_none_of X G y_tuple
  refine ⟨PySem.W.fnOf "law" "law" (defArgs s_law) (defBody s_law) (defScope s_law) .none kV11 dc11 pm11 an11 cd11 ct11, [(cC1, cP1)], spOf (S_law K), List.forall_mem_cons.mpr ⟨t1, fun p hp => absurd hp List.not_mem_nil⟩, List.forall_mem_cons.mpr ⟨n1, fun p hp => absurd hp List.not_mem_nil⟩, List.forall_mem_cons.mpr ⟨PySem.W.codeHd_of_K X h1, fun p hp => absurd hp List.not_mem_nil⟩, fun s v => .of_eq rfl, fun H a ns hl _ hH hS => law_sp ?tabs hl hS, fun base _ _ TBs => ?go⟩
  case tabs =>
    exact List.forall_mem_cons.mpr ⟨LamX.TabS.nil (hH (cC1, cP1) (by simp)), fun p hp => absurd hp List.not_mem_nil⟩
  case go =>
    have gl_words_in : LamIn mg base "words_in" cC1 cP1 := ⟨TBs (cC1, cP1) (by simp), by show _ ∈ [((cP1, "words_in" ++ ".<locals>." ++ "<lambda>") : Addr × Str)]; simp, List.forall_mem_cons.mpr ⟨(fun _ => rfl), fun p hp => absurd hp List.not_mem_nil⟩⟩
    have c_parts_of := ok_parts_of (P := lw.prog) (w := w) (base := base) d_parts_of z_len z_list
    have c_words_in := ok_words_in (P := lw.prog) (w := w) (base := base) d_words_in gl_words_in c_parts_of z_len z_list z_sorted
    have c_w_flow := ok_w_flow (P := lw.prog) (w := w) (base := base) d_w_flow z_list
    have c_w_pick := ok_w_pick (P := lw.prog) (w := w) (base := base) d_w_pick z_len
    have c_w_alike := ok_w_alike (P := lw.prog) (w := w) (base := base) d_w_alike z_all z_bool z_isinstance z_len z_list z_range z_tuple 6
    have c_w_letters := ok_w_letters (P := lw.prog) (w := w) (base := base) d_w_letters c_w_pick z_len z_list z_range z_sorted
    have c_w_order := ok_w_order (P := lw.prog) (w := w) (base := base) d_w_order z_len
    have c_w_wish := ok_w_wish (P := lw.prog) (w := w) (base := base) d_w_wish c_w_pick z_len z_range 7
    have c_w_words_in := ok_w_words_in (P := lw.prog) (w := w) (base := base) d_w_words_in c_w_order z_list z_sorted 7
    have c_w_any_wish := ok_w_any_wish (P := lw.prog) (w := w) (base := base) d_w_any_wish c_w_wish c_w_pick
    have c_w_some_letters := ok_w_some_letters (P := lw.prog) (w := w) (base := base) d_w_some_letters c_w_letters c_w_pick
    exact fn_law (fun_mk (st := s_law) l11 c11 k11) c_w_flow c_w_some_letters c_w_any_wish c_w_words_in c_words_in c_w_alike z_range
end Lw
open PySem PySem.W PyProof.Rows
set_option maxHeartbeats 0 in
theorem PySem.Challenge.cw_spreadwords_k29_words_in_wishes_holds : PySem.Challenge.rw_spreadwords_k29_words_in_wishes.Holds := by
  w_on; o_law; k_head; (case hw => w_witness2)
  k_fill
  refine LamX.walk_ofTs (l := PySem.Challenge.rw_spreadwords_k29_words_in_wishes) (n := 63) (k := 11) (x := "_law_script") (CX := fun _ => L2.CX0) rfl (by decide) rfl ⟨rfl, by decide, by decide⟩ (fun w h Y => PySem.W.km_in_of Y) ?F (fun _ _ _ _ _ h => h)
  case F =>
    intro w mg fa h Y KX G hmg
    refine' Lw.all_mk KX G hmg ?a0 ?l0 ?c0 ?k0 ?a1 ?l1 ?c1 ?k1 ?h1 ?n1 ?t1 ?a2 ?l2 ?c2 ?k2 ?a3 ?l3 ?c3 ?k3 ?a4 ?l4 ?c4 ?k4 ?a5 ?l5 ?c5 ?k5 ?a6 ?l6 ?c6 ?k6 ?a7 ?l7 ?c7 ?k7 ?a8 ?l8 ?c8 ?k8 ?a9 ?l9 ?c9 ?k9 ?a10 ?l10 ?c10 ?k10 ?a11 ?l11 ?c11 ?k11 ?y_all ?y_bool ?y_isinstance ?y_len ?y_list ?y_range ?y_sorted ?y_tuple
    (case a0 => k_is); (case l0 => k_is); (case c0 => k_is); (case k0 => k_is); (case a1 => k_is); (case l1 => k_is); (case c1 => k_is); (case k1 => k_is); (case a2 => k_is); (case l2 => k_is); (case c2 => k_is); (case k2 => k_is); (case a3 => k_is); (case l3 => k_is); (case c3 => k_is); (case k3 => k_is); (case a4 => k_is); (case l4 => k_is); (case c4 => k_is); (case k4 => k_is); (case a5 => k_is); (case l5 => k_is); (case c5 => k_is); (case k5 => k_is); (case a6 => k_is); (case l6 => k_is); (case c6 => k_is); (case k6 => k_is); (case a7 => k_is); (case l7 => k_is); (case c7 => k_is); (case k7 => k_is); (case a8 => k_is); (case l8 => k_is); (case c8 => k_is); (case k8 => k_is); (case a9 => k_is); (case l9 => k_is); (case c9 => k_is); (case k9 => k_is); (case a10 => k_is); (case l10 => k_is); (case c10 => k_is); (case k10 => k_is); (case a11 => k_is); (case l11 => k_is); (case c11 => k_is); (case k11 => k_is); (case y_all => k_is); (case y_bool => k_is); (case y_isinstance => k_is); (case y_len => k_is); (case y_list => k_is); (case y_range => k_is); (case y_sorted => k_is); (case y_tuple => k_is); (first | ((case t1 => exact PySem.W.km_tabs_of Y _ (List.Mem.head _)); (case h1 => kernel_rfl))); (case n1 => first | rfl | kernel_rfl)
